import PyProof.Rows.All
import Wide.All
import OpenK.AllK
import Wide.FinOn
import HandS.Base
import HandS.Call
import HandS.List
import HandS.Comp
import HandS.Ends
import HandS.Dict
import HandS.Iter
import HandS.Text
import HandS.Words
import HandS.WordsList
import HandS.WordsDict
import HandS.WordsExc
import HandS.Exc
import HandS.TryOnly
import HandS.ExcOwn
import HandS.Walk
import HandS.Defaults
import HandS.CallSlots
import HandS.TupAny
import HandS.TupMul
import HandS.IsInst
import KE.DataEq
import HandS.More
import HandS.Gcd
import KE.GoesMore
import KE.GoesEnum
import KE.GoesZip
import HandS.Rev
import KE.KMinKey
import HandS.SortKw
import KE.KStateDown
import HandS.Head0
import HandS.Head1
import HandS.Head2
import HandS.HeadEnd
import HandS.HeadHook1
import HandS.HeadHook2
import PySem.Challenge.RW_gatehold_k74_desks_more_never_longer
set_option Elab.async false
set_option linter.all false
set_option maxRecDepth 100000
set_option maxHeartbeats 4000000
/-! Pv, part A: values as trees, a small memory of cells, the syntax of a plain language and what it computes. -/
namespace Pv
open PySem

/-- a value: data is a tree; loc n is the n-th cell of the memory (something that is changed in place) -/
inductive D where
  | non | bl (b : Bool) | int (i : Int) | str (s : List Nat) | tup (ds : List D) | lst (ds : List D) | loc (n : Nat)
  /-- a list (true) or a tuple that is only read: the script, a constant of a module -/
  | ro (l : Bool) (ds : List D)
  deriving Inhabited

/-- a key of a dict: an int or a text -/
abbrev Ky := Sum Int (List Nat)
inductive Cell where
  | lst (ds : List D)
  | dK (kvs : List (Ky × D))
  | dT (kvs : List (List Ky × D))
  deriving Inhabited
abbrev Mem := List Cell
abbrev Env := List (Option D)

inductive Res (α : Type) where
  | ok (a : α) (M : Mem) | exc (x : Nat) (vs : List D) (M : Mem) | bad
  deriving Inhabited
@[simp] def Res.bind {α β : Type} (r : Res α) (f : α → Mem → Res β) : Res β := match r with
  | .ok a M => f a M
  | .exc x vs M => .exc x vs M
  | .bad => .bad
/-- an option as a result -/
@[simp] def Res.opt {α : Type} (o : Option α) (M : Mem) : Res α := match o with
  | some a => .ok a M
  | none => .bad
/-- how a statement ends -/
inductive RS where
  | nx (ρ : Env) (M : Mem) | ret (d : D) (M : Mem) | brk (ρ : Env) (M : Mem) | cnt (ρ : Env) (M : Mem) | exc (x : Nat) (vs : List D) (ρ : Env) (M : Mem) | bad
  deriving Inhabited
@[simp] def RS.seq (r : RS) (f : Env → Mem → RS) : RS := match r with
  | .nx ρ M => f ρ M
  | r => r
@[simp] def Res.toRS {α : Type} (r : Res α) (ρ : Env) (f : α → Mem → RS) : RS := match r with
  | .ok a M => f a M
  | .exc x vs M => .exc x vs ρ M
  | .bad => .bad

/-! ### syntax -/
inductive Op2 where | add | sub | mul | fdiv | mod | pow | shl | shr | band | bor
  deriving DecidableEq
inductive CmpO where | eq | ne | lt | le | gt | ge | is_ | isnt | inn | notin
  deriving DecidableEq
inductive Ty where | int | bool | str | lst | tup | dct
  deriving DecidableEq
inductive Blt where
  | len | tuple | list | int | abs | max2 | min2 | max1 | min1 | maxd | mind | sum | sorted | all | any | str1
  deriving DecidableEq
inductive Mth where | append | pop0 | get1 | get2 | index | join
  deriving DecidableEq
/-- what is walked -/
inductive ItK where | seq | rng | enum | zip | rev | str | keys | items | values
  deriving DecidableEq
inductive Tg where
  | name (i : Nat) | tup (ts : List Tg)
inductive Ex where
  | var (i : Nat) | cst (d : D) | glob (n : Nat)
  | op (o : Op2) (a b : Ex) | neg (a : Ex)
  | cmp (o : CmpO) (a b : Ex) | cmp2 (o o' : CmpO) (a b c : Ex)
  | land (es : List Ex) | lor (es : List Ex) | lnot (a : Ex) | ite (t a b : Ex)
  | tup (es : List Ex) | lst (es : List Ex) | lstC (es : List Ex) | dictK | dictT
  | idx (a i : Ex) | slc (a lo hi : Ex)
  | isi (a : Ex) (ts : List Ty)
  | call (f : Nat) (es : List Ex)
  | blt (b : Blt) (es : List Ex)
  | lenset (a : Ex)
  /-- a list that was just made: a cell -/
  | cell (e : Ex)
  | meth (m : Mth) (o : Ex) (es : List Ex)
  | comp (own : List Nat) (tg : Tg) (k : ItK) (es : List Ex) (ts : List Ex) (elt : Ex)
  | never
def Ex.isNon : Ex → Bool
  | .cst .non => true
  | _ => false
inductive Stm where
  | asg (t : Tg) (e : Ex) | par (i j : Nat) (a b : Ex) | aug (i : Nat) (o : Op2) (e : Ex) | setI (o i e : Ex)
  | expr (e : Ex) | ret (e : Ex) | ite (t : Ex) (a b : List Stm)
  | for_ (tg : Tg) (k : ItK) (es : List Ex) (body : List Stm) | whl (n : Nat) (t : Ex) (body : List Stm)
  | brk | cnt | pass | raise (x : Nat) (es : List Ex) | try_ (body : List Stm) (x : Nat) (h : List Stm)
  | never
/-- what becomes of the memory at a def's end: kept as it is; back to what stood at its begin, and the value frozen -/
inductive Mode where | keep | drop | own
  deriving DecidableEq
structure Def where
  np : Nat
  n : Nat
  dfl : List D
  body : List Stm
  mode : Mode

/-! ### data -/
mutual
def D.beq : D → D → Bool
  | .non, .non => true
  | .bl a, .bl b => a == b
  | .int a, .int b => decide (a = b)
  | .str a, .str b => decide (a = b)
  | .tup a, .tup b => D.beqs a b
  | .lst a, .lst b => D.beqs a b
  | .loc a, .loc b => decide (a = b)
  | .ro k a, .ro l b => (k == l) && D.beqs a b
  | _, _ => false
def D.beqs : List D → List D → Bool
  | [], [] => true
  | x :: xs, y :: ys => D.beq x y && D.beqs xs ys
  | _, _ => false
end
mutual
theorem D.beq_eq : ∀ a b : D, D.beq a b = true → a = b
  | .non, b, h => by cases b <;> first | rfl | (simp [D.beq] at h)
  | .bl x, b, h => by cases b <;> first | (simp [D.beq] at h; rw [h]) | (simp [D.beq] at h)
  | .int x, b, h => by cases b <;> first | (simp [D.beq] at h; rw [h]) | (simp [D.beq] at h)
  | .str x, b, h => by cases b <;> first | (simp [D.beq] at h; rw [h]) | (simp [D.beq] at h)
  | .tup xs, b, h => by
    cases b with
    | tup ys => rw [D.beqs_eq xs ys (by simpa [D.beq] using h)]
    | _ => simp [D.beq] at h
  | .lst xs, b, h => by
    cases b with
    | lst ys => rw [D.beqs_eq xs ys (by simpa [D.beq] using h)]
    | _ => simp [D.beq] at h
  | .loc x, b, h => by cases b <;> first | (simp [D.beq] at h; rw [h]) | (simp [D.beq] at h)
  | .ro k xs, b, h => by
    cases b with
    | ro l ys =>
      have h2 : k = l ∧ D.beqs xs ys = true := by simpa [D.beq] using h
      rw [h2.1, D.beqs_eq xs ys h2.2]
    | _ => simp [D.beq] at h
theorem D.beqs_eq : ∀ a b : List D, D.beqs a b = true → a = b
  | [], b, h => by cases b <;> first | rfl | (simp [D.beqs] at h)
  | x :: xs, b, h => by
    cases b with
    | nil => simp [D.beqs] at h
    | cons y ys =>
      have h2 : D.beq x y = true ∧ D.beqs xs ys = true := by simpa [D.beqs] using h
      rw [D.beq_eq x y h2.1, D.beqs_eq xs ys h2.2]
end
mutual
theorem D.beq_refl : ∀ a : D, D.beq a a = true
  | .non => rfl
  | .bl _ => by simp [D.beq]
  | .int _ => by simp [D.beq]
  | .str _ => by simp [D.beq]
  | .tup xs => by rw [D.beq]; exact D.beqs_refl xs
  | .lst xs => by rw [D.beq]; exact D.beqs_refl xs
  | .loc _ => by simp [D.beq]
  | .ro _ xs => by rw [D.beq, D.beqs_refl xs]; simp
theorem D.beqs_refl : ∀ a : List D, D.beqs a a = true
  | [] => rfl
  | x :: xs => by rw [D.beqs, D.beq_refl x, D.beqs_refl xs]; rfl
end
mutual
/-- no cells within, and at most so deep -/
def D.okD : Nat → D → Bool
  | _, .non => true
  | _, .bl _ => true
  | _, .int _ => true
  | _, .str _ => true
  | n, .tup ds => match n with
    | 0 => false
    | n + 1 => D.okDs n ds
  | n, .lst ds => match n with
    | 0 => false
    | n + 1 => D.okDs n ds
  | _, .loc _ => false
  | _, .ro _ _ => false
def D.okDs : Nat → List D → Bool
  | _, [] => true
  | n, d :: ds => D.okD n d && D.okDs n ds
end
mutual
/-- Python's == (of values without cells and read-only ones) -/
def D.eqv : D → D → Bool
  | .non, .non => true
  | .bl a, .bl b => a == b
  | .bl a, .int j => decide ((if a then 1 else 0) = j)
  | .int i, .bl b => decide (i = (if b then 1 else 0))
  | .int i, .int j => decide (i = j)
  | .str x, .str y => decide (x = y)
  | .lst xs, .lst ys => D.eqvs xs ys
  | .tup xs, .tup ys => D.eqvs xs ys
  | _, _ => false
def D.eqvs : List D → List D → Bool
  | [], [] => true
  | x :: xs, y :: ys => D.eqv x y && D.eqvs xs ys
  | _, _ => false
end
def D.isNon : D → Bool
  | .non => true
  | _ => false
def D.flat : D → Bool
  | .non => true
  | .bl _ => true
  | .int _ => true
  | .str _ => true
  | _ => false
mutual
/-- all cells within are below n -/
def D.under (n : Nat) : D → Bool
  | .tup ds => D.unders n ds
  | .lst ds => D.unders n ds
  | .loc k => decide (k < n)
  | .ro _ ds => D.unders n ds
  | _ => true
def D.unders (n : Nat) : List D → Bool
  | [] => true
  | d :: ds => D.under n d && D.unders n ds
end
def Cell.under (n : Nat) : Cell → Bool
  | .lst ds => D.unders n ds
  | .dK kvs => kvs.all fun p => D.under n p.2
  | .dT kvs => kvs.all fun p => D.under n p.2
/-- a list's items: a tree, or what the cell holds -/
def seqOf (M : Mem) : D → Option (List D)
  | .tup ds => some ds
  | .lst ds => some ds
  | .ro _ ds => some ds
  | .loc n => match M[n]? with
    | some (.lst ds) => some ds
    | _ => none
  | _ => none
/-- a list that stands in the heap -/
def trkOf (M : Mem) : D → Option (List D)
  | .lst ds => some ds
  | .loc n => match M[n]? with
    | some (.lst ds) => some ds
    | _ => none
  | _ => none
def lstOf (M : Mem) : D → Option (List D)
  | .lst ds => some ds
  | .ro true ds => some ds
  | .loc n => match M[n]? with
    | some (.lst ds) => some ds
    | _ => none
  | _ => none
/-- a list in a cell as a tree, at the top -/
def topOf (M : Mem) : D → D
  | .loc n => match M[n]? with
    | some (.lst ds) => .lst ds
    | _ => .loc n
  | d => d
def line : Nat := 16777216
def eqDepth : Nat := 8

/-! ### operators -/
def mulOk (i j : Int) : Prop := (-(2 ^ 64) < i ∧ i < 2 ^ 64) ∨ (-(2 ^ 64) < j ∧ j < 2 ^ 64)
instance (i j : Int) : Decidable (mulOk i j) := by unfold mulOk; exact inferInstance
def opI : Op2 → Int → Int → Option Int
  | .add, i, j => some (i + j)
  | .sub, i, j => some (i - j)
  | .mul, i, j => if mulOk i j then some (i * j) else none
  | .fdiv, i, j => if 0 < j ∧ j < 1073741824 then some (i / j) else none
  | .mod, i, j => if 0 < j then some (i % j) else none
  | .pow, i, j => if 0 ≤ j ∧ j ≤ 1000 ∧ i.natAbs < 2 ^ 64 then some (i ^ j.toNat) else none
  | .shl, i, j => if 0 ≤ j ∧ j ≤ 1000 ∧ i.natAbs < 2 ^ 64 then some (i * 2 ^ j.toNat) else none
  | .shr, i, j => if 0 ≤ j then some (i / 2 ^ j.toNat) else none
  | .band, i, j => some (Builtin.bitAnd i j)
  | .bor, i, j => some (Builtin.bitOr i j)
def opS (M : Mem) (o : Op2) (a b : D) : Option D := match a, b with
  | .int i, .int j => (opI o i j).map D.int
  | .str s, .str t => match o with
    | .add => if s.length + t.length ≤ line then some (.str (s ++ t)) else none
    | _ => none
  | .tup xs, .tup ys => match o with
    | .add => if xs.length + ys.length ≤ line then some (.tup (xs ++ ys)) else none
    | _ => none
  | .tup xs, .int j => match o with
    | .mul => if 2 ≤ j ∧ j ≤ 1000 ∧ xs.length ≤ 1000 ∧ 0 < xs.length then some (.tup (List.replicate j.toNat xs).flatten) else none
    | _ => none
  | a, b => match o with
    | .add => match trkOf M a, trkOf M b with
      | some xs, some ys => if xs.length + ys.length ≤ line then some (.lst (xs ++ ys)) else none
      | _, _ => none
    | .mul => match trkOf M a, b with
      | some xs, .int j => if 0 ≤ j ∧ xs.length * j.toNat ≤ line ∧ j < 1000000 then some (.lst (List.replicate j.toNat xs).flatten) else none
      | _, _ => none
    | _ => none
def cmpI : CmpO → Int → Int → Option Bool
  | .lt, i, j => some (decide (i < j))
  | .le, i, j => some (decide (i ≤ j))
  | .gt, i, j => some (decide (j < i))
  | .ge, i, j => some (decide (j ≤ i))
  | _, _, _ => none
def cmpT : CmpO → List Nat → List Nat → Option Bool
  | .lt, i, j => some (decide (i < j))
  | .le, i, j => some (decide (i ≤ j))
  | .gt, i, j => some (decide (j < i))
  | .ge, i, j => some (decide (j ≤ i))
  | _, _, _ => none
def kyOf : D → Option Ky
  | .int i => some (.inl i)
  | .str s => some (.inr s)
  | _ => none
def kysOf : List D → Option (List Ky)
  | [] => some []
  | d :: ds => match kyOf d, kysOf ds with
    | some k, some ks => some (k :: ks)
    | _, _ => none
def dOf : Ky → D
  | .inl i => .int i
  | .inr s => .str s
def dGet {κ : Type} [DecidableEq κ] (kvs : List (κ × D)) (k : κ) : Option D := (kvs.find? fun kv => decide (kv.1 = k)).map (·.2)
def dPut {κ : Type} [DecidableEq κ] (kvs : List (κ × D)) (k : κ) (v : D) : List (κ × D) :=
  if kvs.any fun kv => decide (kv.1 = k) then kvs.map fun kv => if kv.1 = k then (kv.1, v) else kv else kvs ++ [(k, v)]
def dDel {κ : Type} [DecidableEq κ] (kvs : List (κ × D)) (k : κ) : List (κ × D) := kvs.filter fun kv => decide (kv.1 ≠ k)
/-- what the dict holds at a key: none if it is no dict, or that no key -/
def dictGet (M : Mem) (o i : D) : Option (Option D) := match o with
  | .loc n => match M[n]? with
    | some (.dK kvs) => (kyOf i).map (dGet kvs)
    | some (.dT kvs) => match i with
      | .tup ks => (kysOf ks).map (dGet kvs)
      | _ => none
    | _ => none
  | _ => none
def eqS (M : Mem) (a b : D) : Option Bool :=
  let x := topOf M a
  let y := topOf M b
  if D.okD eqDepth x && D.okD eqDepth y then some (D.eqv x y) else none
def inS (M : Mem) (a b : D) : Option Bool := match b with
  | .str t => match a with
    | .str [c] => some (decide (c ∈ t))
    | _ => none
  | b => match seqOf M b with
    | some ds => if a.flat && ds.all D.flat then some (ds.any fun d => D.eqv d a) else none
    | none => (dictGet M b a).map (·.isSome)
def cmpS (M : Mem) (o : CmpO) (a b : D) : Option Bool := match o with
  | .eq => eqS M a b
  | .ne => (eqS M a b).map (!·)
  | .is_ => match b with
    | .non => some a.isNon
    | _ => none
  | .isnt => match b with
    | .non => some (!a.isNon)
    | _ => none
  | .inn => inS M a b
  | .notin => (inS M a b).map (!·)
  | o => match a, b with
    | .int i, .int j => cmpI o i j
    | .str s, .str t => cmpT o s t
    | _, _ => none
/-- truth -/
def truS (M : Mem) : D → Option Bool
  | .non => some false
  | .bl b => some b
  | .int i => some (i != 0)
  | .str s => if s.length ≤ line then some (!s.isEmpty) else none
  | .tup ds => some (!ds.isEmpty)
  | .lst ds => some (!ds.isEmpty)
  | .ro _ ds => some (!ds.isEmpty)
  | .loc n => match M[n]? with
    | some (.lst ds) => some (!ds.isEmpty)
    | some (.dK kvs) => some (!kvs.isEmpty)
    | _ => none
def blS : D → Option Bool
  | .bl b => some b
  | _ => none
def isTy (M : Mem) (d : D) : Ty → Bool
  | .int => match d with | .int _ => true | .bl _ => true | _ => false
  | .bool => match d with | .bl _ => true | _ => false
  | .str => match d with | .str _ => true | _ => false
  | .tup => match d with | .tup _ => true | .ro false _ => true | _ => false
  | .lst => match d with
    | .lst _ => true
    | .ro true _ => true
    | .loc n => match M[n]? with
      | some (.lst _) => true
      | _ => false
    | _ => false
  | .dct => match d with
    | .loc n => match M[n]? with
      | some (.lst _) => false
      | some _ => true
      | _ => false
    | _ => false
def isiS (M : Mem) (d : D) (ts : List Ty) : Option Bool := match d with
  | .loc n => match M[n]? with
    | some _ => some (ts.any (isTy M d))
    | none => none
  | _ => some (ts.any (isTy M d))

/-! ### places -/
def ixN (n : Nat) (i : Int) : Option Nat := if 0 ≤ i then (if i < n then some i.toNat else none) else if -(n : Int) ≤ i then some (i + n).toNat else none
def atI {α : Type} (xs : List α) (i : Int) : Option α := (ixN xs.length i).bind fun j => xs[j]?
def sIx (n d : Nat) : Option Int → Nat
  | none => d
  | some v => if v < 0 then (v + n).toNat else min v.toNat n
def cut {α : Type} (xs : List α) (lo hi : Option Int) : List α := (xs.drop (sIx xs.length 0 lo)).take (sIx xs.length xs.length hi - sIx xs.length 0 lo)
def idxQ (M : Mem) (a i : D) : Option D := match i with
  | .int k => match a with
    | .str s => if s.length ≤ line then (atI s k).map fun c => D.str [c] else none
    | a => match seqOf M a with
      | some ds => atI ds k
      | none => none
  | _ => none
def idxS (M : Mem) (a i : D) : Option D := match dictGet M a i with
  | some r => r
  | none => idxQ M a i
def partQ : Bool → D → Option (Option Int)
  | true, _ => some none
  | false, .int i => some (some i)
  | false, _ => none
def slcS (M : Mem) (a : D) (lo hi : Option Int) : Option D := match a with
  | .str s => if s.length ≤ line then some (.str (cut s lo hi)) else none
  | .tup ds => some (.tup (cut ds lo hi))
  | a => (lstOf M a).map fun ds => D.lst (cut ds lo hi)

/-! ### built-ins -/
def intsOf : List D → Option (List Int)
  | [] => some []
  | .int i :: ds => (intsOf ds).map (i :: ·)
  | _ => none
def blsOf : List D → Option (List Bool)
  | [] => some []
  | .bl i :: ds => (blsOf ds).map (i :: ·)
  | _ => none
def maxL : List Int → Option Int
  | [] => none
  | [x] => some x
  | x :: xs => (maxL xs).map fun m => max x m
def minL : List Int → Option Int
  | [] => none
  | [x] => some x
  | x :: xs => (minL xs).map fun m => min x m
def lenS (M : Mem) (d : D) : Option D := match d with
  | .str s => if s.length ≤ line then some (.int s.length) else none
  | .loc n => match M[n]? with
    | some (.lst ds) => some (.int ds.length)
    | some (.dK ds) => some (.int ds.length)
    | _ => none
  | d => (seqOf M d).map fun ds => D.int ds.length
def tupS (M : Mem) (d : D) : Option D := match d with
  | .tup ds => some (.tup ds)
  | d => (lstOf M d).map D.tup
def bltS (M : Mem) (b : Blt) (ds : List D) : Option D := match b with
  | .len => match ds with
    | [d] => lenS M d
    | _ => none
  | .tuple => match ds with
    | [d] => tupS M d
    | _ => none
  | .list => match ds with
    | [d] => (seqOf M d).map D.lst
    | _ => none
  | .int => match ds with
    | [.int i] => some (.int i)
    | [.bl b] => some (.int (if b then 1 else 0))
    | _ => none
  | .abs => match ds with
    | [.int i] => some (.int (if i < 0 then -i else i))
    | _ => none
  | .max2 => match ds with
    | [.int i, .int j] => some (.int (if j > i then j else i))
    | _ => none
  | .min2 => match ds with
    | [.int i, .int j] => some (.int (if j < i then j else i))
    | _ => none
  | .max1 => match ds with
    | [d] => (((seqOf M d).bind intsOf).bind maxL).map D.int
    | _ => none
  | .min1 => match ds with
    | [d] => (((seqOf M d).bind intsOf).bind minL).map D.int
    | _ => none
  | .maxd => match ds with
    | [d, e] => ((seqOf M d).bind intsOf).map fun ns => match maxL ns with | some m => D.int m | none => e
    | _ => none
  | .mind => match ds with
    | [d, e] => ((seqOf M d).bind intsOf).map fun ns => match minL ns with | some m => D.int m | none => e
    | _ => none
  | .sum => match ds with
    | [d] => ((lstOf M d).bind intsOf).map fun ns => D.int ns.sum
    | _ => none
  | .all => match ds with
    | [d] => ((lstOf M d).bind blsOf).map fun bs => D.bl (bs.all id)
    | _ => none
  | .any => match ds with
    | [d] => ((lstOf M d).bind blsOf).map fun bs => D.bl (bs.any id)
    | _ => none
  | _ => none

/-! ### targets, what is walked -/
mutual
def asgT : Tg → D → Env → Option Env
  | .name i, d, ρ => if i < ρ.length then some (ρ.set i (some d)) else none
  | .tup ts, .tup ds, ρ => asgTs ts ds ρ
  | .tup _, _, _ => none
def asgTs : List Tg → List D → Env → Option Env
  | [], [], ρ => some ρ
  | t :: ts, d :: ds, ρ => match asgT t d ρ with
    | some ρ' => asgTs ts ds ρ'
    | none => none
  | _, _, _ => none
end
/-- the items, and the cells that must stay as they are meanwhile -/
structure Itm where
  ds : List D
  gd : List (Nat × List D)
def gdOf (M : Mem) : D → List (Nat × List D)
  | .loc n => match M[n]? with
    | some (.lst ds) => [(n, ds)]
    | _ => []
  | _ => []
def hold1 (M : Mem) (p : Nat × List D) : Bool := match M[p.1]? with
  | some (.lst es) => D.beqs p.2 es
  | _ => false
def holds (M : Mem) (l : List (Nat × List D)) : Bool := l.all (hold1 M)
def rngI (lo : Int) (n : Nat) : List D := (List.range n).map fun (k : Nat) => D.int (lo + (k : Int))
def zipD : List D → List D → List D
  | x :: xs, y :: ys => .tup [x, y] :: zipD xs ys
  | _, _ => []
def enumD (k : Nat) : List D → List D
  | [] => []
  | x :: xs => .tup [.int k, x] :: enumD (k + 1) xs
def inR (i : Int) : Prop := -(2 ^ 62) ≤ i ∧ i < 2 ^ 62
instance (i : Int) : Decidable (inR i) := by unfold inR; exact inferInstance
def itS (M : Mem) : ItK → List D → Option Itm
  | .seq, [d] => (seqOf M d).map fun ds => ⟨ds, gdOf M d⟩
  | .rng, [.int j] => if inR j then some ⟨rngI 0 j.toNat, []⟩ else none
  | .rng, [.int i, .int j] => if inR i ∧ inR j then some ⟨rngI i (j - i).toNat, []⟩ else none
  | .str, [.str s] => some ⟨s.map fun c => D.str [c], []⟩
  | .enum, [d] => (seqOf M d).map fun ds => ⟨enumD 0 ds, gdOf M d⟩
  | .zip, [a, b] => match seqOf M a, seqOf M b with
    | some xs, some ys => some ⟨zipD xs ys, gdOf M a ++ gdOf M b⟩
    | _, _ => none
  | .rev, [d] => (seqOf M d).map fun ds => ⟨ds.reverse, gdOf M d⟩
  | _, _ => none

/-- a comprehension's turns: f gives an item, or none if its test says no -/
def evC (gd : List (Nat × List D)) (f : D → Mem → Res (Option D)) : List D → List D → Mem → Res (List D)
  | [], acc, M => if holds M gd then .ok acc M else .bad
  | d :: ds, acc, M => if holds M gd then match f d M with
    | .ok (some y) M' => evC gd f ds (acc ++ [y]) M'
    | .ok none M' => evC gd f ds acc M'
    | _ => .bad
    else .bad
/-- a for's turns -/
def evF (gd : List (Nat × List D)) (b : D → Env → Option Env) (f : Env → Mem → RS) : List D → Env → Mem → RS
  | [], ρ, M => if holds M gd then .nx ρ M else .bad
  | d :: ds, ρ, M => if holds M gd then match b d ρ with
    | none => .bad
    | some ρ1 => match f ρ1 M with
      | .nx ρ' M' => evF gd b f ds ρ' M'
      | .cnt ρ' M' => evF gd b f ds ρ' M'
      | .brk ρ' M' => .nx ρ' M'
      | r => r
    else .bad
/-- a while's turns, at most n -/
def evW (t : Env → Mem → Res Bool) (f : Env → Mem → RS) : Nat → Env → Mem → RS
  | 0, _, _ => .bad
  | n + 1, ρ, M => match t ρ M with
    | .ok true M1 => match f ρ M1 with
      | .nx ρ' M' => evW t f n ρ' M'
      | .cnt ρ' M' => evW t f n ρ' M'
      | .brk ρ' M' => .nx ρ' M'
      | r => r
    | .ok false M1 => .nx ρ M1
    | .exc x vs M1 => .exc x vs ρ M1
    | .bad => .bad
def wipeD (ρ : Env) : List Nat → Env
  | [] => ρ
  | v :: vs => (wipeD ρ vs).set v none

/-! ### what a text computes -/
/-- F: what a def of the program computes, by its number; G: the module's constants -/
abbrev Fn := Nat → List D → Mem → Res D
structure Ctx where
  F : Fn
  G : Nat → Option D
/-- what a method wants of its object -/
def recv (m : Mth) (x : D) (M : Mem) : Bool := match x with
  | .loc n => match m, M[n]? with
    | .append, some (.lst _) => true
    | .pop0, some (.lst _) => true
    | .get1, some (.dK _) => true
    | .get2, some (.dK _) => true
    | _, _ => false
  | .str _ => match m with
    | .join => true
    | _ => false
  | _ => false
def mthS (m : Mth) (o : D) (ds : List D) (M : Mem) : Res D := match m, o, ds with
  | .append, .loc n, [d] => match M[n]? with
    | some (.lst xs) => if xs.length < line then .ok .non (M.set n (.lst (xs ++ [d]))) else .bad
    | _ => .bad
  | .pop0, .loc n, [] => match M[n]? with
    | some (.lst xs) => match xs[xs.length - 1]? with
      | some y => .ok y (M.set n (.lst xs.dropLast))
      | none => .bad
    | _ => .bad
  | .get1, .loc n, [k] => match M[n]?, kyOf k with
    | some (.dK kvs), some k => .ok ((dGet kvs k).getD .non) M
    | _, _ => .bad
  | .get2, .loc n, [k, e] => match M[n]?, kyOf k with
    | some (.dK kvs), some k => .ok ((dGet kvs k).getD e) M
    | _, _ => .bad
  | _, _, _ => .bad
def setS (o i v : D) (M : Mem) : Option Mem := match o with
  | .loc n => match M[n]? with
    | some (.lst ds) => match i with
      | .int k => (ixN ds.length k).map fun j => M.set n (.lst (ds.set j v))
      | _ => none
    | some (.dK kvs) => (kyOf i).bind fun k => if kvs.length < line then some (M.set n (.dK (dPut kvs k v))) else none
    | some (.dT kvs) => match i with
      | .tup ks => (kysOf ks).bind fun k => if kvs.length < line then some (M.set n (.dT (dPut kvs k v))) else none
      | _ => none
    | none => none
  | _ => none
mutual
def evE (C : Ctx) : Ex → Env → Mem → Res D
  | .var i, ρ, M => match ρ[i]? with
    | some (some d) => .ok d M
    | _ => .bad
  | .cst d, _, M => .ok d M
  | .glob n, _, M => .opt (C.G n) M
  | .op o a b, ρ, M => (evE C a ρ M).bind fun x M1 => (evE C b ρ M1).bind fun y M2 => .opt (opS M2 o x y) M2
  | .neg a, ρ, M => (evE C a ρ M).bind fun x M1 => match x with
    | .int i => .ok (.int (-i)) M1
    | _ => .bad
  | .cmp o a b, ρ, M => (evE C a ρ M).bind fun x M1 => (evE C b ρ M1).bind fun y M2 => .opt ((cmpS M2 o x y).map D.bl) M2
  | .cmp2 o o' a b c, ρ, M => (evE C a ρ M).bind fun x M1 => (evE C b ρ M1).bind fun y M2 => match cmpS M2 o x y with
    | some true => (evE C c ρ M2).bind fun z M3 => .opt ((cmpS M3 o' y z).map D.bl) M3
    | some false => .ok (.bl false) M2
    | none => .bad
  | .land es, ρ, M => evAnd C es ρ M
  | .lor es, ρ, M => evOr C es ρ M
  | .lnot a, ρ, M => (evE C a ρ M).bind fun x M1 => .opt ((blS x).map fun b => D.bl (!b)) M1
  | .ite t a b, ρ, M => (evT C t ρ M).bind fun k M1 => if k then evE C a ρ M1 else evE C b ρ M1
  | .tup es, ρ, M => (evEs C es ρ M).bind fun ds M1 => .ok (.tup ds) M1
  | .lst es, ρ, M => (evEs C es ρ M).bind fun ds M1 => .ok (.lst ds) M1
  | .lstC es, ρ, M => (evEs C es ρ M).bind fun ds M1 => .ok (.loc M1.length) (M1 ++ [.lst ds])
  | .dictK, _, M => .ok (.loc M.length) (M ++ [.dK []])
  | .dictT, _, M => .ok (.loc M.length) (M ++ [.dT []])
  | .idx a i, ρ, M => (evE C a ρ M).bind fun x M1 => (evE C i ρ M1).bind fun y M2 => .opt (idxS M2 x y) M2
  | .slc a lo hi, ρ, M => (evE C a ρ M).bind fun x M1 => ((evE C lo ρ M1).bind fun l M2 => .opt (partQ lo.isNon l) M2).bind fun l M2 => ((evE C hi ρ M2).bind fun h M3 => .opt (partQ hi.isNon h) M3).bind fun h M3 => .opt (slcS M3 x l h) M3
  | .isi a ts, ρ, M => (evE C a ρ M).bind fun x M1 => .opt ((isiS M1 x ts).map D.bl) M1
  | .call f es, ρ, M => (evEs C es ρ M).bind fun ds M1 => C.F f ds M1
  | .blt b es, ρ, M => (evEs C es ρ M).bind fun ds M1 => .opt (bltS M1 b ds) M1
  | .lenset _, _, _ => .bad
  | .cell e, ρ, M => (evE C e ρ M).bind fun d M1 => match d with
    | .lst ds => .ok (.loc M1.length) (M1 ++ [.lst ds])
    | _ => .bad
  | .meth m o es, ρ, M => (evE C o ρ M).bind fun x M1 => if recv m x M1 then (evEs C es ρ M1).bind fun ds M2 => mthS m x ds M2 else .bad
  | .comp own tg k es ts elt, ρ, M => (evEs C es ρ M).bind fun ds M1 => match itS M1 k ds with
    | some it => if it.ds.length ≤ line then (evC it.gd (fun d M => match asgT tg d (wipeD ρ own) with
      | some ρ1 => (evTs C ts ρ1 M).bind fun b M2 => if b then (evE C elt ρ1 M2).bind fun y M3 => .ok (some y) M3 else .ok none M2
      | none => .bad) it.ds [] M1).bind fun ys M2 => .ok (.lst ys) M2 else .bad
    | none => .bad
  | .never, _, _ => .bad
/-- a test -/
def evT (C : Ctx) : Ex → Env → Mem → Res Bool
  | .land es, ρ, M => evTAnd C es ρ M
  | .lor es, ρ, M => evTOr C es ρ M
  | .lnot a, ρ, M => (evT C a ρ M).bind fun x M1 => .ok (!x) M1
  | .var i, ρ, M => match ρ[i]? with
    | some (some d) => .opt (truS M d) M
    | _ => .bad
  | .cmp o a b, ρ, M => (evE C a ρ M).bind fun x M1 => (evE C b ρ M1).bind fun y M2 => .opt (cmpS M2 o x y) M2
  | .cmp2 o o' a b c, ρ, M => (evE C a ρ M).bind fun x M1 => (evE C b ρ M1).bind fun y M2 => match cmpS M2 o x y with
    | some true => (evE C c ρ M2).bind fun z M3 => .opt (cmpS M3 o' y z) M3
    | some false => .ok false M2
    | none => .bad
  | .isi a ts, ρ, M => (evE C a ρ M).bind fun x M1 => .opt (isiS M1 x ts) M1
  | .call f es, ρ, M => (evEs C es ρ M).bind fun ds M1 => (C.F f ds M1).bind fun x M2 => .opt (truS M2 x) M2
  | .blt b es, ρ, M => (evEs C es ρ M).bind fun ds M1 => .opt ((bltS M1 b ds).bind (truS M1)) M1
  | .idx a i, ρ, M => (evE C a ρ M).bind fun x M1 => (evE C i ρ M1).bind fun y M2 => .opt ((idxS M2 x y).bind (truS M2)) M2
  | .cst (.bl b), _, M => .ok b M
  | .op o a b, ρ, M => (evE C a ρ M).bind fun x M1 => (evE C b ρ M1).bind fun y M2 => .opt ((opS M2 o x y).bind (truS M2)) M2
  | _, _, _ => .bad
def evAnd (C : Ctx) : List Ex → Env → Mem → Res D
  | [], _, _ => .bad
  | [e], ρ, M => evE C e ρ M
  | e :: es, ρ, M => (evE C e ρ M).bind fun x M1 => match x with
    | .bl true => evAnd C es ρ M1
    | .bl false => .ok (.bl false) M1
    | _ => .bad
def evOr (C : Ctx) : List Ex → Env → Mem → Res D
  | [], _, _ => .bad
  | [e], ρ, M => evE C e ρ M
  | e :: es, ρ, M => (evE C e ρ M).bind fun x M1 => match x with
    | .bl false => evOr C es ρ M1
    | .bl true => .ok (.bl true) M1
    | _ => .bad
def evTAnd (C : Ctx) : List Ex → Env → Mem → Res Bool
  | [], _, _ => .bad
  | [e], ρ, M => evT C e ρ M
  | e :: es, ρ, M => (evT C e ρ M).bind fun x M1 => if x then evTAnd C es ρ M1 else .ok false M1
def evTOr (C : Ctx) : List Ex → Env → Mem → Res Bool
  | [], _, _ => .bad
  | [e], ρ, M => evT C e ρ M
  | e :: es, ρ, M => (evT C e ρ M).bind fun x M1 => if x then .ok true M1 else evTOr C es ρ M1
def evTs (C : Ctx) : List Ex → Env → Mem → Res Bool
  | [], _, M => .ok true M
  | [t], ρ, M => evT C t ρ M
  | _, _, _ => .bad
def evEs (C : Ctx) : List Ex → Env → Mem → Res (List D)
  | [], _, M => .ok [] M
  | e :: es, ρ, M => (evE C e ρ M).bind fun d M1 => (evEs C es ρ M1).bind fun ds M2 => .ok (d :: ds) M2
end
mutual
def evS (C : Ctx) : Stm → Env → Mem → RS
  | .asg t e, ρ, M => (evE C e ρ M).toRS ρ fun d M1 => match asgT t d ρ with
    | some ρ' => .nx ρ' M1
    | none => .bad
  | .par i j a b, ρ, M => (evE C a ρ M).toRS ρ fun x M1 => (evE C b ρ M1).toRS ρ fun y M2 => .nx ((ρ.set i (some x)).set j (some y)) M2
  | .aug i o e, ρ, M => match ρ[i]? with
    | some (some x) => (evE C e ρ M).toRS ρ fun y M1 => match x, y with
      | .int a, .int b => match opI o a b with
        | some c => .nx (ρ.set i (some (.int c))) M1
        | none => .bad
      | _, _ => .bad
    | _ => .bad
  | .setI o i e, ρ, M => (evE C e ρ M).toRS ρ fun v M1 => (evE C o ρ M1).toRS ρ fun x M2 => (evE C i ρ M2).toRS ρ fun y M3 => match setS x y v M3 with
    | some M4 => .nx ρ M4
    | none => .bad
  | .expr e, ρ, M => (evE C e ρ M).toRS ρ fun _ M1 => .nx ρ M1
  | .ret e, ρ, M => (evE C e ρ M).toRS ρ fun d M1 => .ret d M1
  | .ite t a b, ρ, M => (evT C t ρ M).toRS ρ fun k M1 => if k then evSs C a ρ M1 else evSs C b ρ M1
  | .for_ tg k es body, ρ, M => (evEs C es ρ M).toRS ρ fun ds M1 => match itS M1 k ds with
    | some it => evF it.gd (asgT tg) (fun ρ M => evSs C body ρ M) it.ds ρ M1
    | none => .bad
  | .whl n t body, ρ, M => evW (fun ρ M => evT C t ρ M) (fun ρ M => evSs C body ρ M) n ρ M
  | .brk, ρ, M => .brk ρ M
  | .cnt, ρ, M => .cnt ρ M
  | .pass, ρ, M => .nx ρ M
  | .raise x es, ρ, M => (evEs C es ρ M).toRS ρ fun ds M1 => .exc x ds ρ M1
  | .try_ body x h, ρ, M => match evSs C body ρ M with
    | .exc y vs ρ' M' => if y = x then evSs C h ρ' M' else .exc y vs ρ' M'
    | r => r
  | .never, _, _ => .bad
def evSs (C : Ctx) : List Stm → Env → Mem → RS
  | [], ρ, M => .nx ρ M
  | s :: ss, ρ, M => match evS C s ρ M with
    | .nx ρ' M' => evSs C ss ρ' M'
    | r => r
end

/-! ### a def -/
mutual
/-- the cells from n on within a value as trees (so deep) -/
def frz (n : Nat) (M : Mem) : Nat → D → Option D
  | g, .tup ds => (frzs n M g ds).map D.tup
  | g, .lst ds => (frzs n M g ds).map D.lst
  | g, .ro l ds => if D.unders n ds then some (.ro l ds) else none
  | g, .loc k => if k < n then some (.loc k) else match M[k]? with
    | some (.lst ds) => if D.unders n ds then some (.lst ds) else none
    | _ => none
  | _, d => some d
def frzs (n : Nat) (M : Mem) : Nat → List D → Option (List D)
  | _, [] => some []
  | g, d :: ds => match frz n M g d, frzs n M g ds with
    | some x, some xs => some (x :: xs)
    | _, _ => none
end
def kvBeq {κ : Type} [DecidableEq κ] : List (κ × D) → List (κ × D) → Bool
  | [], [] => true
  | (k, v) :: r, (l, w) :: q => decide (k = l) && D.beq v w && kvBeq r q
  | _, _ => false
def Cell.beq : Cell → Cell → Bool
  | .lst a, .lst b => D.beqs a b
  | .dK a, .dK b => kvBeq a b
  | .dT a, .dT b => kvBeq a b
  | _, _ => false
/-- the cells that stood at the begin are as they were, or hold no newer ones -/
def tidy (n : Nat) : Mem → Mem → Bool
  | [], _ => true
  | c :: M, c' :: M' => (Cell.beq c' c || Cell.under n c') && tidy n M M'
  | _ :: _, [] => false
def leave (m : Mode) (M : Mem) (d : D) (M' : Mem) : Res D := match m with
  | .keep => .ok d M'
  | .drop => if tidy M.length M M' then match frz M.length M' 0 d with
    | some d' => .ok d' (M'.take M.length)
    | none => .bad
    else .bad
  | .own => match d with
    | .loc k => if tidy M.length M M' && decide (M.length ≤ k) then match M'[k]? with
      | some c => if Cell.under M.length c then .ok (.loc M.length) (M'.take M.length ++ [c]) else .bad
      | none => .bad
      else .bad
    | _ => .bad
/-- a raise's memory: back to the cells that stood, if they hold no newer ones -/
def runD (C : Ctx) (d : Def) (vs : List D) (M : Mem) : Res D :=
  if vs.length ≤ d.np ∧ d.np ≤ vs.length + d.dfl.length ∧ d.np ≤ d.n then
    match evSs C d.body ((vs ++ d.dfl.drop (d.dfl.length - (d.np - vs.length))).map some ++ List.replicate (d.n - d.np) none) M with
    | .nx _ M' => leave d.mode M .non M'
    | .ret v M' => leave d.mode M v M'
    | .exc x es _ M' => .exc x es M'
    | _ => .bad
  else .bad
def callF (T : Nat → Option Def) (G : Nat → Option D) : Nat → Fn
  | 0, _, _, _ => .bad
  | k + 1, f, vs, M => match T f with
    | some d => runD ⟨callF T G k, G⟩ d vs M
    | none => .bad
end Pv

set_option Elab.async false
set_option linter.all false
set_option maxRecDepth 100000
set_option maxHeartbeats 4000000
/-! Pv, part B: how trees and cells lie in the abstract heap; results against wishes. -/
namespace Pv
open PySem PySem.Spec PyProof.Rows L2

/-- where the cells lie (m), what is being made (z), the heap -/
structure Sw where
  m : List Addr
  z : List Addr
  H : Hp
/-- a list, a tuple that stands still -/
def FL (S : Sw) (a : Addr) (vs : List V) : Prop := S.H a = some (.lst vs) ∧ a ∉ S.m ∧ a ∉ S.z
def FT (S : Sw) (a : Addr) (vs : List V) : Prop := S.H a = some (.tup vs) ∧ a ∉ S.m ∧ a ∉ S.z
theorem FL.sq {K : PySem.W.Frag} {S : Sw} {a : Addr} {vs : List V} (h : FL S a vs) : SqL K S.H a vs := SqL.of h.1
theorem FT.sq {K : PySem.W.Frag} {S : Sw} {a : Addr} {vs : List V} (h : FT S a vs) : SqT K S.H a vs := SqT.of h.1
/-- a list, a tuple that is only read: known to its object, or of the written part -/
def FR (K : PySem.W.Frag) (S : Sw) (l : Bool) (a : Addr) (vs : List V) : Prop :=
  (l = true ∧ (∃ o, S.H a = some (.frz o (.lst vs)) ∧ a ∉ S.m ∧ a ∉ S.z)) ∨ (l = true ∧ ∀ H : Hp, SqL K H a vs) ∨ (l = false ∧ ∀ H : Hp, SqT K H a vs)
theorem FR.sq {K : PySem.W.Frag} {S : Sw} {l : Bool} {a : Addr} {vs : List V} (h : FR K S l a vs) : if l then SqL K S.H a vs else SqT K S.H a vs := by
  rcases h with ⟨rfl, o, h, _⟩ | ⟨rfl, h⟩ | ⟨rfl, h⟩
  · exact .inl (.inr ⟨o, h⟩)
  · exact h _
  · exact h _
mutual
inductive Rep (K : PySem.W.Frag) (S : Sw) : D → V → Prop
  | non : Rep K S .non .non
  | bl (b : Bool) : Rep K S (.bl b) (.bl b)
  | int (i : Int) : Rep K S (.int i) (.int i)
  | str (s : List Nat) : Rep K S (.str s) (.str ⟨s.toArray⟩)
  | tup {ds : List D} {a : Addr} {vs : List V} : FT S a vs → Reps K S ds vs → Rep K S (.tup ds) (.ref a)
  | lst {ds : List D} {a : Addr} {vs : List V} : FL S a vs → Reps K S ds vs → Rep K S (.lst ds) (.ref a)
  | loc {n : Nat} {a : Addr} : S.m[n]? = some a → Rep K S (.loc n) (.ref a)
  | ro {l : Bool} {ds : List D} {a : Addr} {vs : List V} : FR K S l a vs → Reps K S ds vs → Rep K S (.ro l ds) (.ref a)
inductive Reps (K : PySem.W.Frag) (S : Sw) : List D → List V → Prop
  | nil : Reps K S [] []
  | cons {d : D} {ds : List D} {v : V} {vs : List V} : Rep K S d v → Reps K S ds vs → Reps K S (d :: ds) (v :: vs)
end
/-- from S on: no cell moved, nothing that stands still changed -/
structure Ext (S S' : Sw) : Prop where
  m : ∃ t, S'.m = S.m ++ t
  z : S'.z = S.z
  keep : ∀ b o, S.H b = some o → b ∉ S.m → S'.H b = some o ∧ b ∉ S'.m
theorem Ext.refl (S : Sw) : Ext S S := ⟨⟨[], by simp⟩, rfl, fun b o h n => ⟨h, n⟩⟩
theorem Ext.trans {A B C : Sw} (x : Ext A B) (y : Ext B C) : Ext A C := by
  obtain ⟨t, ht⟩ := x.m
  obtain ⟨u, hu⟩ := y.m
  refine ⟨⟨t ++ u, by rw [hu, ht, List.append_assoc]⟩, y.z.trans x.z, fun b o h n => ?_⟩
  obtain ⟨h1, n1⟩ := x.keep b o h n
  exact y.keep b o h1 n1
section
variable {K : PySem.W.Frag} {S S' : Sw}
theorem FL.mono {a : Addr} {vs : List V} (x : Ext S S') (h : FL S a vs) : FL S' a vs := by
  obtain ⟨h1, h2⟩ := x.keep _ _ h.1 h.2.1
  exact ⟨h1, h2, by rw [x.z]; exact h.2.2⟩
theorem FT.mono {a : Addr} {vs : List V} (x : Ext S S') (h : FT S a vs) : FT S' a vs := by
  obtain ⟨h1, h2⟩ := x.keep _ _ h.1 h.2.1
  exact ⟨h1, h2, by rw [x.z]; exact h.2.2⟩
theorem FR.mono {l : Bool} {a : Addr} {vs : List V} (x : Ext S S') (h : FR K S l a vs) : FR K S' l a vs := by
  rcases h with ⟨e, o, h, n, nz⟩ | h
  · obtain ⟨h1, h2⟩ := x.keep _ _ h n
    exact .inl ⟨e, o, h1, h2, by rw [x.z]; exact nz⟩
  · exact .inr h
theorem Ext.loc (x : Ext S S') {n : Nat} {a : Addr} (h : S.m[n]? = some a) : S'.m[n]? = some a := by
  obtain ⟨t, ht⟩ := x.m
  rw [ht, List.getElem?_append_left (List.getElem?_eq_some_iff.mp h).1]
  exact h
mutual
theorem Rep.mono (x : Ext S S') : ∀ (d : D) {v : V}, Rep K S d v → Rep K S' d v
  | .non, _, h => by cases h; exact .non
  | .bl _, _, h => by cases h; exact .bl _
  | .int _, _, h => by cases h; exact .int _
  | .str _, _, h => by cases h; exact .str _
  | .tup ds, _, h => by
    cases h with
    | tup h1 h2 => exact .tup (h1.mono x) (Reps.mono x ds h2)
  | .lst ds, _, h => by
    cases h with
    | lst h1 h2 => exact .lst (h1.mono x) (Reps.mono x ds h2)
  | .loc n, _, h => by
    cases h with
    | loc h1 => exact .loc (x.loc h1)
  | .ro l ds, _, h => by
    cases h with
    | ro h1 h2 => exact .ro (h1.mono x) (Reps.mono x ds h2)
theorem Reps.mono (x : Ext S S') : ∀ (ds : List D) {vs : List V}, Reps K S ds vs → Reps K S' ds vs
  | [], _, h => by cases h; exact .nil
  | d :: ds, _, h => by
    cases h with
    | cons h1 h2 => exact .cons (Rep.mono x d h1) (Reps.mono x ds h2)
end
theorem Rep.mo {d : D} {v : V} (h : Rep K S d v) (x : Ext S S') : Rep K S' d v := h.mono x d
theorem Reps.mo {ds : List D} {vs : List V} (h : Reps K S ds vs) (x : Ext S S') : Reps K S' ds vs := h.mono x ds
mutual
/-- back to the first n cells -/
theorem Rep.back {n : Nat} (hm : S'.m = S.m.take n) (hz : S'.z = S.z) (hH : S'.H = S.H) : ∀ (d : D) {v : V}, D.under n d = true → Rep K S d v → Rep K S' d v
  | .non, _, _, h => by cases h; exact .non
  | .bl _, _, _, h => by cases h; exact .bl _
  | .int _, _, _, h => by cases h; exact .int _
  | .str _, _, _, h => by cases h; exact .str _
  | .tup ds, _, u, h => by
    cases h with
    | tup h1 h2 => exact .tup ⟨by rw [hH]; exact h1.1, fun q => h1.2.1 (by rw [hm] at q; exact List.mem_of_mem_take q), by rw [hz]; exact h1.2.2⟩ (Reps.back hm hz hH ds (by simpa [D.under] using u) h2)
  | .lst ds, _, u, h => by
    cases h with
    | lst h1 h2 => exact .lst ⟨by rw [hH]; exact h1.1, fun q => h1.2.1 (by rw [hm] at q; exact List.mem_of_mem_take q), by rw [hz]; exact h1.2.2⟩ (Reps.back hm hz hH ds (by simpa [D.under] using u) h2)
  | .loc k, _, u, h => by
    cases h with
    | loc h1 =>
      have hk : k < n := by simpa [D.under] using u
      exact .loc (by rw [hm, List.getElem?_take_of_lt hk]; exact h1)
  | .ro l ds, _, u, h => by
    cases h with
    | ro h1 h2 =>
      refine .ro ?_ (Reps.back hm hz hH ds (by simpa [D.under] using u) h2)
      rcases h1 with ⟨e, o, a, b, c⟩ | h1
      · exact .inl ⟨e, o, by rw [hH]; exact a, fun q => b (by rw [hm] at q; exact List.mem_of_mem_take q), by rw [hz]; exact c⟩
      · exact .inr h1
theorem Reps.back {n : Nat} (hm : S'.m = S.m.take n) (hz : S'.z = S.z) (hH : S'.H = S.H) : ∀ (ds : List D) {vs : List V}, D.unders n ds = true → Reps K S ds vs → Reps K S' ds vs
  | [], _, _, h => by cases h; exact .nil
  | d :: ds, _, u, h => by
    have u2 : D.under n d = true ∧ D.unders n ds = true := by simpa [D.unders] using u
    cases h with
    | cons h1 h2 => exact .cons (Rep.back hm hz hH d u2.1 h1) (Reps.back hm hz hH ds u2.2 h2)
end
theorem Reps.length : ∀ {ds : List D} {vs : List V}, Reps K S ds vs → ds.length = vs.length
  | [], _, h => by cases h; rfl
  | _ :: _, _, h => by
    cases h with
    | cons _ h2 => simp [Reps.length h2]
theorem Reps.get : ∀ {ds : List D} {vs : List V} {i : Nat} {d : D}, Reps K S ds vs → ds[i]? = some d → ∃ v, vs[i]? = some v ∧ Rep K S d v
  | [], _, _, _, _, e => by simp at e
  | x :: xs, _, i, d, h, e => by
    cases h with
    | cons h1 h2 =>
      cases i with
      | zero =>
        simp at e
        subst e
        exact ⟨_, rfl, h1⟩
      | succ i =>
        obtain ⟨v, e1, r⟩ := Reps.get (i := i) h2 (by simpa using e)
        exact ⟨v, by simpa using e1, r⟩
theorem Reps.get' : ∀ {ds : List D} {vs : List V} {i : Nat} {v : V}, Reps K S ds vs → vs[i]? = some v → ∃ d, ds[i]? = some d ∧ Rep K S d v
  | [], _, _, _, h, e => by cases h; simp at e
  | x :: xs, _, i, d, h, e => by
    cases h with
    | cons h1 h2 =>
      cases i with
      | zero =>
        simp at e
        subst e
        exact ⟨_, rfl, h1⟩
      | succ i =>
        obtain ⟨v, e1, r⟩ := Reps.get' (i := i) h2 (by simpa using e)
        exact ⟨v, by simpa using e1, r⟩
theorem Reps.append : ∀ {ds es : List D} {vs ws : List V}, Reps K S ds vs → Reps K S es ws → Reps K S (ds ++ es) (vs ++ ws)
  | [], _, _, _, h, g => by cases h; exact g
  | _ :: _, _, _, _, h, g => by
    cases h with
    | cons h1 h2 => exact .cons h1 (Reps.append h2 g)
theorem Reps.drop : ∀ {ds : List D} {vs : List V} (n : Nat), Reps K S ds vs → Reps K S (ds.drop n) (vs.drop n)
  | _, _, 0, h => h
  | [], _, _ + 1, h => by cases h; exact .nil
  | _ :: _, _, n + 1, h => by
    cases h with
    | cons h1 h2 => exact Reps.drop n h2
theorem Reps.take : ∀ {ds : List D} {vs : List V} (n : Nat), Reps K S ds vs → Reps K S (ds.take n) (vs.take n)
  | _, _, 0, _ => .nil
  | [], _, _ + 1, h => by cases h; exact .nil
  | _ :: _, _, n + 1, h => by
    cases h with
    | cons h1 h2 => exact .cons h1 (Reps.take n h2)
theorem Reps.set : ∀ {ds : List D} {vs : List V} {d : D} {v : V} (n : Nat), Reps K S ds vs → Rep K S d v → Reps K S (ds.set n d) (vs.set n v)
  | [], _, _, _, _, h, _ => by cases h; exact .nil
  | _ :: _, _, _, _, 0, h, g => by
    cases h with
    | cons h1 h2 => exact .cons g h2
  | _ :: _, _, _, _, n + 1, h, g => by
    cases h with
    | cons h1 h2 => exact .cons h1 (Reps.set n h2 g)
theorem Reps.dropLast {ds : List D} {vs : List V} (h : Reps K S ds vs) : Reps K S ds.dropLast vs.dropLast := by
  rw [List.dropLast_eq_take, List.dropLast_eq_take, ← h.length]
  exact h.take _
theorem Reps.rev : ∀ {ds : List D} {vs : List V}, Reps K S ds vs → Reps K S ds.reverse vs.reverse
  | [], _, h => by cases h; exact .nil
  | _ :: _, _, h => by
    cases h with
    | cons h1 h2 =>
      rw [List.reverse_cons, List.reverse_cons]
      exact (Reps.rev h2).append (.cons h1 .nil)
theorem Reps.rep {ds : List D} {vs : List V} (h : Reps K S ds vs) : ∀ k : Nat, Reps K S (List.replicate k ds).flatten (List.replicate k vs).flatten
  | 0 => .nil
  | k + 1 => by
    rw [List.replicate_succ, List.replicate_succ, List.flatten_cons, List.flatten_cons]
    exact h.append (Reps.rep h k)
theorem Reps.isEmpty {ds : List D} {vs : List V} (h : Reps K S ds vs) : ds.isEmpty = vs.isEmpty := by
  cases h <;> rfl
theorem Reps.ints : ∀ {ds : List D} {vs : List V} {ns : List Int}, Reps K S ds vs → intsOf ds = some ns → vs = ns.map V.int
  | [], _, _, h, e => by
    cases h
    simp [intsOf] at e
    subst e
    rfl
  | d :: ds, _, ns, h, e => by
    cases h with
    | cons h1 h2 =>
      cases d with
      | int i =>
        simp only [intsOf, Option.map_eq_some_iff] at e
        obtain ⟨ms, e1, rfl⟩ := e
        cases h1
        rw [Reps.ints h2 e1]
        rfl
      | _ => simp [intsOf] at e
theorem Reps.bls : ∀ {ds : List D} {vs : List V} {ns : List Bool}, Reps K S ds vs → blsOf ds = some ns → vs = ns.map V.bl
  | [], _, _, h, e => by
    cases h
    simp [blsOf] at e
    subst e
    rfl
  | d :: ds, _, ns, h, e => by
    cases h with
    | cons h1 h2 =>
      cases d with
      | bl i =>
        simp only [blsOf, Option.map_eq_some_iff] at e
        obtain ⟨ms, e1, rfl⟩ := e
        cases h1
        rw [Reps.bls h2 e1]
        rfl
      | _ => simp [blsOf] at e
end

/-! ### cells -/
def kyK : Ky → Key
  | .inl i => .inl i
  | .inr s => .inr ⟨s.toArray⟩
theorem kyK_inj {a b : Ky} (h : kyK a = kyK b) : a = b := by
  cases a <;> cases b <;> simp [kyK] at h <;> simp [h]
def KReps {κ κ' : Type} (f : κ → κ') (K : PySem.W.Frag) (S : Sw) : List (κ × D) → List (κ' × V) → Prop := Paired fun p q => q.1 = f p.1 ∧ Rep K S p.2 q.2
inductive CRep (K : PySem.W.Frag) (S : Sw) : Cell → Addr → Prop
  | lst {ds : List D} {a : Addr} {vs : List V} : S.H a = some (.lst vs) → Reps K S ds vs → CRep K S (.lst ds) a
  | dK {kvs : List (Ky × D)} {a : Addr} {kws : List (Key × V)} : S.H a = some (.dK kws) → KReps kyK K S kvs kws → CRep K S (.dK kvs) a
  | dT {kvs : List (List Ky × D)} {a : Addr} {kws : List (List Key × V)} : S.H a = some (.dT kws) → KReps (List.map kyK) K S kvs kws → CRep K S (.dT kvs) a
structure MemRel (K : PySem.W.Frag) (S : Sw) (M : Mem) : Prop where
  len : S.m.length = M.length
  nd : S.m.Nodup
  zd : ∀ b ∈ S.z, b ∉ S.m ∧ S.H b ≠ none
  at_ : ∀ (i : Nat) (c : Cell), M[i]? = some c → ∃ a, S.m[i]? = some a ∧ CRep K S c a
structure EnvRel (K : PySem.W.Frag) (S : Sw) (ρ : Env) (σ : L2.St) : Prop where
  len : σ.length = ρ.length
  at_ : ∀ (i : Nat) (d : D), ρ[i]? = some (some d) → ∃ v, σ[i]? = some (some v) ∧ Rep K S d v
section
variable {K : PySem.W.Frag} {S S' : Sw}
theorem KReps.mo {κ κ' : Type} {f : κ → κ'} {a : List (κ × D)} {b : List (κ' × V)} (x : Ext S S') (h : KReps f K S a b) : KReps f K S' a b := Paired.mapP h fun _ _ q => ⟨q.1, q.2.mo x⟩
theorem EnvRel.mo {ρ : Env} {σ : L2.St} (h : EnvRel K S ρ σ) (x : Ext S S') : EnvRel K S' ρ σ := ⟨h.len, fun i d e => by
  obtain ⟨v, e1, r⟩ := h.at_ i d e
  exact ⟨v, e1, r.mo x⟩⟩
theorem EnvRel.set {ρ : Env} {σ : L2.St} {d : D} {v : V} (h : EnvRel K S ρ σ) (i : Nat) (r : Rep K S d v) : EnvRel K S (ρ.set i (some d)) (σ.set i (some v)) := by
  refine ⟨by simp [h.len], fun j e he => ?_⟩
  by_cases hj : i = j
  · subst hj
    by_cases hi : i < ρ.length
    · rw [List.getElem?_set_self hi] at he
      have e2 : d = e := by simpa using he
      subst e2
      exact ⟨v, by rw [List.getElem?_set_self (by rw [h.len]; exact hi)], r⟩
    · rw [List.getElem?_eq_none (by simpa using hi)] at he
      cases he
  · rw [List.getElem?_set_ne hj] at he ⊢
    exact h.at_ j e he
theorem wipeD_length (ρ : Env) : ∀ vs : List Nat, (wipeD ρ vs).length = ρ.length
  | [] => rfl
  | v :: vs => by rw [wipeD, List.length_set, wipeD_length ρ vs]
theorem EnvRel.wipe {ρ : Env} {σ : L2.St} (h : EnvRel K S ρ σ) : ∀ vs : List Nat, EnvRel K S (wipeD ρ vs) (wipe σ vs)
  | [] => h
  | v :: vs => by
    have ih := EnvRel.wipe h vs
    refine ⟨by rw [wipeD_length, wipe_length, h.len], fun j e he => ?_⟩
    rw [wipeD] at he
    by_cases hj : v = j
    · subst hj
      by_cases hi : v < (wipeD ρ vs).length
      · rw [List.getElem?_set_self hi] at he
        cases he
      · rw [List.getElem?_eq_none (by simpa using hi)] at he
        cases he
    · rw [List.getElem?_set_ne hj] at he
      obtain ⟨w, e1, r⟩ := ih.at_ j e he
      exact ⟨w, by rw [L2.wipe, List.getElem?_set_ne hj]; exact e1, r⟩
theorem MemRel.lt {M : Mem} (h : MemRel K S M) {i : Nat} {c : Cell} (e : M[i]? = some c) : i < S.m.length := by
  rw [h.len]
  exact (List.getElem?_eq_some_iff.mp e).1
/-- a cell's object is of the heap -/
theorem CRep.some {c : Cell} {a : Addr} (h : CRep K S c a) : ∃ o, S.H a = some o ∧ L2.Mut (some o) := by
  cases h with
  | lst e _ => exact ⟨_, e, trivial⟩
  | dK e _ => exact ⟨_, e, trivial⟩
  | dT e _ => exact ⟨_, e, trivial⟩
theorem MemRel.here {M : Mem} (h : MemRel K S M) {a : Addr} (ha : a ∈ S.m) : S.H a ≠ none := by
  obtain ⟨i, hi, e⟩ := List.getElem_of_mem ha
  have hM : i < M.length := by rw [← h.len]; exact hi
  obtain ⟨b, e1, c⟩ := h.at_ i M[i] (List.getElem?_eq_getElem hM)
  have e2 : b = a := by
    rw [List.getElem?_eq_getElem hi, e] at e1
    exact (Option.some.inj e1).symm
  subst e2
  obtain ⟨o, e3, _⟩ := c.some
  rw [e3]
  exact fun z => by cases z
/-- a new object that is no cell -/
theorem Ext.new {a : Addr} {o : HO} {M : Mem} (h : MemRel K S M) (hn : S.H a = none) : Ext S { S with H := upd S.H a o } := by
  refine ⟨⟨[], by simp⟩, rfl, fun b u e n => ⟨?_, n⟩⟩
  show upd S.H a o b = _
  rw [upd_ne (ne_of_none e hn)]
  exact e
theorem CRep.mo_of {c : Cell} {a : Addr} (x : Ext S S') (e : S'.H a = S.H a) (h : CRep K S c a) : CRep K S' c a := by
  cases h with
  | lst e1 r => exact .lst (by rw [e]; exact e1) (r.mo x)
  | dK e1 r => exact .dK (by rw [e]; exact e1) (r.mo x)
  | dT e1 r => exact .dT (by rw [e]; exact e1) (r.mo x)
theorem MemRel.new {a : Addr} {o : HO} {M : Mem} (h : MemRel K S M) (hn : S.H a = none) : MemRel K { S with H := upd S.H a o } M := by
  refine ⟨h.len, h.nd, fun b hb => ?_, fun i c e => ?_⟩
  · obtain ⟨h1, h2⟩ := h.zd b hb
    refine ⟨h1, ?_⟩
    show upd S.H a o b ≠ none
    by_cases q : b = a
    · subst q
      rw [upd_same]
      exact fun z => by cases z
    · rw [upd_ne q]
      exact h2
  · obtain ⟨b, e1, c1⟩ := h.at_ i c e
    obtain ⟨u, e2, _⟩ := c1.some
    exact ⟨b, e1, c1.mo_of (Ext.new h hn) (by show upd S.H a o b = _; rw [upd_ne (ne_of_none e2 hn)])⟩
theorem notIn_new {a : Addr} {M : Mem} (h : MemRel K S M) (hn : S.H a = none) : a ∉ S.m ∧ a ∉ S.z :=
  ⟨fun q => h.here q hn, fun q => (h.zd a q).2 hn⟩
/-- a new cell -/
theorem Ext.cell {a : Addr} {o : HO} {M : Mem} (h : MemRel K S M) (hn : S.H a = none) : Ext S { S with m := S.m ++ [a], H := upd S.H a o } := by
  refine ⟨⟨[a], rfl⟩, rfl, fun b u e n => ⟨?_, ?_⟩⟩
  · show upd S.H a o b = _
    rw [upd_ne (ne_of_none e hn)]
    exact e
  · show b ∉ S.m ++ [a]
    rw [List.mem_append, List.mem_singleton]
    exact fun q => q.elim n (ne_of_none e hn)
theorem MemRel.cell {a : Addr} {o : HO} {c : Cell} {M : Mem} (h : MemRel K S M) (hn : S.H a = none) (hc : CRep K { S with m := S.m ++ [a], H := upd S.H a o } c a) : MemRel K { S with m := S.m ++ [a], H := upd S.H a o } (M ++ [c]) := by
  obtain ⟨nm, nz⟩ := notIn_new h hn
  refine ⟨by simp [h.len], ?_, fun b hb => ?_, fun i d e => ?_⟩
  · rw [List.nodup_append]
    exact ⟨h.nd, by simp, fun x hx y hy => by
      have : y = a := by simpa using hy
      subst this
      exact fun q => nm (by rw [← q]; exact hx)⟩
  · obtain ⟨h1, h2⟩ := h.zd b hb
    have ne : b ≠ a := fun q => nz (by rw [← q]; exact hb)
    refine ⟨?_, by show upd S.H a o b ≠ none; rw [upd_ne ne]; exact h2⟩
    show b ∉ S.m ++ [a]
    rw [List.mem_append, List.mem_singleton]
    exact fun q => q.elim h1 ne
  · by_cases hi : i < M.length
    · rw [List.getElem?_append_left hi] at e
      obtain ⟨b, e1, c1⟩ := h.at_ i d e
      obtain ⟨u, e2, _⟩ := c1.some
      refine ⟨b, ?_, c1.mo_of (Ext.cell h hn) (by show upd S.H a o b = _; rw [upd_ne (ne_of_none e2 hn)])⟩
      show (S.m ++ [a])[i]? = _
      rw [List.getElem?_append_left (by rw [h.len]; exact hi)]
      exact e1
    · have hi2 : i = M.length := by
        have := (List.getElem?_eq_some_iff.mp e).1
        simp at this
        omega
      subst hi2
      rw [List.getElem?_append_right (Nat.le_refl _)] at e
      have e3 : c = d := by simpa using e
      subst e3
      refine ⟨a, ?_, hc⟩
      show (S.m ++ [a])[M.length]? = _
      rw [← h.len, List.getElem?_append_right (Nat.le_refl _)]
      simp
/-- a cell is written -/
theorem Ext.write {a : Addr} {o : HO} (ha : a ∈ S.m) : Ext S { S with H := upd S.H a o } := by
  refine ⟨⟨[], by simp⟩, rfl, fun b u e n => ⟨?_, n⟩⟩
  show upd S.H a o b = _
  have ne : b ≠ a := fun q => n (by rw [q]; exact ha)
  rw [upd_ne ne]
  exact e
theorem MemRel.write {a : Addr} {o : HO} {c : Cell} {M : Mem} {n : Nat} (h : MemRel K S M) (ha : S.m[n]? = some a) (hc : CRep K { S with H := upd S.H a o } c a) : MemRel K { S with H := upd S.H a o } (M.set n c) := by
  have hm : a ∈ S.m := List.mem_of_getElem? ha
  refine ⟨by simp [h.len], h.nd, fun b hb => ?_, fun i d e => ?_⟩
  · obtain ⟨h1, h2⟩ := h.zd b hb
    have ne : b ≠ a := fun q => h1 (by rw [q]; exact hm)
    exact ⟨h1, by show upd S.H a o b ≠ none; rw [upd_ne ne]; exact h2⟩
  · by_cases hi : n = i
    · subst hi
      have hl : n < M.length := by rw [← h.len]; exact (List.getElem?_eq_some_iff.mp ha).1
      rw [List.getElem?_set_self hl] at e
      have e2 : c = d := by simpa using e
      subst e2
      exact ⟨a, ha, hc⟩
    · rw [List.getElem?_set_ne hi] at e
      obtain ⟨b, e1, c1⟩ := h.at_ i d e
      have ne : b ≠ a := fun q => by
        subst q
        obtain ⟨l1, x1⟩ := List.getElem?_eq_some_iff.mp ha
        obtain ⟨l2, x2⟩ := List.getElem?_eq_some_iff.mp e1
        exact hi ((List.getElem_inj h.nd).mp (x1.trans x2.symm))
      exact ⟨b, e1, c1.mo_of (Ext.write hm) (by show upd S.H a o b = _; rw [upd_ne ne])⟩
/-- a sequence, wherever it lies -/
theorem seq_of {M : Mem} {d : D} {v : V} {ds : List D} (h : MemRel K S M) (r : Rep K S d v) (e : seqOf M d = some ds) : ∃ a vs, v = .ref a ∧ (SqL K S.H a vs ∨ SqT K S.H a vs) ∧ Reps K S ds vs := by
  cases d with
  | tup xs =>
    cases r with
    | tup h1 h2 =>
      have e2 : xs = ds := by simpa [seqOf] using e
      subst e2
      exact ⟨_, _, rfl, .inr h1.sq, h2⟩
  | lst xs =>
    cases r with
    | lst h1 h2 =>
      have e2 : xs = ds := by simpa [seqOf] using e
      subst e2
      exact ⟨_, _, rfl, .inl h1.sq, h2⟩
  | ro l xs =>
    cases r with
    | ro h1 h2 =>
      have e2 : xs = ds := by simpa [seqOf] using e
      subst e2
      have q := h1.sq
      cases l with
      | true => exact ⟨_, _, rfl, .inl q, h2⟩
      | false => exact ⟨_, _, rfl, .inr q, h2⟩
  | loc n =>
    cases r with
    | loc h1 =>
      cases q : M[n]? with
      | none => simp only [seqOf, q] at e; cases e
      | some c =>
        simp only [seqOf, q] at e
        cases c with
        | lst xs =>
          have e2 : xs = ds := by simpa using e
          subst e2
          obtain ⟨a, e1, c1⟩ := h.at_ n _ q
          rw [h1] at e1
          cases e1
          cases c1 with
          | lst e3 r3 => exact ⟨_, _, rfl, .inl (SqL.of e3), r3⟩
        | _ => cases e
  | _ => cases e
theorem trk_of {M : Mem} {d : D} {v : V} {ds : List D} (h : MemRel K S M) (r : Rep K S d v) (e : trkOf M d = some ds) : ∃ a vs, v = .ref a ∧ S.H a = some (.lst vs) ∧ Reps K S ds vs := by
  cases d with
  | lst xs =>
    cases r with
    | lst h1 h2 =>
      have e2 : xs = ds := by simpa [trkOf] using e
      subst e2
      exact ⟨_, _, rfl, h1.1, h2⟩
  | loc n =>
    cases r with
    | loc h1 =>
      cases q : M[n]? with
      | none => simp only [trkOf, q] at e; cases e
      | some c =>
        simp only [trkOf, q] at e
        cases c with
        | lst xs =>
          have e2 : xs = ds := by simpa using e
          subst e2
          obtain ⟨a, e1, c1⟩ := h.at_ n _ q
          rw [h1] at e1
          cases e1
          cases c1 with
          | lst e3 r3 => exact ⟨_, _, rfl, e3, r3⟩
        | _ => cases e
  | _ => cases e
theorem lst_of {M : Mem} {d : D} {v : V} {ds : List D} (h : MemRel K S M) (r : Rep K S d v) (e : lstOf M d = some ds) : ∃ a vs, v = .ref a ∧ SqL K S.H a vs ∧ Reps K S ds vs := by
  cases d with
  | lst xs =>
    cases r with
    | lst h1 h2 =>
      have e2 : xs = ds := by simpa [lstOf] using e
      subst e2
      exact ⟨_, _, rfl, h1.sq, h2⟩
  | ro l xs =>
    cases r with
    | ro h1 h2 =>
      cases l with
      | false => cases e
      | true =>
        have e2 : xs = ds := by simpa [lstOf] using e
        subst e2
        exact ⟨_, _, rfl, h1.sq, h2⟩
  | loc n =>
    cases r with
    | loc h1 =>
      cases q : M[n]? with
      | none => simp only [lstOf, q] at e; cases e
      | some c =>
        simp only [lstOf, q] at e
        cases c with
        | lst xs =>
          have e2 : xs = ds := by simpa using e
          subst e2
          obtain ⟨a, e1, c1⟩ := h.at_ n _ q
          rw [h1] at e1
          cases e1
          cases c1 with
          | lst e3 r3 => exact ⟨_, _, rfl, SqL.of e3, r3⟩
        | _ => cases e
  | _ => cases e
/-- a cell that holds a list -/
theorem cell_lst {M : Mem} {n : Nat} {v : V} {ds : List D} (h : MemRel K S M) (r : Rep K S (.loc n) v) (e : M[n]? = some (.lst ds)) : ∃ a vs, v = .ref a ∧ S.m[n]? = some a ∧ S.H a = some (.lst vs) ∧ Reps K S ds vs := by
  cases r with
  | loc h1 =>
    obtain ⟨a, e1, c1⟩ := h.at_ n _ e
    rw [h1] at e1
    cases e1
    cases c1 with
    | lst e3 r3 => exact ⟨_, _, rfl, h1, e3, r3⟩
theorem cell_dK {M : Mem} {n : Nat} {v : V} {ds : List (Ky × D)} (h : MemRel K S M) (r : Rep K S (.loc n) v) (e : M[n]? = some (.dK ds)) : ∃ a kws, v = .ref a ∧ S.m[n]? = some a ∧ S.H a = some (.dK kws) ∧ KReps kyK K S ds kws := by
  cases r with
  | loc h1 =>
    obtain ⟨a, e1, c1⟩ := h.at_ n _ e
    rw [h1] at e1
    cases e1
    cases c1 with
    | dK e3 r3 => exact ⟨_, _, rfl, h1, e3, r3⟩
end

/-! ### results against wishes -/
/-- the classes of errors: where each stands, and the field that it keeps, if any -/
abbrev XTab := Nat → Option (Addr × Option Str)
inductive XRep (K : PySem.W.Frag) (xi : XTab) (S : Sw) : Nat → List D → Value → Option Addr → Prop
  | plain {x : Nat} {C : Addr} : xi x = some (C, none) → XRep K xi S x [] (.ref C) none
  | field {x : Nat} {C dx : Addr} {f : Str} {d : D} {v : V} : xi x = some (C, some f) → S.H dx = some (.xd [(f, v)]) → Rep K S d v → XRep K xi S x [d] (.ref C) (some dx)
abbrev XW := Value → Option Addr → Hp → Prop
def Run {α ν : Type} (K : PySem.W.Frag) (xi : XTab) (R : Sw → α → ν → Prop) (S : Sw) (r : Res α) (Q : ν → Hp → Prop) (W : Sw → XW) : Prop := match r with
  | .ok a M => ∀ S' v, Ext S S' → MemRel K S' M → R S' a v → Q v S'.H
  | .exc x vs M => ∀ S' cls dx, Ext S S' → MemRel K S' M → XRep K xi S' x vs cls dx → W S' cls dx S'.H
  | .bad => False
section
variable {K : PySem.W.Frag} {xi : XTab} {S S' : Sw} {α β ν μ : Type} {R : Sw → α → ν → Prop} {R' : Sw → β → μ → Prop} {W : Sw → XW}
theorem Run.mo {r : Res α} {Q : ν → Hp → Prop} (x : Ext S S') (h : Run K xi R S r Q W) : Run K xi R S' r Q W := by
  cases r with
  | ok a M => exact fun S2 v e m q => h S2 v (x.trans e) m q
  | exc y vs M => exact fun S2 c d e m q => h S2 c d (x.trans e) m q
  | bad => exact h
theorem Run.imp {r : Res α} {Q Q' : ν → Hp → Prop} (h : Run K xi R S r Q W) (k : ∀ v H, Q v H → Q' v H) : Run K xi R S r Q' W := by
  cases r with
  | ok a M => exact fun S2 v e m q => k _ _ (h S2 v e m q)
  | exc y vs M => exact h
  | bad => exact h
/-- behind a first part: its value, the state, and the rest -/
theorem Run.bind {r : Res α} {f : α → Mem → Res β} {Q : μ → Hp → Prop} (h : Run K xi R' S (r.bind f) Q W) :
    Run K xi R S r (fun v H1 => ∃ S1 a M1, S1.H = H1 ∧ r = .ok a M1 ∧ Ext S S1 ∧ MemRel K S1 M1 ∧ R S1 a v ∧ Run K xi R' S1 (f a M1) Q W) W := by
  cases r with
  | ok a M => exact fun S2 v e m q => ⟨S2, a, M, rfl, rfl, e, m, q, h.mo e⟩
  | exc y vs M => exact h
  | bad => exact h
theorem Run.ok {a : α} {M : Mem} {v : ν} {Q : ν → Hp → Prop} (h : Run K xi R S (.ok a M) Q W) (m : MemRel K S M) (r : R S a v) : Q v S.H := h S v (Ext.refl S) m r
theorem Run.ok' {a : α} {M : Mem} {v : ν} {Q : ν → Hp → Prop} (h : Run K xi R S (.ok a M) Q W) (x : Ext S S') (m : MemRel K S' M) (r : R S' a v) : Q v S'.H := h S' v x m r
theorem Run.opt {o : Option α} {M : Mem} {Q : ν → Hp → Prop} (h : Run K xi R S (.opt o M) Q W) : ∃ a, o = some a ∧ Run K xi R S (.ok a M) Q W := by
  cases o with
  | some a => exact ⟨a, rfl, h⟩
  | none => exact h.elim
end
/-- a test's answer -/
def RB : Sw → Bool → Bool → Prop := fun _ a b => a = b
/-- the reading of what is computed -/
def tS {α ν : Type} (K : PySem.W.Frag) (xi : XTab) (R : Sw → α → ν → Prop) (f : Env → Mem → Res α) (W : L2.WX) : L2.St → Hp → (ν → Hp → Prop) → Prop := fun σ H Q =>
  ∃ S ρ M, S.H = H ∧ EnvRel K S ρ σ ∧ MemRel K S M ∧ Run K xi R S (f ρ M) Q fun _ c d H => W c d σ H
theorem PE.weak {X : Cx} {e : Expr} {t t' : TE} (h : PE X e t) (k : ∀ σ H Q, t' σ H Q → t σ H Q) : PE X e t' := ⟨fun pins s σ H Q I q => h.run pins s σ H Q I (k σ H Q q)⟩
theorem PT.weak {X : Cx} {e : Expr} {t t' : TT} (h : PT X e t) (k : ∀ σ H Q, t' σ H Q → t σ H Q) : PT X e t' := ⟨fun pins s σ H Q I q => h.run pins s σ H Q I (k σ H Q q)⟩
theorem PA.weak {X : Cx} {e : List Expr} {t t' : TA} (h : PA X e t) (k : ∀ σ H Q, t' σ H Q → t σ H Q) : PA X e t' := ⟨fun pos pins s σ H Q I q => h.run pos pins s σ H Q I (k σ H Q q)⟩
theorem PS.weak {X : Cx} {e : Stmt} {t t' : TS} (h : PS X e t) (k : ∀ D σ H, t' D σ H → t D σ H) : PS X e t' := ⟨fun pins s σ H D I q => h.run pins s σ H D I (k D σ H q)⟩
theorem PSs.weak {X : Cx} {e : List Stmt} {t t' : TS} (h : PSs X e t) (k : ∀ D σ H, t' D σ H → t D σ H) : PSs X e t' := ⟨fun pins s σ H D I q => h.run pins s σ H D I (k D σ H q)⟩
end Pv

set_option Elab.async false
set_option linter.all false
set_option maxRecDepth 100000
set_option maxHeartbeats 4000000
/-! Pv, part C: operators, comparisons, truth, places, slices, by values. -/
namespace Pv
open PySem PySem.Spec PyProof.Rows L2

theorem line_eq : line = sizeLine := by rw [sizeLine_eq]; rfl
section
variable {K : PySem.W.Frag} {xi : XTab} {S : Sw} {W : Sw → XW} {M : Mem} {Q : VK}
/-- a new tuple, a new list, handed on -/
theorem new_tup {ds : List D} {vs : List V} (h : MemRel K S M) (r : Reps K S ds vs) (q : Run K xi (Rep K) S (.ok (.tup ds) M) Q W) {p : Addr} (hp : S.H p = none) : Q (.ref p) (upd S.H p (.tup vs)) := by
  obtain ⟨nm, nz⟩ := notIn_new h hp
  have x := Ext.new (o := .tup vs) h hp
  exact q.ok' x (h.new hp) (.tup ⟨upd_same, nm, nz⟩ (r.mo x))
theorem new_lst {ds : List D} {vs : List V} (h : MemRel K S M) (r : Reps K S ds vs) (q : Run K xi (Rep K) S (.ok (.lst ds) M) Q W) {p : Addr} (hp : S.H p = none) : Q (.ref p) (upd S.H p (.lst vs)) := by
  obtain ⟨nm, nz⟩ := notIn_new h hp
  have x := Ext.new (o := .lst vs) h hp
  exact q.ok' x (h.new hp) (.lst ⟨upd_same, nm, nz⟩ (r.mo x))
theorem new_cell {ds : List D} {vs : List V} (h : MemRel K S M) (r : Reps K S ds vs) (q : Run K xi (Rep K) S (.ok (.loc M.length) (M ++ [.lst ds])) Q W) {p : Addr} (hp : S.H p = none) : Q (.ref p) (upd S.H p (.lst vs)) := by
  have x := Ext.cell (o := .lst vs) h hp
  refine q.ok' x (h.cell hp (.lst upd_same (r.mo x))) (.loc ?_)
  show (S.m ++ [p])[M.length]? = _
  rw [← h.len, List.getElem?_append_right (Nat.le_refl _)]
  simp
theorem new_dK (h : MemRel K S M) (q : Run K xi (Rep K) S (.ok (.loc M.length) (M ++ [.dK []])) Q W) {p : Addr} (hp : S.H p = none) : Q (.ref p) (upd S.H p (.dK [])) := by
  have x := Ext.cell (o := .dK []) h hp
  refine q.ok' x (h.cell hp (.dK upd_same .nil)) (.loc ?_)
  show (S.m ++ [p])[M.length]? = _
  rw [← h.len, List.getElem?_append_right (Nat.le_refl _)]
  simp
theorem new_dT (h : MemRel K S M) (q : Run K xi (Rep K) S (.ok (.loc M.length) (M ++ [.dT []])) Q W) {p : Addr} (hp : S.H p = none) : Q (.ref p) (upd S.H p (.dT [])) := by
  have x := Ext.cell (o := .dT []) h hp
  refine q.ok' x (h.cell hp (.dT upd_same .nil)) (.loc ?_)
  show (S.m ++ [p])[M.length]? = _
  rw [← h.len, List.getElem?_append_right (Nat.le_refl _)]
  simp
end

/-! ### operators -/
def pyOp : Op2 → Operator
  | .add => .Add | .sub => .Sub | .mul => .Mult | .fdiv => .FloorDiv | .mod => .Mod | .pow => .Pow | .shl => .LShift | .shr => .RShift | .band => .BitAnd | .bor => .BitOr
/-- what a rule by values serves -/
def Serves2 (X : Cx) (xi : XTab) (f : Value → Value → Sem Value) (g : Mem → D → D → Option D) : Prop := ∃ r, OpR X f r ∧
  ∀ (S : Sw) (M : Mem) (a b d : D) (x y : V) (Q : VK) (W : Sw → XW), MemRel X.K S M → Rep X.K S a x → Rep X.K S b y → g M a b = some d → Run X.K xi (Rep X.K) S (.ok d M) Q W → r x y S.H Q
theorem Serves2.or {X : Cx} {xi : XTab} {f : Value → Value → Sem Value} {g g' k : Mem → D → D → Option D} (h : Serves2 X xi f g) (h' : Serves2 X xi f g') (e : ∀ M a b d, k M a b = some d → g M a b = some d ∨ g' M a b = some d) : Serves2 X xi f k := by
  obtain ⟨r, o, q⟩ := h
  obtain ⟨r', o', q'⟩ := h'
  refine ⟨_, o.or o', fun S M a b d x y Q W hM ra rb he hr => ?_⟩
  rcases e M a b d he with z | z
  · exact .inl (q S M a b d x y Q W hM ra rb z hr)
  · exact .inr (q' S M a b d x y Q W hM ra rb z hr)
theorem Serves2.imp {X : Cx} {xi : XTab} {f : Value → Value → Sem Value} {g k : Mem → D → D → Option D} (h : Serves2 X xi f g) (e : ∀ M a b d, k M a b = some d → g M a b = some d) : Serves2 X xi f k := by
  obtain ⟨r, o, q⟩ := h
  exact ⟨r, o, fun S M a b d x y Q W hM ra rb he hr => q S M a b d x y Q W hM ra rb (e _ _ _ _ he) hr⟩
section
variable {X : Cx} {xi : XTab}
def gI (o : Op2) : Mem → D → D → Option D := fun _ a b => match a, b with
  | .int i, .int j => (opI o i j).map D.int
  | _, _ => none
theorem gI_of {o : Op2} {M : Mem} {a b d : D} (h : gI o M a b = some d) : ∃ i j k, a = .int i ∧ b = .int j ∧ opI o i j = some k ∧ d = .int k := by
  unfold gI at h
  split at h
  · obtain ⟨k, e1, e2⟩ := Option.map_eq_some_iff.mp h
    exact ⟨_, _, k, rfl, rfl, e1, e2.symm⟩
  · cases h
theorem srv_I0 {f : Value → Value → Sem Value} {o : Op2} {g : Int → Int → Int} (h : OpR X f (rI0 fun i j => .int (g i j))) (e : ∀ i j, opI o i j = some (g i j)) : Serves2 X xi f (gI o) := by
  refine ⟨_, h, fun S M a b d x y Q W hM ra rb he hr => ?_⟩
  obtain ⟨i, j, k, rfl, rfl, e1, rfl⟩ := gI_of he
  rw [e] at e1
  cases e1
  cases ra
  cases rb
  exact ⟨i, j, rfl, rfl, hr.ok hM (.int _)⟩
theorem srv_I {f : Value → Value → Sem Value} {o : Op2} {C : Int → Int → Prop} {g : Int → Int → Int} (h : OpR X f (rI C fun i j => .int (g i j))) (e : ∀ i j k, opI o i j = some k → C i j ∧ k = g i j) : Serves2 X xi f (gI o) := by
  refine ⟨_, h, fun S M a b d x y Q W hM ra rb he hr => ?_⟩
  obtain ⟨i, j, k, rfl, rfl, e1, rfl⟩ := gI_of he
  obtain ⟨c, rfl⟩ := e i j k e1
  cases ra
  cases rb
  exact ⟨i, j, rfl, rfl, c, hr.ok hM (.int _)⟩
theorem ite_some {α : Type} {c : Prop} [Decidable c] {x y : α} (h : (if c then some x else none) = some y) : c ∧ x = y := by
  split at h
  · exact ⟨by assumption, Option.some.inj h⟩
  · cases h
theorem srv_int (o : Op2) : Serves2 X xi (binaryOp (pyOp o)) (gI o) := by
  cases o with
  | add => exact srv_I0 op_add fun _ _ => rfl
  | sub => exact srv_I0 op_sub fun _ _ => rfl
  | mul =>
    exact srv_I op_mul fun i j k h => by
      obtain ⟨c, e⟩ := ite_some (show (if mulOk i j then some (i * j) else none) = some k from h)
      exact ⟨c, e.symm⟩
  | fdiv =>
    exact srv_I op_fdiv fun i j k h => by
      obtain ⟨c, e⟩ := ite_some (show (if 0 < j ∧ j < 1073741824 then some (i / j) else none) = some k from h)
      exact ⟨c, e.symm⟩
  | mod =>
    exact srv_I op_mod fun i j k h => by
      obtain ⟨c, e⟩ := ite_some (show (if 0 < j then some (i % j) else none) = some k from h)
      exact ⟨c, e.symm⟩
  | pow =>
    exact srv_I op_pow fun i j k h => by
      obtain ⟨c, e⟩ := ite_some (show (if 0 ≤ j ∧ j ≤ 1000 ∧ i.natAbs < 2 ^ 64 then some (i ^ j.toNat) else none) = some k from h)
      exact ⟨⟨c.1, by omega, c.2.2⟩, e.symm⟩
  | shl =>
    exact srv_I op_shl fun i j k h => by
      obtain ⟨c, e⟩ := ite_some (show (if 0 ≤ j ∧ j ≤ 1000 ∧ i.natAbs < 2 ^ 64 then some (i * 2 ^ j.toNat) else none) = some k from h)
      exact ⟨⟨c.1, by omega, c.2.2⟩, e.symm⟩
  | shr =>
    exact srv_I op_shr fun i j k h => by
      obtain ⟨c, e⟩ := ite_some (show (if 0 ≤ j then some (i / 2 ^ j.toNat) else none) = some k from h)
      exact ⟨c, e.symm⟩
  | band => exact srv_I0 op_and fun _ _ => rfl
  | bor => exact srv_I0 op_or fun _ _ => rfl
/-- text + text -/
def gCatS : Mem → D → D → Option D := fun _ a b => match a, b with
  | .str s, .str t => if s.length + t.length ≤ line then some (.str (s ++ t)) else none
  | _, _ => none
theorem srv_catS : Serves2 X xi (binaryOp .Add) gCatS := by
  refine ⟨_, op_add_str, fun S M a b d x y Q W hM ra rb he hr => ?_⟩
  unfold gCatS at he
  split at he
  · rename_i s t
    obtain ⟨c, rfl⟩ := ite_some he
    cases ra
    cases rb
    refine ⟨_, _, rfl, rfl, ?_, ?_⟩
    · show s.toArray.size + t.toArray.size ≤ sizeLine
      rw [← line_eq]
      simpa using c
    · have e : (⟨s.toArray⟩ ++ ⟨t.toArray⟩ : Str) = ⟨(s ++ t).toArray⟩ := by
        show (⟨s.toArray ++ t.toArray⟩ : Str) = _
        simp
      rw [e]
      exact hr.ok hM (.str _)
  · cases he
/-- tuple + tuple -/
def gCatT : Mem → D → D → Option D := fun _ a b => match a, b with
  | .tup s, .tup t => if s.length + t.length ≤ line then some (.tup (s ++ t)) else none
  | _, _ => none
theorem srv_catT : Serves2 X xi (binaryOp .Add) gCatT := by
  refine ⟨_, op_catA, fun S M a b d x y Q W hM ra rb he hr => ?_⟩
  unfold gCatT at he
  split at he
  · rename_i s t
    obtain ⟨c, rfl⟩ := ite_some he
    cases ra with
    | tup h1 h2 =>
      cases rb with
      | tup h3 h4 =>
        refine ⟨_, _, _, _, rfl, rfl, h1.sq, h3.sq, by rw [← line_eq, ← h2.length, ← h4.length]; exact c, fun e => ?_, fun _ e => ?_, fun _ _ p hp => new_tup hM (h2.append h4) hr hp⟩
        · subst e
          cases h2
          exact hr.ok hM (.tup h3 h4)
        · subst e
          cases h4
          rw [List.append_nil] at hr
          exact hr.ok hM (.tup h1 h2)
  · cases he
/-- list + list -/
def gCatL : Mem → D → D → Option D := fun M a b => match trkOf M a, trkOf M b with
  | some xs, some ys => if xs.length + ys.length ≤ line then some (.lst (xs ++ ys)) else none
  | _, _ => none
theorem srv_catL : Serves2 X xi (binaryOp .Add) gCatL := by
  refine ⟨_, op_cat, fun S M a b d x y Q W hM ra rb he hr => ?_⟩
  unfold gCatL at he
  split at he
  · rename_i xs ys e1 e2
    obtain ⟨c, rfl⟩ := ite_some he
    obtain ⟨p, vs, rfl, h1, r1⟩ := trk_of hM ra e1
    obtain ⟨q, ws, rfl, h2, r2⟩ := trk_of hM rb e2
    exact ⟨p, q, vs, ws, rfl, rfl, h1, h2, by rw [← line_eq, ← r1.length, ← r2.length]; exact c, fun z hz => new_lst hM (r1.append r2) hr hz⟩
  · cases he
/-- list * int -/
def gRepL : Mem → D → D → Option D := fun M a b => match trkOf M a, b with
  | some xs, .int j => if 0 ≤ j ∧ xs.length * j.toNat ≤ line ∧ j < 1000000 then some (.lst (List.replicate j.toNat xs).flatten) else none
  | _, _ => none
theorem srv_repL : Serves2 X xi (binaryOp .Mult) gRepL := by
  refine ⟨_, op_rep, fun S M a b d x y Q W hM ra rb he hr => ?_⟩
  unfold gRepL at he
  split at he
  · rename_i xs j e1
    obtain ⟨c, rfl⟩ := ite_some he
    obtain ⟨p, vs, rfl, h1, r1⟩ := trk_of hM ra e1
    cases rb
    exact ⟨p, j, vs, rfl, rfl, h1, by omega, by omega, by rw [← line_eq, ← r1.length]; exact c.2.1, fun z hz => new_lst hM (r1.rep _) hr hz⟩
  · cases he
/-- tuple * int -/
def gRepT : Mem → D → D → Option D := fun M a b => match a, b with
  | .tup xs, .int j => if 2 ≤ j ∧ j ≤ 1000 ∧ xs.length ≤ 1000 ∧ 0 < xs.length then some (.tup (List.replicate j.toNat xs).flatten) else none
  | _, _ => none
theorem srv_repT : Serves2 X xi (binaryOp .Mult) gRepT := by
  refine ⟨_, op_repT, fun S M a b d x y Q W hM ra rb he hr => ?_⟩
  unfold gRepT at he
  split at he
  · rename_i xs j
    obtain ⟨c, rfl⟩ := ite_some he
    cases rb
    cases ra with
    | tup h1 h2 =>
      refine ⟨_, j, _, rfl, rfl, h1.sq, fun z => ?_, c.1, c.2.1, by rw [← h2.length]; exact c.2.2.1, fun z hz => new_tup hM (h2.rep _) hr hz⟩
      subst z
      cases h2
      exact absurd c.2.2.2 (by simp)
  · cases he
end
end Pv

set_option Elab.async false
set_option linter.all false
set_option maxRecDepth 100000
set_option maxHeartbeats 4000000
/-! Pv, part D: operators joined; comparisons, truth, places, slices, by values. -/
namespace Pv
open PySem PySem.Spec PyProof.Rows L2
section
variable {X : Cx} {xi : XTab}
theorem opS_cases {M : Mem} {o : Op2} {a b d : D} (h : opS M o a b = some d) :
    gI o M a b = some d ∨ (o = .add ∧ (gCatS M a b = some d ∨ gCatT M a b = some d ∨ gCatL M a b = some d)) ∨ (o = .mul ∧ (gRepT M a b = some d ∨ gRepL M a b = some d)) := by
  unfold opS at h
  split at h
  · exact .inl h
  · split at h
    · exact .inr (.inl ⟨rfl, .inl h⟩)
    · cases h
  · split at h
    · exact .inr (.inl ⟨rfl, .inr (.inl h)⟩)
    · cases h
  · split at h
    · exact .inr (.inr ⟨rfl, .inl h⟩)
    · cases h
  · split at h
    · exact .inr (.inl ⟨rfl, .inr (.inr h)⟩)
    · exact .inr (.inr ⟨rfl, .inr h⟩)
    · cases h
theorem srv_op (o : Op2) : Serves2 X xi (binaryOp (pyOp o)) (fun M => opS M o) := by
  by_cases ha : o = .add
  · subst ha
    refine Serves2.or (srv_int .add) (Serves2.or srv_catS (Serves2.or srv_catT srv_catL (k := fun M a b => (gCatT M a b).or (gCatL M a b)) ?_) (k := fun M a b => (gCatS M a b).or ((gCatT M a b).or (gCatL M a b))) ?_) ?_
    · intro M a b d h
      exact Option.or_eq_some_iff.mp h |>.imp id fun x => x.2
    · intro M a b d h
      exact Option.or_eq_some_iff.mp h |>.imp id fun x => x.2
    · intro M a b d h
      rcases opS_cases h with z | ⟨_, z⟩ | ⟨z, _⟩
      · exact .inl z
      · refine .inr ?_
        rcases z with z | z | z
        · rw [z]; rfl
        · have e : gCatS M a b = none := by
            unfold gCatT at z
            split at z
            · rfl
            · cases z
          rw [e, z]; rfl
        · have e : gCatS M a b = none ∧ gCatT M a b = none := by
            unfold gCatL at z
            split at z
            · rename_i e1 e2
              cases a <;> first | exact ⟨rfl, rfl⟩ | (simp [trkOf] at e1)
            · cases z
          rw [e.1, e.2, z]; rfl
      · cases z
  · by_cases hm : o = .mul
    · subst hm
      refine Serves2.or (srv_int .mul) (Serves2.or srv_repT srv_repL (k := fun M a b => (gRepT M a b).or (gRepL M a b)) ?_) ?_
      · intro M a b d h
        exact Option.or_eq_some_iff.mp h |>.imp id fun x => x.2
      · intro M a b d h
        rcases opS_cases h with z | ⟨z, _⟩ | ⟨_, z⟩
        · exact .inl z
        · cases z
        · refine .inr ?_
          rcases z with z | z
          · rw [z]; rfl
          · have e : gRepT M a b = none := by
              unfold gRepL at z
              split at z
              · rename_i e1
                cases a <;> first | rfl | (simp [trkOf] at e1)
              · cases z
            rw [e, z]; rfl
    · refine (srv_int o).imp fun M a b d h => ?_
      rcases opS_cases h with z | ⟨z, _⟩ | ⟨z, _⟩
      · exact z
      · exact absurd z ha
      · exact absurd z hm

/-! ### comparisons -/
def pyCmp : CmpO → CmpOp
  | .eq => .Eq | .ne => .NotEq | .lt => .Lt | .le => .LtE | .gt => .Gt | .ge => .GtE | .is_ => .Is | .isnt => .IsNot | .inn => .In | .notin => .NotIn
mutual
def toP : D → PyData
  | .non => .none
  | .bl b => .bool b
  | .int i => .int i
  | .str s => .str ⟨s.toArray⟩
  | .tup ds => .tuple (toPs ds)
  | .lst ds => .list (toPs ds)
  | .loc _ => .none
  | .ro _ _ => .none
def toPs : List D → List PyData
  | [] => []
  | d :: ds => toP d :: toPs ds
end
mutual
theorem toP_plain : ∀ d : D, (toP d).plain = true
  | .non => rfl
  | .bl _ => rfl
  | .int _ => rfl
  | .str _ => rfl
  | .tup ds => by rw [toP, PyData.plain]; exact toPs_plain ds
  | .lst ds => by rw [toP, PyData.plain]; exact toPs_plain ds
  | .loc _ => rfl
  | .ro _ _ => rfl
theorem toPs_plain : ∀ ds : List D, PyData.plainAll (toPs ds) = true
  | [] => rfl
  | d :: ds => by rw [toPs, PyData.plainAll, toP_plain d, toPs_plain ds]; rfl
end
mutual
theorem toP_depth : ∀ (n : Nat) (d : D), D.okD n d = true → (toP d).depth ≤ n
  | n, .non, _ => Nat.zero_le _
  | n, .bl _, _ => Nat.zero_le _
  | n, .int _, _ => Nat.zero_le _
  | n, .str _, _ => Nat.zero_le _
  | n, .tup ds, h => by
    cases n with
    | zero => simp [D.okD] at h
    | succ n =>
      rw [toP, PyData.depth]
      have := toPs_depth n ds (by simpa [D.okD] using h)
      omega
  | n, .lst ds, h => by
    cases n with
    | zero => simp [D.okD] at h
    | succ n =>
      rw [toP, PyData.depth]
      have := toPs_depth n ds (by simpa [D.okD] using h)
      omega
  | n, .loc _, _ => Nat.zero_le _
  | n, .ro _ _, _ => Nat.zero_le _
theorem toPs_depth : ∀ (n : Nat) (ds : List D), D.okDs n ds = true → PyData.depthAll (toPs ds) ≤ n
  | n, [], _ => Nat.zero_le _
  | n, d :: ds, h => by
    have h2 : D.okD n d = true ∧ D.okDs n ds = true := by simpa [D.okDs] using h
    have h3 := toP_depth n d h2.1
    have h4 := toPs_depth n ds h2.2
    rw [toPs, PyData.depthAll]
    omega
end
theorem str_beq {s t : List Nat} : ((⟨s.toArray⟩ : Str) == ⟨t.toArray⟩) = decide (s = t) := by
  rw [Bool.eq_iff_iff]
  simp
mutual
theorem toP_eqv : ∀ a b : D, (∃ n, D.okD n a = true) → (∃ n, D.okD n b = true) → PyData.eqv (toP a) (toP b) = D.eqv a b
  | .non, b, _, hb => by cases b <;> first | rfl | (obtain ⟨_, h⟩ := hb; simp [D.okD] at h) | (simp [toP, PyData.eqv, D.eqv])
  | .bl x, b, _, hb => by cases b <;> first | rfl | (obtain ⟨_, h⟩ := hb; simp [D.okD] at h) | (simp [toP, PyData.eqv, D.eqv]; done) | (simp only [toP, PyData.eqv, D.eqv, Bool.beq_eq_decide_eq])
  | .int x, b, _, hb => by cases b <;> first | (obtain ⟨_, h⟩ := hb; simp [D.okD] at h; done) | (simp only [toP, PyData.eqv, D.eqv, Bool.beq_eq_decide_eq])
  | .str x, b, _, hb => by cases b <;> first | (obtain ⟨_, h⟩ := hb; simp [D.okD] at h; done) | (simp only [toP, PyData.eqv, D.eqv, str_beq])
  | .tup xs, b, ha, hb => by
    cases b with
    | tup ys =>
      rw [toP, toP, PyData.eqv, D.eqv]
      refine toPs_eqv xs ys ?_ ?_
      · obtain ⟨n, h⟩ := ha
        cases n with
        | zero => simp [D.okD] at h
        | succ n => exact ⟨n, by simpa [D.okD] using h⟩
      · obtain ⟨n, h⟩ := hb
        cases n with
        | zero => simp [D.okD] at h
        | succ n => exact ⟨n, by simpa [D.okD] using h⟩
    | loc _ => obtain ⟨_, h⟩ := hb; simp [D.okD] at h
    | ro _ _ => obtain ⟨_, h⟩ := hb; simp [D.okD] at h
    | _ => simp [toP, PyData.eqv, D.eqv]
  | .lst xs, b, ha, hb => by
    cases b with
    | lst ys =>
      rw [toP, toP, PyData.eqv, D.eqv]
      refine toPs_eqv xs ys ?_ ?_
      · obtain ⟨n, h⟩ := ha
        cases n with
        | zero => simp [D.okD] at h
        | succ n => exact ⟨n, by simpa [D.okD] using h⟩
      · obtain ⟨n, h⟩ := hb
        cases n with
        | zero => simp [D.okD] at h
        | succ n => exact ⟨n, by simpa [D.okD] using h⟩
    | loc _ => obtain ⟨_, h⟩ := hb; simp [D.okD] at h
    | ro _ _ => obtain ⟨_, h⟩ := hb; simp [D.okD] at h
    | _ => simp [toP, PyData.eqv, D.eqv]
  | .loc _, _, ha, _ => by obtain ⟨_, h⟩ := ha; simp [D.okD] at h
  | .ro _ _, _, ha, _ => by obtain ⟨_, h⟩ := ha; simp [D.okD] at h
theorem toPs_eqv : ∀ a b : List D, (∃ n, D.okDs n a = true) → (∃ n, D.okDs n b = true) → PyData.eqvAll (toPs a) (toPs b) = D.eqvs a b
  | [], [], _, _ => rfl
  | [], _ :: _, _, _ => rfl
  | _ :: _, [], _, _ => rfl
  | x :: xs, y :: ys, ⟨n, ha⟩, ⟨m, hb⟩ => by
    have h1 : D.okD n x = true ∧ D.okDs n xs = true := by simpa [D.okDs] using ha
    have h2 : D.okD m y = true ∧ D.okDs m ys = true := by simpa [D.okDs] using hb
    rw [toPs, toPs, PyData.eqvAll, D.eqvs, toP_eqv x y ⟨n, h1.1⟩ ⟨m, h2.1⟩, toPs_eqv xs ys ⟨n, h1.2⟩ ⟨m, h2.2⟩]
end
mutual
theorem toP_dp {K : PySem.W.Frag} {S : Sw} : ∀ (d : D) {v : V}, (∃ n, D.okD n d = true) → Rep K S d v → Dp K S.H v (toP d)
  | .non, _, _, h => by cases h; exact .non
  | .bl _, _, _, h => by cases h; exact .bl _
  | .int _, _, _, h => by cases h; exact .int _
  | .str _, _, _, h => by cases h; exact .str _
  | .tup ds, _, ⟨n, hn⟩, h => by
    cases h with
    | tup h1 h2 =>
      cases n with
      | zero => simp [D.okD] at hn
      | succ n => exact .tup h1.sq (toPs_dp ds ⟨n, by simpa [D.okD] using hn⟩ h2)
  | .lst ds, _, ⟨n, hn⟩, h => by
    cases h with
    | lst h1 h2 =>
      cases n with
      | zero => simp [D.okD] at hn
      | succ n => exact .lst h1.sq (toPs_dp ds ⟨n, by simpa [D.okD] using hn⟩ h2)
  | .loc _, _, ⟨_, hn⟩, _ => by simp [D.okD] at hn
  | .ro _ _, _, ⟨_, hn⟩, _ => by simp [D.okD] at hn
theorem toPs_dp {K : PySem.W.Frag} {S : Sw} : ∀ (d : List D) {v : List V}, (∃ n, D.okDs n d = true) → Reps K S d v → DpAll K S.H v (toPs d)
  | [], _, _, h => by cases h; exact .nil
  | d :: ds, _, ⟨n, hn⟩, h => by
    have h1 : D.okD n d = true ∧ D.okDs n ds = true := by simpa [D.okDs] using hn
    cases h with
    | cons h2 h3 => exact .cons (toP_dp d ⟨n, h1.1⟩ h2) (toPs_dp ds ⟨n, h1.2⟩ h3)
end
/-- with a cell's list at the top -/
theorem top_dp {K : PySem.W.Frag} {S : Sw} {M : Mem} {d : D} {v : V} (hM : MemRel K S M) (h : ∃ n, D.okD n (topOf M d) = true) (r : Rep K S d v) : Dp K S.H v (toP (topOf M d)) := by
  cases d with
  | loc n =>
    unfold topOf at h ⊢
    cases q : M[n]? with
    | none => simp only [q] at h; obtain ⟨_, h⟩ := h; simp [D.okD] at h
    | some c =>
      cases c with
      | lst ds =>
        simp only [q] at h ⊢
        obtain ⟨a, vs, rfl, _, h3, h4⟩ := cell_lst hM r q
        obtain ⟨k, hk⟩ := h
        cases k with
        | zero => simp [D.okD] at hk
        | succ k => exact .lst (SqL.of h3) (toPs_dp ds ⟨k, by simpa [D.okD] using hk⟩ h4)
      | dK _ => simp only [q] at h; obtain ⟨_, h⟩ := h; simp [D.okD] at h
      | dT _ => simp only [q] at h; obtain ⟨_, h⟩ := h; simp [D.okD] at h
  | _ => exact toP_dp _ h r
/-- == and != by data -/
def rEqP (K : PySem.W.Frag) (ne : Bool) : R2 := fun x y H Q => ∃ d e, Dp K H x d ∧ Dp K H y e ∧ d.plain = true ∧ e.plain = true ∧ d.depth ≤ 64 ∧ Q (.bl (if ne then !PyData.eqv d e else PyData.eqv d e)) H
theorem op_eqP (hu : X.A.units + 64 < cLine) : OpR X (compareOp .Eq) (rEqP X.K false) := by
  intro pins s σ H x y v u Q I rx ry h
  obtain ⟨d, e, hd, he, sd, se, dd, q⟩ := h
  obtain ⟨as, r1⟩ := Dp.reads I d x v hd rx
  obtain ⟨bs, r2⟩ := Dp.reads I e y u he ry
  exact SeqAt.eq_plain r1 r2 sd se (by have : min d.depth e.depth ≤ d.depth := Nat.min_le_left _ _; omega) ⟨.bl _, H, I, rfl, q⟩
theorem op_neP (hu : X.A.units + 64 < cLine) : OpR X (compareOp .NotEq) (rEqP X.K true) := by
  intro pins s σ H x y v u Q I rx ry h
  obtain ⟨d, e, hd, he, sd, se, dd, q⟩ := h
  obtain ⟨as, r1⟩ := Dp.reads I d x v hd rx
  obtain ⟨bs, r2⟩ := Dp.reads I e y u he ry
  exact SeqAt.ne_plain r1 r2 sd se (by have : min d.depth e.depth ≤ d.depth := Nat.min_le_left _ _; omega) ⟨.bl _, H, I, rfl, q⟩
def gEq (ne : Bool) : Mem → D → D → Option D := fun M a b => (eqS M a b).map fun k => D.bl (if ne then !k else k)
theorem srv_eqR {f : Value → Value → Sem Value} {ne : Bool} (h : OpR X f (rEqP X.K ne)) : Serves2 X xi f (gEq ne) := by
  refine ⟨_, h, fun S M a b d x y Q W hM ra rb he hr => ?_⟩
  obtain ⟨k, e1, rfl⟩ := Option.map_eq_some_iff.mp he
  obtain ⟨c, e2⟩ := ite_some (show (if (D.okD eqDepth (topOf M a) && D.okD eqDepth (topOf M b)) = true then some (D.eqv (topOf M a) (topOf M b)) else none) = some k from e1)
  obtain ⟨c1, c2⟩ := Bool.and_eq_true_iff.mp c
  refine ⟨_, _, top_dp hM ⟨_, c1⟩ ra, top_dp hM ⟨_, c2⟩ rb, toP_plain _, toP_plain _, Nat.le_trans (toP_depth _ _ c1) (by decide), ?_⟩
  rw [toP_eqv _ _ ⟨_, c1⟩ ⟨_, c2⟩, e2]
  exact hr.ok hM (.bl _)
/-- is None -/
theorem srv_is {f : Value → Value → Sem Value} (neg : Bool) (h : OpR X f (fun x y H Q => y = .non ∧ Q (.bl (if neg then !decide (x = .non) else decide (x = .non))) H)) :
    Serves2 X xi f (fun _ a b => if b.isNon then some (D.bl (if neg then !a.isNon else a.isNon)) else none) := by
  refine ⟨_, h, fun S M a b d x y Q W hM ra rb he hr => ?_⟩
  obtain ⟨c, rfl⟩ := ite_some he
  cases rb <;> first
    | (simp [D.isNon] at c; done)
    | skip
  refine ⟨rfl, ?_⟩
  have e2 : decide (x = V.non) = a.isNon := by
    cases ra <;> simp [D.isNon]
  rw [e2]
  exact hr.ok hM (.bl _)
/-- in, not in: a sequence of flat things -/
theorem flat_rep {K : PySem.W.Frag} {S : Sw} {d : D} {v : V} (h : d.flat = true) (r : Rep K S d v) : flatV v = true := by
  cases r <;> first | rfl | (simp [D.flat] at h)
theorem eqV_rep {K : PySem.W.Frag} {S : Sw} {d e : D} {v w : V} (h : d.flat = true) (h' : e.flat = true) (r : Rep K S d v) (r' : Rep K S e w) : eqV v w = D.eqv d e := by
  cases r <;> first
    | (simp [D.flat] at h; done)
    | (cases r' <;> first
        | (simp [D.flat] at h'; done)
        | (simp only [eqV, D.eqv, str_beq]; done)
        | (simp only [eqV, D.eqv, Bool.beq_eq_decide_eq])
        | (simp [eqV, D.eqv]))
theorem flats_rep {K : PySem.W.Frag} {S : Sw} : ∀ {ds : List D} {vs : List V}, ds.all D.flat = true → Reps K S ds vs → vs.all flatV = true
  | [], _, _, h => by cases h; rfl
  | d :: ds, _, h, r => by
    have h2 : d.flat = true ∧ ds.all D.flat = true := by simpa using h
    cases r with
    | cons r1 r2 => rw [List.all_cons, flat_rep h2.1 r1, flats_rep h2.2 r2]; rfl
theorem any_rep {K : PySem.W.Frag} {S : Sw} {e : D} {w : V} (he : e.flat = true) (re : Rep K S e w) : ∀ {ds : List D} {vs : List V}, ds.all D.flat = true → Reps K S ds vs → inV w vs = ds.any fun d => D.eqv d e
  | [], _, _, h => by cases h; rfl
  | d :: ds, _, h, r => by
    have h2 : d.flat = true ∧ ds.all D.flat = true := by simpa using h
    cases r with
    | cons r1 r2 =>
      have ih := any_rep he re h2.2 r2
      unfold inV at ih ⊢
      rw [List.any_cons, List.any_cons, ih, eqV_rep h2.1 he r1 re]
def gIn (neg : Bool) : Mem → D → D → Option D := fun M a b => match seqOf M b with
  | some ds => if a.flat && ds.all D.flat then some (.bl (if neg then !(ds.any fun d => D.eqv d a) else (ds.any fun d => D.eqv d a))) else none
  | none => none
theorem srv_in {f : Value → Value → Sem Value} (neg : Bool) (h : OpR X f (rIn X.K neg)) : Serves2 X xi f (gIn neg) := by
  refine ⟨_, h, fun S M a b d x y Q W hM ra rb he hr => ?_⟩
  unfold gIn at he
  cases e : seqOf M b with
  | none => rw [e] at he; cases he
  | some ds =>
    rw [e] at he
    obtain ⟨c, rfl⟩ := ite_some he
    obtain ⟨c1, c2⟩ := Bool.and_eq_true_iff.mp c
    obtain ⟨p, vs, rfl, hq, r⟩ := seq_of hM rb e
    refine ⟨p, vs, rfl, hq, flat_rep c1 ra, flats_rep c2 r, ?_⟩
    rw [any_rep c1 ra c2 r]
    exact hr.ok hM (.bl _)
/-- one sign in a text -/
def gInS (neg : Bool) : Mem → D → D → Option D := fun _ a b => match a, b with
  | .str [c], .str t => some (.bl (if neg then !decide (c ∈ t) else decide (c ∈ t)))
  | _, _ => none
theorem srv_inS {f : Value → Value → Sem Value} (neg : Bool) (h : OpR X f (fun x y H Q => ∃ (c : Nat) (z : Str), x = .str ⟨#[c]⟩ ∧ y = .str z ∧ Q (.bl (if neg then !decide (c ∈ z.cps.toList) else decide (c ∈ z.cps.toList))) H)) : Serves2 X xi f (gInS neg) := by
  refine ⟨_, h, fun S M a b d x y Q W hM ra rb he hr => ?_⟩
  unfold gInS at he
  split at he
  · rename_i c t
    cases ra
    cases rb
    have e := (Option.some.inj he).symm
    subst e
    exact ⟨c, _, rfl, rfl, by simpa using hr.ok hM (.bl _)⟩
  · cases he
/-- k in d -/
theorem op_dIn (hu : X.A.units + 1 < cLine) : OpR X (compareOp .In) (fun x y H Q => ∃ a o, y = .ref a ∧ DGet H a x o ∧ Q (.bl o.isSome) H) := by
  intro pins s σ H x y v u Q I rx ry h
  obtain ⟨a, o, rfl, g, q⟩ := h
  cases ry
  exact d_in hu I g rx fun s3 I3 => ⟨.bl o.isSome, H, I3, rfl, q⟩
theorem op_dNotIn (hu : X.A.units + 1 < cLine) : OpR X (compareOp .NotIn) (fun x y H Q => ∃ a o, y = .ref a ∧ DGet H a x o ∧ Q (.bl (!o.isSome)) H) := by
  intro pins s σ H x y v u Q I rx ry h
  obtain ⟨a, o, rfl, g, q⟩ := h
  cases ry
  exact d_notIn hu I g rx fun s3 I3 => ⟨.bl (!o.isSome), H, I3, rfl, q⟩
end
end Pv

set_option Elab.async false
set_option linter.all false
set_option maxRecDepth 100000
set_option maxHeartbeats 4000000
/-! Pv, part E: dicts, comparisons joined, truth, places, slices, stores, by values. -/
namespace Pv
open PySem PySem.Spec PyProof.Rows L2
/-! ### dicts -/
section
variable {K : PySem.W.Frag} {S : Sw}
theorem kyK_eq {a b : Ky} : (kyK a = kyK b) ↔ a = b := ⟨kyK_inj, fun e => by rw [e]⟩
theorem kyKs_eq : ∀ {a b : List Ky}, (a.map kyK = b.map kyK) ↔ a = b
  | [], [] => by simp
  | [], _ :: _ => by simp
  | _ :: _, [] => by simp
  | x :: xs, y :: ys => by simp [kyK_eq, kyKs_eq (a := xs) (b := ys)]
def ORep (K : PySem.W.Frag) (S : Sw) : Option D → Option V → Prop
  | some d, some v => Rep K S d v
  | none, none => True
  | _, _ => False
theorem kget {κ κ' : Type} [DecidableEq κ] [DecidableEq κ'] {f : κ → κ'} (hf : ∀ a b, f a = f b ↔ a = b) : ∀ {kvs : List (κ × D)} {kws : List (κ' × V)} (k : κ), KReps f K S kvs kws → ORep K S (dGet kvs k) (valV kws (f k))
  | _, _, k, .nil => by simp [dGet, valV, ORep]
  | _, _, k, .cons (a := p) (b := q) h t => by
    have ih := kget hf k t
    obtain ⟨h1, h2⟩ := h
    unfold dGet valV at ih ⊢
    rw [List.find?_cons, List.find?_cons]
    by_cases e : p.1 = k
    · have e2 : q.1 = f k := by rw [h1, e]
      simp only [e, e2, decide_true, Option.map_some]
      exact h2
    · have e2 : ¬ q.1 = f k := by
        rw [h1, hf]
        exact e
      simp only [e, e2, decide_false]
      exact ih
theorem kany {κ κ' : Type} [DecidableEq κ] [DecidableEq κ'] {f : κ → κ'} (hf : ∀ a b, f a = f b ↔ a = b) : ∀ {kvs : List (κ × D)} {kws : List (κ' × V)} (k : κ), KReps f K S kvs kws → (kvs.any fun kv => decide (kv.1 = k)) = kws.any fun kv => decide (kv.1 = f k)
  | _, _, k, .nil => rfl
  | _, _, k, .cons (a := p) (b := q) h t => by
    rw [List.any_cons, List.any_cons, kany hf k t]
    congr 1
    rw [h.1]
    simp [hf]
theorem kput {κ κ' : Type} [DecidableEq κ] [DecidableEq κ'] {f : κ → κ'} (hf : ∀ a b, f a = f b ↔ a = b) {kvs : List (κ × D)} {kws : List (κ' × V)} (k : κ) {d : D} {v : V} (h : KReps f K S kvs kws) (r : Rep K S d v) : KReps f K S (dPut kvs k d) (putK kws (f k) v) := by
  unfold dPut putK
  rw [kany hf k h]
  split
  · have go : ∀ {a : List (κ × D)} {b : List (κ' × V)}, KReps f K S a b → KReps f K S (a.map fun kv => if kv.1 = k then (kv.1, d) else kv) (b.map fun kv => if kv.1 = f k then (kv.1, v) else kv) := by
      intro a b h
      induction h with
      | nil => exact .nil
      | cons h t ih =>
        rename_i p q _ _
        rw [List.map_cons, List.map_cons]
        refine .cons ?_ ih
        by_cases e : p.1 = k
        · have e2 : q.1 = f k := by rw [h.1, e]
          rw [if_pos e, if_pos e2]
          exact ⟨h.1, r⟩
        · have e2 : ¬ q.1 = f k := by rw [h.1, hf]; exact e
          rw [if_neg e, if_neg e2]
          exact h
    exact go h
  · have go : ∀ {a : List (κ × D)} {b : List (κ' × V)}, KReps f K S a b → KReps f K S (a ++ [(k, d)]) (b ++ [(f k, v)]) := by
      intro a b h
      induction h with
      | nil => exact .cons ⟨rfl, r⟩ .nil
      | cons h t ih => exact .cons h ih
    exact go h
theorem klen {κ κ' : Type} {f : κ → κ'} {kvs : List (κ × D)} {kws : List (κ' × V)} (h : KReps f K S kvs kws) : kvs.length = kws.length := Paired.length h
theorem ky_rep {d : D} {v : V} {k : Ky} (e : kyOf d = some k) (r : Rep K S d v) : v = kV (kyK k) := by
  cases r <;> first
    | (simp [kyOf] at e; subst e; rfl)
    | (simp [kyOf] at e; done)
theorem kys_rep : ∀ {ds : List D} {vs : List V} {ks : List Ky}, kysOf ds = some ks → Reps K S ds vs → vs = (ks.map kyK).map kV
  | [], _, _, e, h => by
    cases h
    simp [kysOf] at e
    subst e
    rfl
  | d :: ds, _, ks, e, h => by
    cases h with
    | cons h1 h2 =>
      unfold kysOf at e
      split at e
      · rename_i k ks' e1 e2
        have e3 := Option.some.inj e
        subst e3
        rw [ky_rep e1 h1, kys_rep e2 h2]
        rfl
      · cases e
/-- what a dict's cell gives at a key -/
theorem dict_at {M : Mem} {a b : D} {x y : V} {o : Option D} (hM : MemRel K S M) (ra : Rep K S a x) (rb : Rep K S b y) (h : dictGet M a b = some o) : ∃ p w, x = .ref p ∧ DGet S.H p y w ∧ ORep K S o w := by
  unfold dictGet at h
  split at h
  · rename_i n
    split at h
    · rename_i kvs e
      obtain ⟨k, e1, rfl⟩ := Option.map_eq_some_iff.mp h
      cases ra with
      | loc h1 =>
        obtain ⟨p, e2, c⟩ := hM.at_ n _ e
        rw [h1] at e2
        cases e2
        cases c with
        | dK e3 r3 =>
          rw [ky_rep e1 rb]
          exact ⟨_, _, rfl, DGet.k e3, kget (fun _ _ => kyK_eq) k r3⟩
    · rename_i kvs e
      split at h
      · rename_i ks
        obtain ⟨k, e1, rfl⟩ := Option.map_eq_some_iff.mp h
        cases ra with
        | loc h1 =>
          obtain ⟨p, e2, c⟩ := hM.at_ n _ e
          rw [h1] at e2
          cases e2
          cases c with
          | dT e3 r3 =>
            cases rb with
            | tup q1 q2 =>
              have e4 := kys_rep e1 q2
              subst e4
              exact ⟨_, _, rfl, DGet.t e3 q1.1, kget (fun _ _ => kyKs_eq) k r3⟩
      · cases h
    · cases h
  · cases h
end
section
variable {X : Cx} {xi : XTab}
def gInD (neg : Bool) : Mem → D → D → Option D := fun M a b => (dictGet M b a).map fun o => D.bl (if neg then !o.isSome else o.isSome)
theorem ORep.isSome {K : PySem.W.Frag} {S : Sw} {o : Option D} {w : Option V} (h : ORep K S o w) : o.isSome = w.isSome := by
  cases o <;> cases w <;> first | rfl | exact h.elim
theorem srv_inD {f : Value → Value → Sem Value} (neg : Bool) (h : OpR X f (fun x y H Q => ∃ a o, y = .ref a ∧ DGet H a x o ∧ Q (.bl (if neg then !o.isSome else o.isSome)) H)) : Serves2 X xi f (gInD neg) := by
  refine ⟨_, h, fun S M a b d x y Q W hM ra rb he hr => ?_⟩
  obtain ⟨o, e1, rfl⟩ := Option.map_eq_some_iff.mp he
  obtain ⟨p, w, rfl, g, r⟩ := dict_at hM rb ra e1
  refine ⟨p, w, rfl, g, ?_⟩
  rw [← r.isSome]
  exact hr.ok hM (.bl _)
/-! ### comparisons joined -/
theorem inS_cases {M : Mem} {a b : D} {k : Bool} (h : inS M a b = some k) (neg : Bool) : gInS neg M a b = some (.bl (if neg then !k else k)) ∨ gIn neg M a b = some (.bl (if neg then !k else k)) ∨ gInD neg M a b = some (.bl (if neg then !k else k)) := by
  unfold inS at h
  split at h
  · rename_i t
    split at h
    · rename_i c
      have e := Option.some.inj h
      subst e
      exact .inl rfl
    · cases h
  · rename_i hb
    cases e : seqOf M b with
    | some ds =>
      rw [e] at h
      obtain ⟨c, rfl⟩ := ite_some h
      refine .inr (.inl ?_)
      unfold gIn
      rw [e]
      simp only [c, if_true]
    | none =>
      rw [e] at h
      obtain ⟨o, e1, rfl⟩ := Option.map_eq_some_iff.mp h
      refine .inr (.inr ?_)
      unfold gInD
      rw [e1]
      rfl
def gCI (o : CmpO) : Mem → D → D → Option D := fun _ a b => match a, b with
  | .int i, .int j => (cmpI o i j).map D.bl
  | _, _ => none
theorem srv_CI {o : CmpO} {f : Value → Value → Sem Value} {g : Int → Int → Bool} (h : OpR X f (rI0 fun i j => .bl (g i j))) (e : ∀ i j, cmpI o i j = some (g i j)) : Serves2 X xi f (gCI o) := by
  refine ⟨_, h, fun S M a b d x y Q W hM ra rb he hr => ?_⟩
  unfold gCI at he
  split at he
  · rename_i i j
    rw [e] at he
    have e2 := (Option.some.inj he).symm
    subst e2
    cases ra
    cases rb
    exact ⟨i, j, rfl, rfl, hr.ok hM (.bl _)⟩
  · cases he
def gCT (o : CmpO) : Mem → D → D → Option D := fun _ a b => match a, b with
  | .str i, .str j => (cmpT o i j).map D.bl
  | _, _ => none
theorem srv_CT {o : CmpO} {f : Value → Value → Sem Value} {g : List Nat → List Nat → Bool} (h : OpR X f (fun x y H Q => ∃ i j, x = .str i ∧ y = .str j ∧ Q (.bl (g i.cps.toList j.cps.toList)) H)) (e : ∀ i j, cmpT o i j = some (g i j)) : Serves2 X xi f (gCT o) := by
  refine ⟨_, h, fun S M a b d x y Q W hM ra rb he hr => ?_⟩
  unfold gCT at he
  split at he
  · rename_i i j
    rw [e] at he
    have e2 := (Option.some.inj he).symm
    subst e2
    cases ra
    cases rb
    exact ⟨_, _, rfl, rfl, by simpa using hr.ok hM (.bl _)⟩
  · cases he
theorem not_lt_le {i j : List Nat} : (!decide (j < i)) = decide (i ≤ j) := by
  rw [Bool.eq_iff_iff]
  simp
theorem srv_cmp (o : CmpO) (hu : X.A.units + 64 < cLine) : Serves2 X xi (compareOp (pyCmp o)) (fun M a b => (cmpS M o a b).map D.bl) := by
  have hu1 : X.A.units + 1 < cLine := by omega
  have ord : ∀ {o : CmpO} {M : Mem} {a b d : D}, (∀ M a b, cmpS M o a b = (match a, b with | .int i, .int j => cmpI o i j | .str s, .str t => cmpT o s t | _, _ => none)) → (cmpS M o a b).map D.bl = some d → gCI o M a b = some d ∨ gCT o M a b = some d := by
    intro o M a b d e h
    rw [e] at h
    split at h
    · exact .inl h
    · exact .inr h
    · cases h
  cases o with
  | eq =>
    refine (srv_eqR (ne := false) (op_eqP hu)).imp fun M a b d h => ?_
    exact h
  | ne =>
    refine (srv_eqR (ne := true) (op_neP hu)).imp fun M a b d h => ?_
    have h2 : ((eqS M a b).map (!·)).map D.bl = some d := h
    rw [Option.map_map] at h2
    exact h2
  | is_ =>
    refine (srv_is false op_isN).imp fun M a b d h => ?_
    have h2 : (match b with | .non => some a.isNon | _ => none).map D.bl = some d := h
    cases b <;> first
      | (simpa [D.isNon] using h2)
      | (simp at h2; done)
  | isnt =>
    refine (srv_is true op_notN).imp fun M a b d h => ?_
    have h2 : (match b with | .non => some (!a.isNon) | _ => none).map D.bl = some d := h
    cases b <;> first
      | (simpa [D.isNon] using h2)
      | (simp at h2; done)
  | inn =>
    refine Serves2.or (srv_inS false op_in_sign) (Serves2.or (srv_in false op_in_seq) (srv_inD false (op_dIn hu1)) (k := fun M a b => (gIn false M a b).or (gInD false M a b)) ?_) ?_
    · intro M a b d h
      exact Option.or_eq_some_iff.mp h |>.imp id fun x => x.2
    · intro M a b d h
      obtain ⟨k, e, rfl⟩ := Option.map_eq_some_iff.mp (show (inS M a b).map D.bl = some d from h)
      rcases inS_cases e false with z | z | z
      · exact .inl z
      · exact .inr (by rw [show gIn false M a b = some (.bl k) from z]; rfl)
      · refine .inr ?_
        cases q : gIn false M a b with
        | none => rw [show gInD false M a b = some (.bl k) from z]; rfl
        | some y =>
          exfalso
          unfold gIn at q
          unfold gInD at z
          cases q2 : seqOf M b with
          | none => rw [q2] at q; cases q
          | some ds =>
            obtain ⟨o, z1, _⟩ := Option.map_eq_some_iff.mp z
            unfold dictGet at z1
            split at z1
            · split at z1 <;> first
                | (rename_i e5; simp [seqOf, e5] at q2; done)
                | (cases z1; done)
            · cases z1
  | notin =>
    refine Serves2.or (srv_inS true op_notIn_sign) (Serves2.or (srv_in true op_notIn_seq) (srv_inD true (op_dNotIn hu1)) (k := fun M a b => (gIn true M a b).or (gInD true M a b)) ?_) ?_
    · intro M a b d h
      exact Option.or_eq_some_iff.mp h |>.imp id fun x => x.2
    · intro M a b d h
      obtain ⟨k0, e0, rfl⟩ := Option.map_eq_some_iff.mp (show ((inS M a b).map (!·)).map D.bl = some d from h)
      obtain ⟨k, e, rfl⟩ := Option.map_eq_some_iff.mp e0
      rcases inS_cases e true with z | z | z
      · exact .inl z
      · exact .inr (by rw [show gIn true M a b = some (.bl (!k)) from z]; rfl)
      · refine .inr ?_
        cases q : gIn true M a b with
        | none => rw [show gInD true M a b = some (.bl (!k)) from z]; rfl
        | some y =>
          exfalso
          unfold gIn at q
          unfold gInD at z
          cases q2 : seqOf M b with
          | none => rw [q2] at q; cases q
          | some ds =>
            obtain ⟨o, z1, _⟩ := Option.map_eq_some_iff.mp z
            unfold dictGet at z1
            split at z1
            · split at z1 <;> first
                | (rename_i e5; simp [seqOf, e5] at q2; done)
                | (cases z1; done)
            · cases z1
  | lt => exact Serves2.or (srv_CI op_lt fun _ _ => rfl) (srv_CT op_lt_str fun _ _ => rfl) fun M a b d h => ord (fun _ _ _ => rfl) h
  | le => exact Serves2.or (srv_CI op_le fun _ _ => rfl) (srv_CT (g := fun i j => decide (i ≤ j)) (show OpR X (compareOp .LtE) _ from by simpa only [not_lt_le] using op_le_str) fun _ _ => rfl) fun M a b d h => ord (fun _ _ _ => rfl) h
  | gt => exact Serves2.or (srv_CI op_gt fun _ _ => rfl) (srv_CT (g := fun i j => decide (j < i)) op_gt_str fun _ _ => rfl) fun M a b d h => ord (fun _ _ _ => rfl) h
  | ge => exact Serves2.or (srv_CI op_ge fun _ _ => rfl) (srv_CT (g := fun i j => decide (j ≤ i)) (show OpR X (compareOp .GtE) _ from by simpa only [not_lt_le] using op_ge_str) fun _ _ => rfl) fun M a b d h => ord (fun _ _ _ => rfl) h
/-! ### truth -/
theorem tru_at {K : PySem.W.Frag} {S : Sw} {M : Mem} {d : D} {v : V} {k : Bool} (hM : MemRel K S M) (r : Rep K S d v) (h : truS M d = some k) : TruV K v S.H k := by
  cases r with
  | non => exact (Option.some.inj h).symm
  | bl b => exact (Option.some.inj h).symm
  | int i => exact (Option.some.inj h).symm
  | str s =>
    obtain ⟨c, rfl⟩ := ite_some (show (if s.length ≤ line then some (!s.isEmpty) else none) = some k from h)
    refine ⟨?_, ?_⟩
    · show s.toArray.size ≤ sizeLine
      rw [← line_eq]
      simpa using c
    · show (!s.isEmpty) = ((s.toArray.size : Int) != 0)
      cases s <;> simp
      omega
  | tup h1 h2 =>
    have e := (Option.some.inj h).symm
    subst e
    exact .inr (.inl ⟨_, h1.sq, by rw [h2.isEmpty]⟩)
  | lst h1 h2 =>
    have e := (Option.some.inj h).symm
    subst e
    exact .inl ⟨_, h1.sq, by rw [h2.isEmpty]⟩
  | @ro l ds a vs h1 h2 =>
    have e := (Option.some.inj h).symm
    subst e
    have q := h1.sq
    cases l with
    | true => exact .inl ⟨_, q, by rw [h2.isEmpty]⟩
    | false => exact .inr (.inl ⟨_, q, by rw [h2.isEmpty]⟩)
  | @loc n a h1 =>
    have h' : (match M[n]? with
      | some (.lst ds) => some (!ds.isEmpty)
      | some (.dK kvs) => some (!kvs.isEmpty)
      | _ => none) = some k := h
    cases q : M[n]? with
    | none => rw [q] at h'; cases h'
    | some c =>
      rw [q] at h'
      obtain ⟨b, e1, cr⟩ := hM.at_ n c q
      rw [h1] at e1
      cases e1
      cases cr with
      | lst e3 r3 =>
        have e := (Option.some.inj h').symm
        subst e
        exact .inl ⟨_, SqL.of e3, by rw [r3.isEmpty]⟩
      | dK e3 r3 =>
        have e := (Option.some.inj h').symm
        subst e
        refine .inr (.inr ⟨_, e3, ?_⟩)
        cases r3 <;> rfl
      | dT e3 r3 => cases h'
/-! ### places -/
theorem ixN_eq : @ixN = @L2.ixN := rfl
theorem atI_rep {K : PySem.W.Frag} {S : Sw} {ds : List D} {vs : List V} {k : Int} {d : D} (r : Reps K S ds vs) (e : atI ds k = some d) : ∃ v, L2.atI vs k = some v ∧ Rep K S d v := by
  obtain ⟨j, e1, e2⟩ := Option.bind_eq_some_iff.mp e
  obtain ⟨v, e3, rv⟩ := r.get e2
  refine ⟨v, ?_, rv⟩
  unfold L2.atI
  rw [← r.length, show L2.ixN ds.length k = some j from e1]
  exact e3
def gIx : Mem → D → D → Option D := idxQ
/-- a list, a tuple, a text at a place -/
theorem ix_at {K : PySem.W.Frag} {S : Sw} {M : Mem} {a b d : D} {x y : V} {Q : VK} {W : Sw → XW} (hM : MemRel K S M) (ra : Rep K S a x) (rb : Rep K S b y) (he : idxQ M a b = some d) (hr : Run K xi (Rep K) S (.ok d M) Q W) : rIx K x y S.H Q := by
  unfold idxQ at he
  split at he
  · rename_i k
    cases rb
    split at he
    · rename_i s
      obtain ⟨c, e⟩ := Option.ite_none_right_eq_some.mp he
      obtain ⟨z, e1, rfl⟩ := Option.map_eq_some_iff.mp e
      cases ra
      refine .inr (.inr ⟨_, k, z, rfl, rfl, ?_, ?_, ?_⟩)
      · show s.toArray.size ≤ sizeLine
        rw [← line_eq]
        simpa using c
      · exact e1
      · exact hr.ok hM (.str [z])
    · cases q : seqOf M a with
      | none => rw [q] at he; cases he
      | some ds =>
        rw [q] at he
        obtain ⟨p, vs, rfl, hq, r⟩ := seq_of hM ra q
        obtain ⟨v, e1, rv⟩ := atI_rep r he
        rcases hq with hq | hq
        · exact .inl ⟨p, vs, k, v, rfl, rfl, hq, e1, hr.ok hM rv⟩
        · exact .inr (.inl ⟨p, vs, k, v, rfl, rfl, hq, e1, hr.ok hM rv⟩)
  · cases he
/-- o[i] of a list, a tuple, a text, a dict -/
def rSub (K : PySem.W.Frag) : R2 := fun x y H Q => rIx K x y H Q ∨ ∃ a v, x = .ref a ∧ DGet H a y (some v) ∧ Q v H
theorem pe_sub {o i : Expr} {to ti : TE} {pos : Pos} (hu : X.A.units + 1 < cLine) (ho : PE X o to) (hi : PE X i ti) (hs : PlainIx i) : PE X (.Subscript o i pos) (tOp (rSub X.K) to ti) := by
  refine ⟨fun pins s σ H Q I h => ?_⟩
  refine Subscript_ (binT ho hi I h fun v u s2 x y H2 I2 rx ry q => ?_)
  rcases q with q | ⟨a, w, rfl, g, q⟩
  · exact ix_seq o i pins s2 σ H2 x y v u Q I2 rx ry q (hs _ _)
  · cases rx
    have hT := dict_typeIs I2 g
    unfold subscriptTail
    refine wpAny_bind ?_
    rw [getitemInPython_of_ne hT.not_modules]
    refine wpAny_bind (wpAny_specialOf hT PySem.F.slot_dict_getitem.lookup ?_)
    have fin : wpAny (model X.prog X.w) X.A (subscripted i false (.ref a) u) (fun r s₃ => wpAny (model X.prog X.w) X.A (letTemporaryGo o (.ref a) r >>= fun _ => pure r) (EP X pins σ Q) X.xe s₃) X.xe s2 := by
      rw [hs _ _]
      exact wpAny_operating (thn (d_getItem hu I2 g ry fun w' s3 I3 rw' => (show EP X pins σ Q w' s3 from ⟨w, H2, I3, rw', q⟩)) fun r s₃ h₃ => wpAny_bind (wpAny_letTemporaryGo (wpAny_pure h₃)))
    first
      | exact wpAny_pure (wpAny_bind fin)
      | exact wpAny_bind (wpAny_pure (wpAny_bind fin))
      | exact wpAny_bind fin
theorem sub_at {K : PySem.W.Frag} {S : Sw} {M : Mem} {a b d : D} {x y : V} {Q : VK} {W : Sw → XW} (hM : MemRel K S M) (ra : Rep K S a x) (rb : Rep K S b y) (he : idxS M a b = some d) (hr : Run K xi (Rep K) S (.ok d M) Q W) : rSub K x y S.H Q := by
  unfold idxS at he
  cases q : dictGet M a b with
  | none =>
    rw [q] at he
    exact .inl (ix_at hM ra rb he hr)
  | some o =>
    rw [q] at he
    have e : o = some d := he
    subst e
    obtain ⟨p, w, rfl, g, r⟩ := dict_at hM ra rb q
    cases w with
    | none => exact r.elim
    | some v => exact .inr ⟨p, v, rfl, g, hr.ok hM r⟩
end
end Pv

set_option Elab.async false
set_option linter.all false
set_option maxRecDepth 100000
set_option maxHeartbeats 4000000
/-! Pv, part F: slices, stores, built-ins, isinstance, by values. -/
namespace Pv
open PySem PySem.Spec PyProof.Rows L2
section
variable {X : Cx} {xi : XTab}
/-! ### slices -/
theorem sIx_eq (n d : Nat) (o : Option Int) : sIx n d o = HT.sIx n d o := by
  cases o with
  | none => rfl
  | some v =>
    show (if v < 0 then (v + n).toNat else min v.toNat n) = HT.sIx n d (some v)
    have h := HT.clip_eq v n d
    by_cases hv : v < 0
    · rw [if_pos hv] at h ⊢
      omega
    · rw [if_neg hv] at h ⊢
      omega
theorem cut_rep {K : PySem.W.Frag} {S : Sw} {ds : List D} {vs : List V} (r : Reps K S ds vs) (lo hi : Option Int) : Reps K S (cut ds lo hi) (cutV vs lo hi) := by
  unfold cut cutV
  rw [sIx_eq, sIx_eq, r.length]
  exact (r.drop _).take _
theorem cut_str (s : List Nat) (lo hi : Option Int) : cutS ⟨s.toArray⟩ lo hi = ⟨(cut s lo hi).toArray⟩ := by
  unfold cutS cut
  have e : (⟨s.toArray⟩ : Str).length = s.length := by show s.toArray.size = _; simp
  rw [e, sIx_eq, sIx_eq]
def rSl (K : PySem.W.Frag) : V → Option Int → Option Int → Hp → VK → Prop := fun x lo hi H Q => rSlL K x lo hi H Q ∨ rSlA K x lo hi H Q ∨ rSlS x lo hi H Q
theorem sl_any : SlR X (rSl X.K) := sl_list.or (sl_tupA.or sl_str)
theorem slc_at {K : PySem.W.Frag} {S : Sw} {M : Mem} {a d : D} {x : V} {lo hi : Option Int} {Q : VK} {W : Sw → XW} (hM : MemRel K S M) (ra : Rep K S a x) (he : slcS M a lo hi = some d) (hr : Run K xi (Rep K) S (.ok d M) Q W) : rSl K x lo hi S.H Q := by
  unfold slcS at he
  split at he
  · rename_i s
    obtain ⟨c, rfl⟩ := ite_some he
    cases ra
    refine .inr (.inr ⟨_, rfl, ?_, ?_⟩)
    · show s.toArray.size ≤ sizeLine
      rw [← line_eq]
      simpa using c
    · rw [cut_str]
      exact hr.ok hM (.str _)
  · rename_i ds
    have e := (Option.some.inj he).symm
    subst e
    cases ra with
    | tup h1 h2 =>
      refine .inr (.inl ⟨_, _, rfl, h1.sq, fun z => ?_, fun _ p hp => new_tup hM (cut_rep h2 lo hi) hr hp⟩)
      have e : cut ds lo hi = ds := by
        unfold cut
        rw [sIx_eq, sIx_eq, h2.length, z.1, z.2, List.drop_zero, Nat.sub_zero, ← h2.length]
        exact List.take_length
      rw [e] at hr
      exact hr.ok hM (.tup h1 h2)
  · obtain ⟨ds, e1, rfl⟩ := Option.map_eq_some_iff.mp he
    obtain ⟨p, vs, rfl, hq, r⟩ := lst_of hM ra e1
    exact .inl ⟨p, vs, rfl, hq, fun q hp => new_lst hM (cut_rep r lo hi) hr hp⟩
/-! ### stores -/
theorem set_dict (hu : X.A.units + 1 < cLine) : PSet X (fun o i v H Q => ∃ a H', o = .ref a ∧ DPut H a i v H' ∧ Q H') := by
  intro pins s σ H o i v ov iv u Q I ro ri rv h
  obtain ⟨a, H', rfl, g, q⟩ := h
  cases ro
  exact d_setItem hu I g ri rv fun s' I' => ⟨H', I', q⟩
def rSet : V → V → V → Hp → (Hp → Prop) → Prop := fun o i v H Q => rSetL o i v H Q ∨ ∃ a H', o = .ref a ∧ DPut H a i v H' ∧ Q H'
theorem set_any (hu : X.A.units + 1 < cLine) : PSet X rSet := by
  intro pins s σ H o i v ov iv u Q I ro ri rv h
  rcases h with h | h
  · exact set_list pins s σ H o i v ov iv u Q I ro ri rv h
  · exact set_dict hu pins s σ H o i v ov iv u Q I ro ri rv h
theorem dPut_len {κ : Type} [DecidableEq κ] (kvs : List (κ × D)) (k : κ) (d : D) : (dPut kvs k d).length ≤ kvs.length + 1 := by
  unfold dPut
  split <;> simp
theorem setS_at {K : PySem.W.Frag} {S : Sw} {M M' : Mem} {a b d : D} {x y v : V} {Q : Hp → Prop} (hM : MemRel K S M) (ra : Rep K S a x) (rb : Rep K S b y) (rd : Rep K S d v) (he : setS a b d M = some M') (hq : ∀ S', Ext S S' → MemRel K S' M' → Q S'.H) : rSet x y v S.H Q := by
  unfold setS at he
  split at he
  · rename_i n
    split at he
    · rename_i ds e
      obtain ⟨p, vs, rfl, h1, h2, h3⟩ := cell_lst hM ra e
      split at he
      · rename_i k
        obtain ⟨j, e1, rfl⟩ := Option.map_eq_some_iff.mp he
        cases rb
        refine .inl ⟨p, vs, k, j, rfl, rfl, h2, by rw [← h3.length]; exact e1, ?_⟩
        have x := Ext.write (o := .lst (vs.set j v)) (List.mem_of_getElem? h1)
        exact hq _ x (hM.write h1 (.lst upd_same ((h3.set j rd).mo x)))
      · cases he
    · rename_i kvs e
      obtain ⟨p, kws, rfl, h1, h2, h3⟩ := cell_dK hM ra e
      obtain ⟨k, e1, e2⟩ := Option.bind_eq_some_iff.mp he
      obtain ⟨c, rfl⟩ := ite_some e2
      rw [ky_rep e1 rb]
      refine .inr ⟨p, _, rfl, DPut.k h2 (by rw [← line_eq, ← klen h3]; exact c), ?_⟩
      have x := Ext.write (o := .dK (putK kws (kyK k) v)) (List.mem_of_getElem? h1)
      exact hq _ x (hM.write h1 (.dK upd_same ((kput (fun _ _ => kyK_eq) k h3 rd).mo x)))
    · rename_i kvs e
      split at he
      · rename_i ks
        obtain ⟨k, e1, e2⟩ := Option.bind_eq_some_iff.mp he
        obtain ⟨c, rfl⟩ := ite_some e2
        cases ra with
        | loc h1 =>
          obtain ⟨p, e3, cr⟩ := hM.at_ n _ e
          rw [h1] at e3
          cases e3
          cases cr with
          | dT e4 r4 =>
            cases rb with
            | tup q1 q2 =>
              have e5 := kys_rep e1 q2
              subst e5
              refine .inr ⟨_, _, rfl, DPut.t e4 q1.1 (by rw [← line_eq, ← klen r4]; exact c), ?_⟩
              refine hq _ (Ext.write (List.mem_of_getElem? h1)) (hM.write h1 (.dT upd_same ((kput (fun _ _ => kyKs_eq) k r4 rd).mo (Ext.write (List.mem_of_getElem? h1)))))
      · cases he
    · cases he
  · cases he
/-! ### built-ins -/
def ServesN (X : Cx) (xi : XTab) (f : Value) (g : Mem → List D → Option D) : Prop := ∃ r, CallR X f r ∧
  ∀ (S : Sw) (M : Mem) (ds : List D) (d : D) (vs : List V) (Q : VK) (W : Sw → XW), MemRel X.K S M → Reps X.K S ds vs → g M ds = some d → Run X.K xi (Rep X.K) S (.ok d M) Q W → r vs S.H Q
theorem ServesN.or {f : Value} {g g' k : Mem → List D → Option D} (h : ServesN X xi f g) (h' : ServesN X xi f g') (e : ∀ M a d, k M a = some d → g M a = some d ∨ g' M a = some d) : ServesN X xi f k := by
  obtain ⟨r, o, q⟩ := h
  obtain ⟨r', o', q'⟩ := h'
  refine ⟨_, o.or o', fun S M ds d vs Q W hM ra he hr => ?_⟩
  rcases e M ds d he with z | z
  · exact .inl (q S M ds d vs Q W hM ra z hr)
  · exact .inr (q' S M ds d vs Q W hM ra z hr)
theorem reps1 {K : PySem.W.Frag} {S : Sw} {d : D} {vs : List V} (h : Reps K S [d] vs) : ∃ v, vs = [v] ∧ Rep K S d v := by
  cases h with
  | cons h1 h2 => cases h2; exact ⟨_, rfl, h1⟩
theorem reps2 {K : PySem.W.Frag} {S : Sw} {d e : D} {vs : List V} (h : Reps K S [d, e] vs) : ∃ v w, vs = [v, w] ∧ Rep K S d v ∧ Rep K S e w := by
  cases h with
  | cons h1 h2 =>
    obtain ⟨w, rfl, h3⟩ := reps1 h2
    exact ⟨_, w, rfl, h1, h3⟩
theorem call_lenD : CallR X (.builtin "len") (fun xs H Q => ∃ a kvs, xs = [.ref a] ∧ H a = some (.dK kvs) ∧ Q (.int kvs.length) H) := by
  intro pins s σ H xs us Q I r h
  obtain ⟨a, kvs, rfl, e, q⟩ := h
  obtain ⟨u, rfl, ru⟩ := vals1 r
  cases ru
  exact d_len I (.inl e) fun t s' I' => ⟨.int kvs.length, H, I', ⟨t, rfl⟩, q⟩
theorem srv_len : ServesN X xi (.builtin "len") (fun M ds => bltS M .len ds) := by
  refine ⟨_, (call_len (X := X)).or call_lenD, fun S M ds d vs Q W hM ra he hr => ?_⟩
  match ds, he with
  | [x], he =>
    obtain ⟨v, rfl, r⟩ := reps1 ra
    have sq : ∀ {x : D} {v : V}, Rep X.K S x v → (seqOf M x).map (fun ds => D.int ds.length) = some d → ∃ n : Nat, LenV X.K v S.H n ∧ d = .int n := by
      intro x v r h
      obtain ⟨es, e1, rfl⟩ := Option.map_eq_some_iff.mp h
      obtain ⟨p, ws, rfl, hq, r2⟩ := seq_of hM r e1
      exact ⟨es.length, hq.imp (fun q => ⟨ws, q, r2.length⟩) (fun q => ⟨ws, q, r2.length⟩), rfl⟩
    have fin : (∃ n : Nat, LenV X.K v S.H n ∧ d = .int n) → (fun xs H Q => ∃ x n, xs = [x] ∧ LenV X.K x H n ∧ Q (.int n) H) [v] S.H Q := by
      rintro ⟨n, h1, rfl⟩
      exact ⟨v, n, rfl, h1, hr.ok hM (.int _)⟩
    cases x with
    | str s =>
      obtain ⟨c, rfl⟩ := ite_some (show (if s.length ≤ line then some (D.int s.length) else none) = some d from he)
      cases r
      refine .inl ⟨_, s.length, rfl, ⟨?_, ?_⟩, hr.ok hM (.int _)⟩
      · show s.toArray.size ≤ sizeLine
        rw [← line_eq]
        simpa using c
      · show s.length = s.toArray.size
        simp
    | loc n =>
      have he' : lenS M (.loc n) = some d := he
      cases q : M[n]? with
      | none => simp [lenS, q] at he'
      | some c =>
        cases c with
        | lst es =>
          simp only [lenS, q] at he'
          exact .inl (fin (sq r (by simpa [seqOf, q] using he')))
        | dK kvs =>
          simp only [lenS, q] at he'
          obtain ⟨p, kws, rfl, h1, h2, h3⟩ := cell_dK hM r q
          have e := (Option.some.inj he').symm
          subst e
          refine .inr ⟨p, kws, rfl, h2, ?_⟩
          rw [← klen h3]
          exact hr.ok hM (.int _)
        | dT kvs => simp [lenS, q] at he'
    | tup es => exact .inl (fin (sq r he))
    | lst es => exact .inl (fin (sq r he))
    | ro l es => exact .inl (fin (sq r he))
    | _ => cases he
theorem srv_tuple : ServesN X xi (.type "tuple") (fun M ds => bltS M .tuple ds) := by
  refine ⟨_, call_tuple_of, fun S M ds d vs Q W hM ra he hr => ?_⟩
  match ds, he with
  | [x], he =>
    obtain ⟨v, rfl, r⟩ := reps1 ra
    cases x with
    | tup es =>
      have e := (Option.some.inj (show some (D.tup es) = some d from he)).symm
      subst e
      cases r with
      | tup h1 h2 => exact ⟨_, _, rfl, .inr ⟨h1.sq, hr.ok hM (.tup h1 h2)⟩⟩
    | lst es =>
      have e := (Option.some.inj (show some (D.tup es) = some d from he)).symm
      subst e
      cases r with
      | lst h1 h2 => exact ⟨_, _, rfl, .inl ⟨h1.sq, fun l hl => new_tup hM h2 hr hl⟩⟩
    | loc n =>
      obtain ⟨es, e1, rfl⟩ := Option.map_eq_some_iff.mp (show (lstOf M (.loc n)).map D.tup = some d from he)
      obtain ⟨p, ws, rfl, hq, r2⟩ := lst_of hM r e1
      exact ⟨_, _, rfl, .inl ⟨hq, fun l hl => new_tup hM r2 hr hl⟩⟩
    | ro l es =>
      obtain ⟨es, e1, rfl⟩ := Option.map_eq_some_iff.mp (show (lstOf M (.ro l es)).map D.tup = some d from he)
      obtain ⟨p, ws, rfl, hq, r2⟩ := lst_of hM r e1
      exact ⟨_, _, rfl, .inl ⟨hq, fun l hl => new_tup hM r2 hr hl⟩⟩
    | _ => cases he
theorem srv_list : ServesN X xi (.type "list") (fun M ds => bltS M .list ds) := by
  refine ⟨_, call_list_of, fun S M ds d vs Q W hM ra he hr => ?_⟩
  match ds, he with
  | [x], he =>
    obtain ⟨v, rfl, r⟩ := reps1 ra
    obtain ⟨es, e1, rfl⟩ := Option.map_eq_some_iff.mp (show (seqOf M x).map D.lst = some d from he)
    obtain ⟨p, ws, rfl, hq, r2⟩ := seq_of hM r e1
    exact ⟨p, ws, rfl, hq, fun l hl => new_lst hM r2 hr hl⟩
theorem srv_intc : ServesN X xi (.type "int") (fun M ds => bltS M .int ds) := by
  refine ⟨_, call_int1, fun S M ds d vs Q W hM ra he hr => ?_⟩
  match ds, he with
  | [.int i], he =>
    obtain ⟨v, rfl, r⟩ := reps1 ra
    cases r
    have e := (Option.some.inj he).symm
    subst e
    exact .inl ⟨i, rfl, hr.ok hM (.int _)⟩
  | [.bl b], he =>
    obtain ⟨v, rfl, r⟩ := reps1 ra
    cases r
    have e := (Option.some.inj he).symm
    subst e
    exact .inr ⟨b, rfl, hr.ok hM (.int _)⟩
theorem srv_abs : ServesN X xi (.builtin "abs") (fun M ds => bltS M .abs ds) := by
  refine ⟨_, call_abs, fun S M ds d vs Q W hM ra he hr => ?_⟩
  match ds, he with
  | [.int i], he =>
    obtain ⟨v, rfl, r⟩ := reps1 ra
    cases r
    have e := (Option.some.inj he).symm
    subst e
    exact ⟨i, rfl, hr.ok hM (.int _)⟩
theorem srv_max2 (hc : X.calm = true) : ServesN X xi (.builtin "max") (fun M ds => bltS M .max2 ds) := by
  refine ⟨_, call_max2 hc, fun S M ds d vs Q W hM ra he hr => ?_⟩
  match ds, he with
  | [.int i, .int j], he =>
    obtain ⟨v, w, rfl, r, r2⟩ := reps2 ra
    cases r
    cases r2
    have e := (Option.some.inj he).symm
    subst e
    exact ⟨i, j, rfl, hr.ok hM (.int _)⟩
theorem srv_min2 (hc : X.calm = true) : ServesN X xi (.builtin "min") (fun M ds => bltS M .min2 ds) := by
  refine ⟨_, call_min2 hc, fun S M ds d vs Q W hM ra he hr => ?_⟩
  match ds, he with
  | [.int i, .int j], he =>
    obtain ⟨v, w, rfl, r, r2⟩ := reps2 ra
    cases r
    cases r2
    have e := (Option.some.inj he).symm
    subst e
    exact ⟨i, j, rfl, hr.ok hM (.int _)⟩
theorem srv_sum (hc : X.calm = true) : ServesN X xi (.builtin "sum") (fun M ds => bltS M .sum ds) := by
  refine ⟨_, cr_sum hc, fun S M ds d vs Q W hM ra he hr => ?_⟩
  match ds, he with
  | [x], he =>
    obtain ⟨v, rfl, r⟩ := reps1 ra
    obtain ⟨ns, e1, rfl⟩ := Option.map_eq_some_iff.mp (show ((lstOf M x).bind intsOf).map (fun ns => D.int ns.sum) = some d from he)
    obtain ⟨es, e2, e3⟩ := Option.bind_eq_some_iff.mp e1
    obtain ⟨p, ws, rfl, hq, r2⟩ := lst_of hM r e2
    rw [r2.ints e3] at hq
    exact ⟨p, ns, rfl, hq, hr.ok hM (.int _)⟩
theorem srv_all (hc : X.calm = true) : ServesN X xi (.builtin "all") (fun M ds => bltS M .all ds) := by
  refine ⟨_, cr_all hc, fun S M ds d vs Q W hM ra he hr => ?_⟩
  match ds, he with
  | [x], he =>
    obtain ⟨v, rfl, r⟩ := reps1 ra
    obtain ⟨ns, e1, rfl⟩ := Option.map_eq_some_iff.mp (show ((lstOf M x).bind blsOf).map (fun ns => D.bl (ns.all id)) = some d from he)
    obtain ⟨es, e2, e3⟩ := Option.bind_eq_some_iff.mp e1
    obtain ⟨p, ws, rfl, hq, r2⟩ := lst_of hM r e2
    rw [r2.bls e3] at hq
    exact ⟨p, ns, rfl, hq, hr.ok hM (.bl _)⟩
theorem srv_any (hc : X.calm = true) : ServesN X xi (.builtin "any") (fun M ds => bltS M .any ds) := by
  refine ⟨_, cr_any hc, fun S M ds d vs Q W hM ra he hr => ?_⟩
  match ds, he with
  | [x], he =>
    obtain ⟨v, rfl, r⟩ := reps1 ra
    obtain ⟨ns, e1, rfl⟩ := Option.map_eq_some_iff.mp (show ((lstOf M x).bind blsOf).map (fun ns => D.bl (ns.any id)) = some d from he)
    obtain ⟨es, e2, e3⟩ := Option.bind_eq_some_iff.mp e1
    obtain ⟨p, ws, rfl, hq, r2⟩ := lst_of hM r e2
    rw [r2.bls e3] at hq
    exact ⟨p, ns, rfl, hq, hr.ok hM (.bl _)⟩
/-- the greatest, the least -/
theorem maxL_is : ∀ {ns : List Int} {m : Int}, maxL ns = some m → m ∈ ns ∧ ∀ y ∈ ns, y ≤ m
  | [], _, h => by cases h
  | [x], m, h => by
    have e : x = m := Option.some.inj h
    subst e
    exact ⟨List.mem_singleton.mpr rfl, fun y hy => by rw [List.mem_singleton.mp hy]; exact Int.le_refl _⟩
  | x :: y :: r, m, h => by
    obtain ⟨k, e, rfl⟩ := Option.map_eq_some_iff.mp (show (maxL (y :: r)).map (fun m => max x m) = some m from h)
    obtain ⟨h1, h2⟩ := maxL_is e
    refine ⟨?_, fun z hz => ?_⟩
    · by_cases c : x ≤ k
      · rw [Int.max_eq_right c]
        exact List.mem_cons_of_mem _ h1
      · rw [Int.max_eq_left (by omega)]
        exact List.mem_cons_self
    · rcases List.mem_cons.mp hz with e | hz
      · rw [e]
        exact Int.le_max_left _ _
      · exact Int.le_trans (h2 z hz) (Int.le_max_right _ _)
theorem minL_is : ∀ {ns : List Int} {m : Int}, minL ns = some m → m ∈ ns ∧ ∀ y ∈ ns, m ≤ y
  | [], _, h => by cases h
  | [x], m, h => by
    have e : x = m := Option.some.inj h
    subst e
    exact ⟨List.mem_singleton.mpr rfl, fun y hy => by rw [List.mem_singleton.mp hy]; exact Int.le_refl _⟩
  | x :: y :: r, m, h => by
    obtain ⟨k, e, rfl⟩ := Option.map_eq_some_iff.mp (show (minL (y :: r)).map (fun m => min x m) = some m from h)
    obtain ⟨h1, h2⟩ := minL_is e
    refine ⟨?_, fun z hz => ?_⟩
    · by_cases c : x ≤ k
      · rw [Int.min_eq_left c]
        exact List.mem_cons_self
      · rw [Int.min_eq_right (by omega)]
        exact List.mem_cons_of_mem _ h1
    · rcases List.mem_cons.mp hz with e | hz
      · rw [e]
        exact Int.min_le_left _ _
      · exact Int.le_trans (Int.min_le_right _ _) (h2 z hz)
theorem maxL_some : ∀ {ns : List Int}, 0 < ns.length → ∃ m, maxL ns = some m
  | [x], _ => ⟨x, rfl⟩
  | x :: y :: r, _ => by
    obtain ⟨m, e⟩ := maxL_some (ns := y :: r) (by simp)
    exact ⟨max x m, by simp [maxL, e]⟩
theorem minL_some : ∀ {ns : List Int}, 0 < ns.length → ∃ m, minL ns = some m
  | [x], _ => ⟨x, rfl⟩
  | x :: y :: r, _ => by
    obtain ⟨m, e⟩ := minL_some (ns := y :: r) (by simp)
    exact ⟨min x m, by simp [minL, e]⟩
end
end Pv

set_option Elab.async false
set_option linter.all false
set_option maxRecDepth 100000
set_option maxHeartbeats 4000000
/-! Pv, part G: isinstance, methods, by values. -/
namespace Pv
open PySem PySem.Spec PyProof.Rows L2
section
variable {X : Cx} {xi : XTab}
/-! ### isinstance -/
def Ty.name : Ty → String
  | .int => "int" | .bool => "bool" | .str => "str" | .lst => "list" | .tup => "tuple" | .dct => "dict"
/-- the type of a value -/
def tyOf (M : Mem) : D → Option String
  | .non => some "NoneType"
  | .bl _ => some "bool"
  | .int _ => some "int"
  | .str _ => some "str"
  | .tup _ => some "tuple"
  | .lst _ => some "list"
  | .ro l _ => some (if l then "list" else "tuple")
  | .loc n => match M[n]? with
    | some (.lst _) => some "list"
    | some _ => some "dict"
    | none => none
def kitT (a : String) (t : Ty) : Bool := if a == t.name then true else a == "bool" && t.name == "int"
theorem kit_all : (["NoneType", "bool", "int", "str", "tuple", "list", "dict"] : List String).all (fun a => ([.int, .bool, .str, .lst, .tup, .dct] : List Ty).all fun t => decide (kitB a t.name = some (kitT a t))) = true := by decide +kernel
theorem kit_at {M : Mem} {d : D} {a : String} (h : tyOf M d = some a) (t : Ty) : kitB a t.name = some (kitT a t) ∧ isTy M d t = kitT a t := by
  have k : ∀ a ∈ (["NoneType", "bool", "int", "str", "tuple", "list", "dict"] : List String), kitB a t.name = some (kitT a t) := fun a ha => by
    have h1 := List.all_eq_true.mp kit_all a ha
    exact of_decide_eq_true (List.all_eq_true.mp h1 t (by cases t <;> simp))
  cases d with
  | loc n =>
    unfold tyOf at h
    unfold isTy
    cases q : M[n]? with
    | none => simp only [q] at h; cases h
    | some c =>
      cases c <;> (simp only [q] at h ⊢; cases h; exact ⟨k _ (by simp), by cases t <;> rfl⟩)
  | ro l _ => cases l <;> (cases h; exact ⟨k _ (by simp), by cases t <;> rfl⟩)
  | _ => cases h; exact ⟨k _ (by simp), by cases t <;> rfl⟩
theorem ty_rep {K : PySem.W.Frag} {S : Sw} {M : Mem} {d : D} {v : V} {a : String} (hM : MemRel K S M) (r : Rep K S d v) (h : tyOf M d = some a) : TyX K S.H v (.type a) := by
  cases r with
  | non => cases h; exact .base .non
  | bl b => cases h; exact .base (.bl b)
  | int i => cases h; exact .base (.int i)
  | str s => cases h; exact .base (.str _)
  | tup h1 h2 => cases h; exact .base (.tup h1.1)
  | lst h1 h2 => cases h; exact .base (.lst h1.1)
  | @ro l ds a vs h1 h2 =>
    cases h
    rcases h1 with ⟨rfl, o, q, _⟩ | ⟨rfl, q⟩ | ⟨rfl, q⟩
    · exact .base (.frz q)
    · rcases q fun _ => none with z | ⟨o, its, n, hk, hc, _⟩
      · rcases z with z | ⟨_, z⟩ <;> cases z
      · exact .kList hk hc
    · rcases q fun _ => none with z | ⟨o, its, n, hk, hc, _⟩
      · rcases z with z | ⟨_, z⟩ <;> cases z
      · exact .kTuple hk hc
  | @loc n a h1 =>
    unfold tyOf at h
    cases q : M[n]? with
    | none => simp only [q] at h; cases h
    | some c =>
      obtain ⟨b, e1, cr⟩ := hM.at_ n c q
      rw [h1] at e1
      cases e1
      cases cr with
      | lst e3 r3 => simp only [q] at h; cases h; exact .base (.lst e3)
      | dK e3 r3 => simp only [q] at h; cases h; exact .base (.dK e3)
      | dT e3 r3 => simp only [q] at h; cases h; exact .base (.dT e3)
theorem isi_ty {M : Mem} {d : D} {ts : List Ty} {k : Bool} (h : isiS M d ts = some k) : ∃ a, tyOf M d = some a ∧ k = ts.any (kitT a) := by
  have key : ∀ a, tyOf M d = some a → ts.any (isTy M d) = ts.any (kitT a) := fun a ha => by
    congr 1
    funext t
    exact (kit_at ha t).2
  unfold isiS at h
  cases d with
  | loc n =>
    cases q : M[n]? with
    | none => simp only [q] at h; cases h
    | some c =>
      simp only [q] at h
      have e := (Option.some.inj h).symm
      have ht : ∃ a, tyOf M (.loc n) = some a := by
        unfold tyOf
        cases c <;> (simp only [q]; exact ⟨_, rfl⟩)
      obtain ⟨a, ha⟩ := ht
      exact ⟨a, ha, by rw [e, key a ha]⟩
  | _ =>
    have e := (Option.some.inj h).symm
    exact ⟨_, rfl, by rw [e, key _ rfl]⟩
theorem kitAny_at {K : PySem.W.Frag} {M : Mem} {d : D} {a : String} (h : tyOf M d = some a) : ∀ ts : List Ty, PySem.W.kitAny K (.type a) (ts.map fun t => Value.type t.name) = some (ts.any (kitT a))
  | [] => kitAny_nil
  | t :: ts => by
    rw [List.map_cons, List.any_cons]
    refine kitAny_cons (kit_ty (kit_at h t).1) (fun e => ?_) fun e => ?_
    · rw [e, kitAny_at h ts]
      rfl
    · rw [e]
      rfl
/-- isinstance(a, T), isinstance(a, (T, ..)) -/
theorem isi_one {K : PySem.W.Frag} {S : Sw} {M : Mem} {d : D} {v : V} {t : Ty} {k : Bool} {Q : VK} {W : Sw → XW} (hM : MemRel K S M) (r : Rep K S d v) (h : isiS M d [t] = some k) (hr : Q (.bl k) S.H) : rIsi K [v, .ty t.name] S.H Q := by
  obtain ⟨a, ha, rfl⟩ := isi_ty h
  refine ⟨v, _, _, _, _, rfl, .ty _, ty_rep hM r ha, kit_ty (kit_at ha t).1, ?_⟩
  simpa using hr
theorem isi_many {K : PySem.W.Frag} {S : Sw} {M : Mem} {d : D} {v : V} {ts : List Ty} {k : Bool} {Q : VK} {p : Addr} (hM : MemRel K S M) (r : Rep K S d v) (h : isiS M d ts = some k) (hp : S.H p = none)
    (hr : ∀ o, Q (.bl k) (upd S.H p o)) : rIsiT K [v, .ref p] (upd S.H p (.tup (ts.map fun t => V.ty t.name))) Q := by
  obtain ⟨a, ha, rfl⟩ := isi_ty h
  have x := Ext.new (o := .tup (ts.map fun t => V.ty t.name)) hM hp
  refine ⟨v, p, _, _, ts.map fun t => Value.type t.name, _, rfl, upd_same, ?_, ty_rep (hM.new hp) (r.mo x) ha, kitAny_at ha ts, hr _⟩
  clear h ha hr x
  induction ts with
  | nil => exact .nil
  | cons t ts ih => exact .cons (.ty _) ih
/-! ### methods -/
def ServesM (X : Cx) (xi : XTab) (id : String) (m : Mth) : Prop := ∃ r, MtR X id r ∧
  ∀ (S : Sw) (M M' : Mem) (a d : D) (ds : List D) (x : V) (vs : List V) (Q : VK) (W : Sw → XW), MemRel X.K S M → Rep X.K S a x → Reps X.K S ds vs → mthS m a ds M = .ok d M' → Run X.K xi (Rep X.K) S (.ok d M') Q W → r x vs S.H Q
theorem srv_append : ServesM X xi "list.append" .append := by
  refine ⟨_, mt_append, fun S M M' a d ds x vs Q W hM ra rs he hr => ?_⟩
  unfold mthS at he
  split at he <;> first
    | (rename_i h; cases h; done)
    | skip
  · rename_i n y
    split at he
    · rename_i xs e
      split at he
      · rename_i c
        cases he
        obtain ⟨p, ws, rfl, h1, h2, h3⟩ := cell_lst hM ra e
        obtain ⟨v, rfl, r⟩ := reps1 rs
        refine ⟨p, ws, v, rfl, rfl, h2, by rw [← line_eq, ← h3.length]; exact c, ?_⟩
        have x := Ext.write (o := .lst (ws ++ [v])) (List.mem_of_getElem? h1)
        exact hr.ok' x (hM.write h1 (.lst upd_same ((h3.append (.cons r .nil)).mo x))) .non
      · cases he
    · cases he
  · cases he
theorem srv_pop0 : ServesM X xi "list.pop" .pop0 := by
  refine ⟨_, mt_pop, fun S M M' a d ds x vs Q W hM ra rs he hr => ?_⟩
  unfold mthS at he
  split at he <;> first
    | (rename_i h; cases h; done)
    | skip
  · rename_i n
    split at he
    · rename_i xs e
      split at he
      · rename_i y c
        cases he
        obtain ⟨p, ws, rfl, h1, h2, h3⟩ := cell_lst hM ra e
        cases rs
        obtain ⟨v, e1, rv⟩ := h3.get c
        refine ⟨p, ws, v, rfl, rfl, h2, by rw [← h3.length]; exact e1, ?_⟩
        have x := Ext.write (o := .lst ws.dropLast) (List.mem_of_getElem? h1)
        exact hr.ok' x (hM.write h1 (.lst upd_same (h3.dropLast.mo x))) (rv.mo x)
      · cases he
    · cases he
  · cases he
end
end Pv

set_option Elab.async false
set_option linter.all false
set_option maxRecDepth 100000
set_option maxHeartbeats 4000000
/-! Pv, part H: what a loop walks: lists and tuples, enumerate, zip, reversed of either. -/
namespace Pv
open PySem PySem.Spec PyProof.Rows L2
/-- a list (true), a tuple -/
def Sq (l : Bool) (K : PySem.W.Frag) (H : Hp) (a : Addr) (xs : List V) : Prop := match l with
  | true => SqL K H a xs
  | false => SqT K H a xs
def IsSq (l : Bool) (h : Heap) (a : Addr) (its : Array Value) : Prop := match l with
  | true => h.IsList a its
  | false => h.IsTuple a its
def IsIt (l : Bool) (h : Heap) (it a : Addr) (i : Nat) : Prop := match l with
  | true => h.IsListIter it a i
  | false => h.IsTupleIter it a i
def itObj (l : Bool) (a : Addr) : Obj := match l with
  | true => { cls := .type "list_iterator", data := .fields #[.ref a, .int 0 0] }
  | false => { cls := .type "tuple_iterator", data := .fields #[.ref a, .int 0 0] }
theorem IsIt.at {l : Bool} {h h' : Heap} {it a : Addr} {i : Nat} (x : IsIt l h it a i) (k : ∀ o, h.get? it = some o → h'.get? it = some o) : IsIt l h' it a i := by
  cases l with
  | true => exact Heap.IsListIter.at x k
  | false => exact Heap.IsTupleIter.at x k
theorem IsIt.obj {l : Bool} {h : Heap} {it a : Addr} {i : Nat} (x : IsIt l h it a i) : ∃ o, h.get? it = some o ∧ ∀ v, o.data ≠ .cell v := by
  cases l with
  | true =>
    obtain ⟨o, e, c, d⟩ := (show h.IsListIter it a i from x)
    exact ⟨o, e, fun v z => by rw [d] at z; cases z⟩
  | false =>
    obtain ⟨o, e, c, d⟩ := (show h.IsTupleIter it a i from x)
    exact ⟨o, e, fun v z => by rw [d] at z; cases z⟩
theorem itObj_is {l : Bool} {h : Heap} {it a : Addr} (e : h.get? it = some (itObj l a)) : IsIt l h it a 0 := by
  cases l with
  | true => exact ⟨_, e, rfl, rfl⟩
  | false => exact ⟨_, e, rfl, rfl⟩
theorem sq_inv {l : Bool} {X : Cx} {pins : List (Addr × Obj)} {σ : L2.St} {H : Hp} {s : Shared} {a : Addr} {xs : List V} (I : Inv X pins σ H s) (h : Sq l X.K H a xs) : ∃ its : List Value, Vals xs its ∧ IsSq l s.heap a its.toArray ∧ a < s.heap.objs.size := by
  cases l with
  | true =>
    obtain ⟨its, r, p, _⟩ := I.list h
    exact ⟨its, r, p.isList, p.lt⟩
  | false =>
    obtain ⟨its, r, p, _⟩ := I.tuple h
    exact ⟨its, r, p, IsTup.lt p⟩
theorem sq_inj {l : Bool} {X : Cx} {pins : List (Addr × Obj)} {σ : L2.St} {H : Hp} {s : Shared} {a : Addr} {xs ys : List V} (I : Inv X pins σ H s) (h : Sq l X.K H a xs) (h' : Sq l X.K H a ys) : xs = ys := by
  cases l with
  | true => exact I.list_inj h h'
  | false => exact I.tuple_inj h h'
theorem draws (l : Bool) {prog : Program} {w : World} {A : Around} (hh : A.handled = none) (it a : Addr) (hne : a ≠ it) (items : Array Value) :
    Draws prog w A it [it, a] items.size (fun i v => items[i]? = some v) (fun i h => IsIt l h it a i ∧ IsSq l h a items) := by
  cases l with
  | true => exact Draws.list hh it a hne items
  | false => exact Draws.tuple hh it a hne items
theorem begins (l : Bool) (a : Addr) (items : Array Value) : Begins (.ref a) (itObj l a) fun h => IsSq l h a items := by
  cases l with
  | true => exact begins_list a items
  | false => exact begins_tuple a items
section
variable {P : Program} {w : World} {K : PySem.W.Frag}
/-! ### one after another -/
def ItS (l : Bool) (K : PySem.W.Frag) (a : Addr) : It := match l with
  | true => Itl K a
  | false => Itt K a
theorem turn_seq {tg : Expr} (l : Bool) (a it : Addr) : Turn P w K tg (ItS l K a) [it] it (fun i h => IsIt l h it a i) := by
  cases l with
  | true => exact turn_list a it
  | false => exact turn_tuple a it
/-! ### enumerate -/
def ItE (l : Bool) (K : PySem.W.Frag) (a : Addr) : It :=
  ⟨fun i H => ∃ (xs : List V) (x : V), Sq l K H a xs ∧ xs[i]? = some x, fun i H v H' => ∃ T x, v = .ref T ∧ H T = none ∧ H' = upd H T (.tup [.int (i : Nat), x]) ∧ ∀ xs, Sq l K H a xs → xs[i]? = some x, fun i H => ∃ xs : List V, Sq l K H a xs ∧ xs.length = i⟩
theorem turn_enumA {elts : List Expr} {kk : Nat} {tpos : Pos} (l : Bool) (a e it : Addr) :
    Turn P w K (.Tuple elts kk tpos) (ItE l K a) [e, it] e (fun i h => (∃ old, IsEnum h e it ((i : Nat) : Int) old) ∧ IsIt l h it a i ∧ e ≠ it ∧ e ≠ a ∧ a ≠ it) where
  mem := by simp
  obj := fun i h st b hb => by
    obtain ⟨⟨old, he⟩, hi, _⟩ := st
    have e' : b = e ∨ b = it := by simpa using hb
    rcases e' with z | z
    · rw [z]; exact ⟨_, he, fun v q => nomatch q⟩
    · rw [z]; exact hi.obj
  keep := fun i h h' st k => let ⟨⟨old, he⟩, hi, hne⟩ := st; ⟨⟨old, k e (by simp) _ he⟩, hi.at fun o q => k it (by simp) o q, hne⟩
  item := by
    intro X hP hw hK hc i pins s σ H E I hf st hg
    subst hP hw hK
    obtain ⟨⟨old, he⟩, hit, hne, hea, hai⟩ := st
    obtain ⟨xs, x, hq, hx⟩ := hg
    obtain ⟨its, rv, p, hz⟩ := sq_inv I hq
    obtain ⟨u, hu, ru⟩ := rv.get hx
    have hel : e < s.heap.objs.size := Heap.lt_size he
    have hil : it < s.heap.objs.size := by obtain ⟨_, q, _⟩ := hit.obj; exact Heap.lt_size q
    have hlt : i < its.toArray.size := by simpa using (List.getElem?_eq_some_iff.mp hu).1
    refine wpAny_pyNext_enum_itemD (draws l (show X.A.in1.handled = none from I.ok.hd hc) it a hai its.toArray) he ⟨hit, p⟩ hlt hne (by simp [hne, hea]) fun y h' tk hy ho hit' hT hsz hk => ?_
    have ey : y = u := by
      have h1 : its.toArray[i]? = some u := by simpa using hu
      rw [h1] at hy
      exact (Option.some.inj hy).symm
    subst ey
    refine ⟨_, rfl, wpAny_letOwnedTupleGo_enum (s := { s with heap := h', toks := tk + 1 }) ho fun h'' he' sb => ?_⟩
    have hT2 : h''.get? s.heap.objs.size = some { cls := .type "tuple", data := .seq #[.int i tk, y] } := (sb.2 _ (Nat.ne_of_gt hel)).trans hT
    have new : ObjOk X.prog X.w (upd H s.heap.objs.size (.tup [.int (i : Nat), x])) h'' s.heap.objs.size (.tup [.int (i : Nat), x]) :=
      ⟨by show 2 ≤ sizeLine; decide, [.int i tk, y], .cons ⟨_, rfl⟩ (.cons ru .nil), ⟨_, hT2, rfl, _, rfl⟩⟩
    have I1 : Inv X pins σ (upd H s.heap.objs.size (.tup [.int (i : Nat), x])) { s with heap := h'', toks := tk + 1 } :=
      I.turnedNew (ch := [e, it]) (fun b ob hb q => (sb.2 b (fun z => hb (by simp [z]))).trans (hk b ob (fun z => hb (by simp [z])) (fun z => hb (by simp [z])) q)) hf (Nat.le_refl _) new
    refine ⟨.ref s.heap.objs.size, _, I1, rfl, ⟨_, x, rfl, I.hok.fresh (Nat.le_refl _), rfl, fun ys hy => by rw [sq_inj I hy hq]; exact hx⟩, ⟨⟨y, ?_⟩, hit'.1.at fun o q => (sb.2 it (Ne.symm hne)).trans q, hne, hea, hai⟩, fun b hb => ?_⟩
    · have e1 : ((i + 1 : Nat) : Int) = (i : Int) + 1 := by omega
      rw [e1]; exact he'
    · have hb' : b < s.heap.objs.size := by
        have e' : b = e ∨ b = it := by simpa using hb
        rcases e' with z | z
        · rw [z]; exact hel
        · rw [z]; exact hil
      rw [upd_ne (Nat.ne_of_lt hb')]
      exact (hf b hb).1
  done := by
    intro X hP hw hK hc i pins s σ H E I hf st hg
    subst hP hw hK
    obtain ⟨⟨old, he⟩, hit, hne, hea, hai⟩ := st
    obtain ⟨xs, hq, hx⟩ := hg
    obtain ⟨its, rv, p, hz⟩ := sq_inv I hq
    obtain ⟨f0, f1, f2, f3, f4, f5⟩ := hf it (by simp)
    have hl : i = its.toArray.size := by
      have := rv.length
      simp
      omega
    subst hl
    exact wpAny_pyNext_enum_endD (draws l (show X.A.in1.handled = none from I.ok.hd hc) it a hai its.toArray) he ⟨hit, p⟩ fun h' eb => ⟨rfl, I.turned (t' := s.toks) (fun b o hb q => eb b o hb q) f0 f1 f3 f4 f5⟩
  self := fun A i s Q E st h => let ⟨⟨_, he⟩, _⟩ := st; wpAny_pyIter_enum he h
/-! ### zip -/
def ItZ (l l' : Bool) (K : PySem.W.Frag) (a b : Addr) : It :=
  ⟨fun i H => ∃ (xs ys : List V) (x y : V), Sq l K H a xs ∧ Sq l' K H b ys ∧ xs[i]? = some x ∧ ys[i]? = some y,
    fun i H v H' => ∃ T x y, v = .ref T ∧ H T = none ∧ H' = upd H T (.tup [x, y]) ∧ (∀ xs, Sq l K H a xs → xs[i]? = some x) ∧ ∀ ys, Sq l' K H b ys → ys[i]? = some y,
    fun i H => ∃ xs ys : List V, Sq l K H a xs ∧ Sq l' K H b ys ∧ i ≤ xs.length ∧ i ≤ ys.length ∧ (i = xs.length ∨ i = ys.length)⟩
theorem turn_zipA {elts : List Expr} {kk : Nat} {tpos : Pos} (l l' : Bool) {a b z TI TO i1 i2 : Addr} (S : ZipSep2 z TI TO i1 i2 [i1, a] [i2, b]) :
    Turn P w K (.Tuple elts kk tpos) (ItZ l l' K a b) [z, TI, TO, i1, i2] z (fun i h => IsZip h z TI TO .none ∧ IsTupOf2 h TI (.ref i1) (.ref i2) ∧ (∃ x y, IsTupOf2 h TO x y) ∧ IsIt l h i1 a i ∧ IsIt l' h i2 b i ∧ a ≠ i1 ∧ b ≠ i2) where
  mem := by simp
  obj := fun i h st c hc => by
    obtain ⟨hz, hTI, ⟨x, y, hTO⟩, h1, h2, _⟩ := st
    have e' : c = z ∨ c = TI ∨ c = TO ∨ c = i1 ∨ c = i2 := by simpa using hc
    rcases e' with q | q | q | q | q
    · rw [q]; exact ⟨_, hz, fun v q => nomatch q⟩
    · rw [q]; exact ⟨_, hTI, fun v q => nomatch q⟩
    · rw [q]; exact ⟨_, hTO, fun v q => nomatch q⟩
    · rw [q]; exact h1.obj
    · rw [q]; exact h2.obj
  keep := fun i h h' st k => by
    obtain ⟨hz, hTI, ⟨x, y, hTO⟩, h1, h2, ne⟩ := st
    exact ⟨k z (by simp) _ hz, k TI (by simp) _ hTI, ⟨x, y, k TO (by simp) _ hTO⟩, h1.at fun o q => k i1 (by simp) o q, h2.at fun o q => k i2 (by simp) o q, ne⟩
  item := by
    intro X hP hw hK hc i pins s σ H E I hf st hg
    subst hP hw hK
    obtain ⟨hz, hTI, ⟨x0, y0, hTO⟩, h1, h2, n1, n2⟩ := st
    obtain ⟨xs, ys, x, y, hqx, hqy, hx, hy⟩ := hg
    obtain ⟨its, rv, p, _⟩ := sq_inv I hqx
    obtain ⟨its2, rv2, p2, _⟩ := sq_inv I hqy
    obtain ⟨u, hu, ru⟩ := rv.get hx
    obtain ⟨u2, hu2, ru2⟩ := rv2.get hy
    have hzl : z < s.heap.objs.size := Heap.lt_size hz
    have hlt : i < its.toArray.size := by simpa using (List.getElem?_eq_some_iff.mp hu).1
    have hlt2 : i < its2.toArray.size := by simpa using (List.getElem?_eq_some_iff.mp hu2).1
    have hh : X.A.in1.handled = none := I.ok.hd hc
    refine wpAny_pyNext_zipD2_item S (draws l hh i1 a n1 its.toArray) (draws l' hh i2 b n2 its2.toArray) hz hTI hTO ⟨h1, p⟩ ⟨h2, p2⟩ hlt hlt2 fun v1 v2 h' tk hv1 hv2 z' TO' h1' h2' hT hsz hk => ?_
    have e1 : v1 = u := by
      have q : its.toArray[i]? = some u := by simpa using hu
      rw [q] at hv1
      exact (Option.some.inj hv1).symm
    have e2 : v2 = u2 := by
      have q : its2.toArray[i]? = some u2 := by simpa using hu2
      rw [q] at hv2
      exact (Option.some.inj hv2).symm
    subst e1 e2
    refine ⟨_, rfl, wpAny_letOwnedTupleGo_zip (s := { s with heap := h', toks := tk }) z' fun h'' z'' sb => ?_⟩
    have hT2 : h''.get? s.heap.objs.size = some { cls := .type "tuple", data := .seq #[v1, v2] } := (sb.2 _ (Nat.ne_of_gt hzl)).trans hT
    have new : ObjOk X.prog X.w (upd H s.heap.objs.size (.tup [x, y])) h'' s.heap.objs.size (.tup [x, y]) :=
      ⟨by show 2 ≤ sizeLine; decide, [v1, v2], .cons ru (.cons ru2 .nil), ⟨_, hT2, rfl, _, rfl⟩⟩
    have I1 : Inv X pins σ (upd H s.heap.objs.size (.tup [x, y])) { s with heap := h'', toks := tk } :=
      I.turnedNew (t' := tk) (ch := [z, TI, TO, i1, i2]) (fun c o hb q => (sb.2 c (fun q' => hb (by simp [q']))).trans (hk c o (fun q' => hb (by simp [q'])) (fun q' => hb (by simp [q'])) (fun q' => hb (by simp [q'])) (fun q' => hb (by simp [q'])) q)) hf (Nat.le_refl _) new
    refine ⟨.ref s.heap.objs.size, _, I1, rfl, ⟨_, x, y, rfl, I.hok.fresh (Nat.le_refl _), rfl, fun l hl => by rw [sq_inj I hl hqx]; exact hx, fun l hl => by rw [sq_inj I hl hqy]; exact hy⟩, ⟨z'', ?_, ⟨v1, v2, ?_⟩, ?_, ?_, n1, n2⟩, fun c hcm => ?_⟩
    · exact (sb.2 _ S.TIz).trans (hk _ _ S.TIz S.TITO S.TIi1 S.TIi2 hTI)
    · exact (sb.2 _ S.TOz).trans TO'
    · exact h1'.1.at fun o q => (sb.2 _ (Ne.symm S.zi1)).trans q
    · exact h2'.1.at fun o q => (sb.2 _ (Ne.symm S.zi2)).trans q
    · have hlt : c < s.heap.objs.size := by
        have e' : c = z ∨ c = TI ∨ c = TO ∨ c = i1 ∨ c = i2 := by simpa using hcm
        rcases e' with q | q | q | q | q
        · rw [q]; exact hzl
        · rw [q]; exact Heap.lt_size hTI
        · rw [q]; exact Heap.lt_size hTO
        · rw [q]; obtain ⟨_, e1, _⟩ := h1.obj; exact Heap.lt_size e1
        · rw [q]; obtain ⟨_, e2, _⟩ := h2.obj; exact Heap.lt_size e2
      rw [upd_ne (Nat.ne_of_lt hlt)]
      exact (hf c hcm).1
  done := by
    intro X hP hw hK hc i pins s σ H E I hf st hg
    subst hP hw hK
    obtain ⟨hz, hTI, ⟨x0, y0, hTO⟩, h1, h2, n1, n2⟩ := st
    obtain ⟨xs, ys, hqx, hqy, le1, le2, hend⟩ := hg
    obtain ⟨its, rv, p, _⟩ := sq_inv I hqx
    obtain ⟨its2, rv2, p2, _⟩ := sq_inv I hqy
    have l1 := rv.length
    have l2 := rv2.length
    have hh : X.A.in1.handled = none := I.ok.hd hc
    refine wpAny_pyNext_zipD2_end S (draws l hh i1 a n1 its.toArray) (draws l' hh i2 b n2 its2.toArray) hz hTI hTO ⟨h1, p⟩ ⟨h2, p2⟩ (by simp; omega) (by simp; omega) (by simp; omega) fun h' tk hk => ⟨rfl, I.turnedL (t' := tk) (ch := [z, TI, TO, i1, i2]) (fun c o hb q =>
      hk c o (fun q' => hb (by simp [q'])) (fun q' => hb (by simp [q'])) (fun q' => hb (by simp [q'])) (fun q' => hb (by simp [q'])) q) hf⟩
  self := fun A i s Q E st h => wpAny_pyIter_zip st.1 h
end
/-! ### made -/
section
variable {X : Cx} {tg : Expr}
def iSeq (K : PySem.W.Frag) (tl : TE) : TI := fun σ H R => tl σ H fun x H1 => ∃ l a, x = .ref a ∧ (∃ xs, Sq l K H1 a xs) ∧ R (ItS l K a) H1
theorem pi_seq {e : Expr} {tl : TE} (hl : PE X e tl) : PI X tg e (iSeq X.K tl) := by
  refine ⟨fun pins s σ H R I h => ?_⟩
  refine thn (hl.run pins s σ H _ I h) fun v s1 ⟨x, H1, I1, r1, q1⟩ => ?_
  obtain ⟨l, a, e, ⟨xs, hq⟩, q⟩ := q1
  subst e
  cases r1
  obtain ⟨its, rv, p, hz⟩ := sq_inv I1 hq
  refine (begins l a its.toArray).iter _ _ _ _ _ _ p ?_
  refine ⟨s1.heap.objs.size, [s1.heap.objs.size], _, _, H1, rfl, I1.kept (t' := s1.toks) fun b o e => Heap.get?_push_of_some _ e, turn_seq l a _, itObj_is (Heap.get?_push_size _ (begins l a its.toArray).free), fun b hb => ?_, q⟩
  have e : b = s1.heap.objs.size := by simpa using hb
  subst e
  exact I1.fpOk (Nat.le_refl _) (I1.hok.fresh (Nat.le_refl _))
end
end Pv

set_option Elab.async false
set_option linter.all false
set_option maxRecDepth 100000
set_option maxHeartbeats 4000000
/-! Pv, part H2: max, min of a list or a tuple, with and without a default. -/
namespace Pv
open PySem PySem.Spec PyProof.Rows L2
/-- a built-in that is called with a default -/
def ServesK (X : Cx) (xi : XTab) (f : String) (g : Mem → List D → Option D) : Prop := ∃ r, CallRK X (.builtin f) [Str.ofString "default"] r ∧
  ∀ (S : Sw) (M : Mem) (a e d : D) (v z : V) (Q : VK) (W : Sw → XW), MemRel X.K S M → Rep X.K S a v → Rep X.K S e z → g M [a, e] = some d → Run X.K xi (Rep X.K) S (.ok d M) Q W → r [v] [z] S.H Q

theorem max_dflt (a v : Value) : argsOk "max" ⟨[a], [(Str.ofString "default", v)]⟩ := by unfold argsOk; kernel_rfl
section
variable {prog : Program} {w : World} {A : Around} {R : Result → Shared → Prop} {I : Addr} {fp wr : List Addr} {n : Nat} {P : Nat → Value → Prop} {St : Nat → Heap → Prop} {kw : List (Str × Value)}
/-- the loop of max, whatever its keywords, from the second item on -/
theorem max_next (W : Walks prog w A.in1 I fp wr n P St) (bt : Nat → Nat → Bool) (hcmp : CmpOf prog w A.in1 .Gt P bt) (S : Addr) (hSf : S ∉ fp) : ∀ (k j : Nat) (s : Shared) (vb : Value) (c : Nat), n - (j + 1) = k → j + 1 ≤ n → St (j + 1) s.heap →
    P (argBest bt j) vb → s.heap.get? S = some { cls := .type "list", dict := none, data := .seq #[vb, vb] c, slots := #[] } →
    (∀ v h' tk, P (argBest bt (n - 1)) v → (∀ b o, b ∉ wr → b ≠ S → s.heap.get? b = some o → h'.get? b = some o) → R (.ok (.ret v)) { s with heap := h', toks := tk }) →
    codeAny (model prog w) A (.builtin "max.loop" ⟨[.ref I, .none, .ref S], kw⟩) R s
  | 0, j, s, vb, c, hk, hj, hst, hPb, hS, hR => by
    have nW : S ∉ wr := fun h => hSf (W.sub _ h)
    have hin : j + 1 = n := by omega
    refine codeAny_builtin F.entry_max_loop ?_
    rw [Around.under_plainId F.plain_max_loop _]
    show wpAny _ A.in1 (seqItems? (.ref S) >>= _) _ _ s
    refine wpAny_bind (wpAny_seqItems hS rfl ?_)
    show wpAny _ A.in1 (tryCatch (pyNext (.ref I)) _ >>= _) _ _ s
    refine wpAny_bind (wpAny_tryCatch (W.done s _ _ (hin ▸ hst) fun h1 tk k1 => ?_))
    have S1 := k1 S _ nW hS
    show wpAny _ A.in1 (updateSeq S (fun _ => #[]) >>= _) _ _ _
    refine wpAny_bind ?_
    refine wpAny_updateSeq S1 rfl (wpAny_bind (wpAny_letGo (wpAny_pure ?_)))
    exact hR vb _ tk (by rw [← hin]; exact hPb) fun b o q1 q2 e => (Heap.get?_update_other _ _ (Ne.symm q2)).trans (k1 b o q1 e)
  | k + 1, j, s, vb, c, hk, hj, hst, hPb, hS, hR => by
    have nW : S ∉ wr := fun h => hSf (W.sub _ h)
    have hname : (toString "max" ++ toString ".loop" : String) = "max.loop" := by decide
    have hlt : j + 1 < n := by omega
    refine codeAny_builtin F.entry_max_loop ?_
    rw [Around.under_plainId F.plain_max_loop _]
    show wpAny _ A.in1 (seqItems? (.ref S) >>= _) _ _ s
    refine wpAny_bind (wpAny_seqItems hS rfl ?_)
    show wpAny _ A.in1 (tryCatch (pyNext (.ref I)) _ >>= _) _ _ s
    refine wpAny_bind (wpAny_tryCatch (W.item (j + 1) s _ _ hlt hst fun v h1 tk hP st1 k1 => ?_))
    have S1 := k1 S _ nW hS
    show wpAny _ A.in1 (tryCatch (holding [v, v] (richCompare .Gt v vb >>= _)) _ >>= _) _ _ _
    refine wpAny_bind (wpAny_tryCatch (wpAny_holding (wpAny_bind (hcmp (j + 1) (argBest bt j) v vb _ _ _ hP hPb ?_))))
    refine wpAny_bind (wpAny_holding (wpAny_truthy_bool ?_))
    refine wpAny_bind (wpAny_letGo (wpAny_pure ?_))
    cases hb : bt (j + 1) (argBest bt j) with
    | true =>
      simp only [if_true]
      refine wpAny_bind ?_
      refine wpAny_updateSeq S1 rfl (wpAny_bind (wpAny_letGo ?_))
      rw [hname]
      refine wpAny_pure ⟨plainId_quiet F.plain_max_loop _, max_next W bt hcmp S hSf k (j + 1) _ v _ (by omega) hlt (W.frame _ _ _ st1 fun b q o e => (Heap.get?_update_other _ _ fun h : S = b => hSf (by rw [h]; exact q)).trans e)
        (by simp only [argBest, hb, if_true]; exact hP) (Heap.get?_update_self _ S1 rfl) fun v2 h2 tk2 P2 k2 => ?_⟩
      exact hR v2 h2 tk2 P2 fun b o q1 q2 e => k2 b o q1 q2 ((Heap.get?_update_other _ _ (Ne.symm q2)).trans (k1 b o q1 e))
    | false =>
      simp only [Bool.false_eq_true, if_false]
      refine wpAny_bind (wpAny_letGo ?_)
      rw [hname]
      refine wpAny_pure ⟨plainId_quiet F.plain_max_loop _, max_next W bt hcmp S hSf k (j + 1) _ vb c (by omega) hlt st1 (by simp only [argBest, hb, Bool.false_eq_true, if_false]; exact hPb) S1 fun v2 h2 tk2 P2 k2 => ?_⟩
      exact hR v2 h2 tk2 P2 fun b o q1 q2 e => k2 b o q1 q2 (k1 b o q1 e)
theorem max_first (W : Walks prog w A.in1 I fp wr n P St) (bt : Nat → Nat → Bool) (hcmp : CmpOf prog w A.in1 .Gt P bt) (S : Addr) (hSf : S ∉ fp) (hn : 0 < n) {s : Shared} {c : Nat} (hst : St 0 s.heap)
    (hS : s.heap.get? S = some { cls := .type "list", dict := none, data := .seq #[] c, slots := #[] })
    (hR : ∀ v h' tk, P (argBest bt (n - 1)) v → (∀ b o, b ∉ wr → b ≠ S → s.heap.get? b = some o → h'.get? b = some o) → R (.ok (.ret v)) { s with heap := h', toks := tk }) :
    codeAny (model prog w) A (.builtin "max.loop" ⟨[.ref I, .none, .ref S], kw⟩) R s := by
  have nW : S ∉ wr := fun h => hSf (W.sub _ h)
  have hname : (toString "max" ++ toString ".loop" : String) = "max.loop" := by decide
  refine codeAny_builtin F.entry_max_loop ?_
  rw [Around.under_plainId F.plain_max_loop _]
  show wpAny _ A.in1 (seqItems? (.ref S) >>= _) _ _ s
  refine wpAny_bind (wpAny_seqItems hS rfl ?_)
  show wpAny _ A.in1 (tryCatch (pyNext (.ref I)) _ >>= _) _ _ s
  refine wpAny_bind (wpAny_tryCatch (W.item 0 s _ _ hn hst fun v h1 tk hP st1 k1 => ?_))
  have S1 := k1 S _ nW hS
  show wpAny _ A.in1 (updateSeq S (fun _ => #[v, v]) >>= _) _ _ _
  refine wpAny_bind ?_
  refine wpAny_updateSeq S1 rfl ?_
  rw [hname]
  refine wpAny_pure ⟨plainId_quiet F.plain_max_loop _, max_next W bt hcmp S hSf _ 0 _ v _ rfl hn (W.frame _ _ _ st1 fun b q o e => (Heap.get?_update_other _ _ fun h : S = b => hSf (by rw [h]; exact q)).trans e) hP (Heap.get?_update_self _ S1 rfl) fun v2 h2 tk2 P2 k2 => ?_⟩
  exact hR v2 h2 tk2 P2 fun b o q1 q2 e => k2 b o q1 q2 ((Heap.get?_update_other _ _ (Ne.symm q2)).trans (k1 b o q1 e))
theorem max_none (W : Walks prog w A.in1 I fp wr 0 P St) (S : Addr) (hSf : S ∉ fp) {d : Value} {s : Shared} {c : Nat} (hst : St 0 s.heap)
    (hS : s.heap.get? S = some { cls := .type "list", dict := none, data := .seq #[] c, slots := #[] })
    (hR : ∀ h' tk, (∀ b o, b ∉ wr → b ≠ S → s.heap.get? b = some o → h'.get? b = some o) → R (.ok (.ret d)) { s with heap := h', toks := tk }) :
    codeAny (model prog w) A (.builtin "max.loop" ⟨[.ref I, .none, .ref S], [("default", d)]⟩) R s := by
  refine codeAny_builtin F.entry_max_loop ?_
  rw [Around.under_plainId F.plain_max_loop _]
  show wpAny _ A.in1 (seqItems? (.ref S) >>= _) _ _ s
  refine wpAny_bind (wpAny_seqItems hS rfl ?_)
  show wpAny _ A.in1 (tryCatch (pyNext (.ref I)) _ >>= _) _ _ s
  refine wpAny_bind (wpAny_tryCatch (W.done s _ _ hst fun h1 tk k1 => ?_))
  first
    | exact wpAny_bind (wpAny_pure (wpAny_pure (hR h1 tk fun b o q1 _ e => k1 b o q1 e)))
    | exact wpAny_pure (wpAny_pure (hR h1 tk fun b o q1 _ e => k1 b o q1 e))
    | (refine wpAny_bind (wpAny_rule ?_); exact wpAny_pure (hR h1 tk fun b o q1 _ e => k1 b o q1 e))
end
section
variable {prog : Program} {w : World} {A : Around} {E : Value → Shared → Prop} {s : Shared}
/-- max(x), max(x, default = d) -/
theorem max_call {x : Value} {o : Option Value} {Q : Value → Shared → Prop}
    (h : wpAny (model prog w) A.in1 (pyIter x) (fun it s₂ => ∃ I fp wr n P St bt, it = .ref I ∧ Walks prog w A.in1 I fp wr n P St ∧ St 0 s₂.heap ∧ (∀ b ∈ fp, b < s₂.heap.objs.size) ∧ CmpOf prog w A.in1 .Gt P bt ∧
      ((0 < n ∧ ∀ v h' tk, P (argBest bt (n - 1)) v → (∀ b o, b ∉ wr → s₂.heap.get? b = some o → h'.get? b = some o) → Q v { s₂ with heap := h', toks := tk }) ∨
        (n = 0 ∧ ∃ d, o = some d ∧ ∀ h' tk, (∀ b o, b ∉ wr → s₂.heap.get? b = some o → h'.get? b = some o) → Q d { s₂ with heap := h', toks := tk }))) E s) :
    wpAny (model prog w) A (call (.builtin "max") [x] (o.toList.map fun d => (Str.ofString "default", d))) Q E s := by
  have hname : (toString "max" ++ toString ".loop" : String) = "max.loop" := by decide
  have key : ∀ (kw : List (Str × Value)), kw = (o.toList.map fun d => (Str.ofString "default", d)) → argsOk "max" ⟨[x], kw⟩ := fun kw e => by
    subst e
    cases o with
    | none => exact F.args_max1 _
    | some d => exact max_dflt x d
  refine kmk_tree F.kind_max F.plain_max F.entry_max (key _ rfl) ?_
  show wpAny _ A.in1 (Builtin.Builtins.bindParams "max" ["key", "default"] 0 ⟨[], (o.toList.map fun d => (Str.ofString "default", d))⟩ >>= _) _ _ s
  refine wpAny_bind (wpAny_of_eq (show Builtin.Builtins.bindParams "max" ["key", "default"] 0 ⟨[], (o.toList.map fun d => (Str.ofString "default", d))⟩ = pure [none, o] from by cases o <;> rfl) ?_)
  refine wpAny_bind (wpAny_pure ?_)
  refine wpAny_bind (wpAny_mono h (fun it s₂ h₂ => ?_) fun _ _ e => e)
  obtain ⟨I, fp, wr, n, P, St, bt, rfl, W, hst, hfp, hcmp, hQ⟩ := h₂
  refine wpAny_bind (wpAny_newObj_type ?_)
  have hSf : s₂.heap.objs.size ∉ fp := fun hm => Nat.lt_irrefl _ (hfp _ hm)
  rw [hname]
  rcases hQ with ⟨hn, hQ⟩ | ⟨rfl, d, rfl, hQ⟩
  · refine wpAny_pure ⟨plainId_quiet F.plain_max_loop _, max_first W bt hcmp s₂.heap.objs.size hSf hn (W.frame _ _ _ hst fun b _ o e => Heap.get?_push_of_some _ e) (Heap.get?_push_size _ rfl) fun v h' tk hP hk => ?_⟩
    exact hQ v h' tk hP fun b o hbw e => hk b o hbw (Nat.ne_of_lt (Heap.lt_size e)) (Heap.get?_push_of_some _ e)
  · refine wpAny_pure ⟨plainId_quiet F.plain_max_loop _, max_none W s₂.heap.objs.size hSf (W.frame _ _ _ hst fun b _ o e => Heap.get?_push_of_some _ e) (Heap.get?_push_size _ rfl) fun h' tk hk => ?_⟩
    exact hQ h' tk fun b o hbw e => hk b o hbw (Nat.ne_of_lt (Heap.lt_size e)) (Heap.get?_push_of_some _ e)
end

section
variable {prog : Program} {w : World} {A : Around} {E : Value → Shared → Prop} {s : Shared}
theorem max_seq {l : Bool} {a : Addr} {its : List Value} {ns : List Int} {o : Option Value} {Q : Value → Shared → Prop} (hh : A.handled = none) (hl : IsSq l s.heap a its.toArray) (hlt : a < s.heap.objs.size) (hi : IntsAre its ns)
    (h1 : 0 < ns.length → ∀ h' tk m t', (∀ b o, s.heap.get? b = some o → h'.get? b = some o) → m ∈ ns → (∀ y, y ∈ ns → y ≤ m) → Q (.int m t') { s with heap := h', toks := tk })
    (h0 : ns.length = 0 → ∃ d, o = some d ∧ ∀ h' tk, (∀ b o, s.heap.get? b = some o → h'.get? b = some o) → Q d { s with heap := h', toks := tk }) :
    wpAny (model prog w) A (call (.builtin "max") [.ref a] (o.toList.map fun d => (Str.ofString "default", d))) Q E s := by
  obtain ⟨xs, e⟩ := hi.allInts.items
  have hn : numsOf (intItems xs).toList = ns := by rw [← e]; exact hi.numsOf
  rw [nums_intItems] at hn
  subst hn
  rw [e] at hl
  have hne : a ≠ s.heap.objs.size := Nat.ne_of_lt hlt
  have kp : ∀ {h2 : Heap}, (∀ b o, b ∉ [s.heap.objs.size] → (s.heap.push (itObj l a)).get? b = some o → h2.get? b = some o) → ∀ b o, s.heap.get? b = some o → h2.get? b = some o := fun k b o q =>
    k b o (by rw [List.mem_singleton]; exact Nat.ne_of_lt (Heap.lt_size q)) (Heap.get?_push_of_some _ q)
  have sz : xs.size = (xs.toList.map (·.1)).length := by rw [List.length_map, Array.length_toList]
  have W : ∃ fp wr P St, Walks prog w A.in1 s.heap.objs.size fp wr (intItems xs).size P St ∧ St 0 (s.heap.push (itObj l a)) ∧ (∀ b ∈ fp, b < (s.heap.push (itObj l a)).objs.size) ∧ (∀ i v, P i v → (intItems xs)[i]? = some v) ∧ wr = [s.heap.objs.size] := by
    have b1 := (begins l a (intItems xs))
    have st0 : IsIt l (s.heap.push (itObj l a)) s.heap.objs.size a 0 := itObj_is (Heap.get?_push_size _ b1.free)
    have st1 : IsSq l (s.heap.push (itObj l a)) a (intItems xs) := b1.keeps _ _ hl fun b o e => Heap.get?_push_of_some _ e
    have lt : ∀ b ∈ [s.heap.objs.size, a], b < (s.heap.push (itObj l a)).objs.size := fun b hb => by
      rw [Heap.size_push]
      rcases List.mem_cons.mp hb with q | q
      · rw [q]; exact Nat.lt_succ_self _
      · rw [List.mem_singleton.mp q]; exact Nat.lt_succ_of_lt hlt
    cases l with
    | true => exact ⟨_, _, _, fun i h => h.IsListIter s.heap.objs.size a i ∧ h.IsList a (intItems xs), Walks.list (A := A.in1) hh _ a hne (intItems xs), ⟨st0, st1⟩, lt, fun _ _ q => q, rfl⟩
    | false => exact ⟨_, _, _, fun i h => h.IsTupleIter s.heap.objs.size a i ∧ h.IsTuple a (intItems xs), Walks.tuple (A := A.in1) hh _ a hne (intItems xs), ⟨st0, st1⟩, lt, fun _ _ q => q, rfl⟩
  obtain ⟨fp, wr, P, St, W, st, lt, hP, rfl⟩ := W
  refine max_call ((begins l a (intItems xs)).iter _ _ _ _ _ _ hl ⟨_, fp, _, _, P, St, _, rfl, W, st, lt, CmpOf.ints_gt (numAt xs) (fun i v q => intItems_at (hP i v q)), ?_⟩)
  have szi : (intItems xs).size = (xs.toList.map (·.1)).length := by rw [← sz]; simp [intItems]
  by_cases hz : 0 < (intItems xs).size
  · refine .inl ⟨hz, fun v h' tk hv hk => ?_⟩
    obtain ⟨t, rfl⟩ := intItems_at (hP _ _ hv)
    obtain ⟨g1, g2⟩ := argBest_gt (numAt xs) ((intItems xs).size - 1)
    refine h1 (by omega) h' tk _ t (kp hk) ?_ fun y hy => ?_
    · rw [numAt_eq]; exact PySem.getD_mem (by omega)
    · obtain ⟨j, hj, rfl⟩ := mem_getD hy
      rw [← numAt_eq]; exact g2 j (by omega)
  · obtain ⟨d, e1, hq⟩ := h0 (by omega)
    exact .inr ⟨by omega, d, e1, fun h' tk hk => hq h' tk (kp hk)⟩
end
section
variable {X : Cx}
def rmaxA (K : PySem.W.Frag) : List V → Hp → VK → Prop := fun vs H Q => ∃ (l : Bool) (a : Addr) (ns : List Int), vs = [V.ref a] ∧ Sq l K H a (ns.map V.int) ∧ 0 < ns.length ∧ ∀ m, m ∈ ns → (∀ y, y ∈ ns → y ≤ m) → Q (.int m) H
theorem cr_maxA (hc : X.calm = true) : CallR X (.builtin "max") (rmaxA X.K) := by
  intro pins s σ H vs us Q I r h
  obtain ⟨l, a, ns, rfl, hs, hne, q⟩ := h
  obtain ⟨its, rv, hl, hlt⟩ := sq_inv I hs
  rw [Vals.ref1 r]
  exact max_seq (o := none) (I.ok.hd hc) hl hlt rv.ints (fun _ h' tk m t' hk h1 h2 => ⟨.int _, H, I.kept hk, ⟨_, rfl⟩, q m h1 h2⟩) fun z => by omega
def rmaxK (K : PySem.W.Frag) : List V → List V → Hp → VK → Prop := fun vs zs H Q => ∃ (l : Bool) (a : Addr) (ns : List Int) (d : V), vs = [V.ref a] ∧ zs = [d] ∧ Sq l K H a (ns.map V.int) ∧ (0 < ns.length → ∀ m, m ∈ ns → (∀ y, y ∈ ns → y ≤ m) → Q (.int m) H) ∧ (ns = [] → Q d H)
theorem cr_maxK (hc : X.calm = true) : CallRK X (.builtin "max") [Str.ofString "default"] (rmaxK X.K) := by
  intro pins s σ H xs zs us ws Q I r r2 h
  obtain ⟨l, a, ns, d, rfl, rfl, hs, q, q0⟩ := h
  obtain ⟨its, rv, hl, hlt⟩ := sq_inv I hs
  rw [Vals.ref1 r]
  obtain ⟨u, rfl, ru⟩ := vals1 r2
  exact max_seq (o := some u) (I.ok.hd hc) hl hlt rv.ints (fun z h' tk m t' hk h1 h2 => ⟨.int _, H, I.kept hk, ⟨_, rfl⟩, q z m h1 h2⟩) fun z => ⟨u, rfl, fun h' tk hk => ⟨d, H, I.kept hk, ru, q0 (List.eq_nil_of_length_eq_zero z)⟩⟩
end

section
variable {X : Cx} {xi : XTab}
theorem srv_max1 (hc : X.calm = true) : ServesN X xi (.builtin "max") (fun M ds => bltS M .max1 ds) := by
  refine ⟨_, cr_maxA hc, fun S M ds d vs Q W hM ra he hr => ?_⟩
  match ds, he with
  | [x], he =>
    obtain ⟨v, rfl, r⟩ := reps1 ra
    obtain ⟨m, e0, rfl⟩ := Option.map_eq_some_iff.mp (show (((seqOf M x).bind intsOf).bind maxL).map D.int = some d from he)
    obtain ⟨ns, e1, e4⟩ := Option.bind_eq_some_iff.mp e0
    obtain ⟨es, e2, e3⟩ := Option.bind_eq_some_iff.mp e1
    obtain ⟨p, ws, rfl, hq, r2⟩ := seq_of hM r e2
    rw [r2.ints e3] at hq
    obtain ⟨h1, h2⟩ := maxL_is e4
    have fin : ∀ k, k ∈ ns → (∀ y, y ∈ ns → y ≤ k) → Q (.int k) S.H := fun k hk hle => by
      have q1 := h2 k hk
      have q2 := hle m h1
      have e : k = m := by omega
      subst e
      exact hr.ok hM (.int _)
    rcases hq with hq | hq
    · exact ⟨true, p, ns, rfl, hq, List.length_pos_of_mem h1, fin⟩
    · exact ⟨false, p, ns, rfl, hq, List.length_pos_of_mem h1, fin⟩
theorem srv_maxd (hc : X.calm = true) : ServesK X xi "max" (fun M ds => bltS M .maxd ds) := by
  refine ⟨_, cr_maxK hc, fun S M x e d v z Q W hM rx re he hr => ?_⟩
  obtain ⟨ns, e0, rfl⟩ := Option.map_eq_some_iff.mp (show (((seqOf M x).bind intsOf).map fun ns => match maxL ns with | some m => D.int m | none => e) = some d from he)
  obtain ⟨es, e2, e3⟩ := Option.bind_eq_some_iff.mp e0
  obtain ⟨p, ws, rfl, hq, r2⟩ := seq_of hM rx e2
  rw [r2.ints e3] at hq
  have fin : 0 < ns.length → ∀ k, k ∈ ns → (∀ y, y ∈ ns → y ≤ k) → Q (.int k) S.H := fun hn k hk hle => by
    obtain ⟨m, e4⟩ := maxL_some hn
    obtain ⟨h1, h2⟩ := maxL_is e4
    have q1 := h2 k hk
    have q2 := hle m h1
    have e : k = m := by omega
    subst e
    rw [e4] at hr
    exact hr.ok hM (.int _)
  have fin0 : ns = [] → Q z S.H := fun hn => by
    subst hn
    exact hr.ok hM re
  rcases hq with hq | hq
  · exact ⟨true, p, ns, z, rfl, rfl, hq, fin, fin0⟩
  · exact ⟨false, p, ns, z, rfl, rfl, hq, fin, fin0⟩
end


theorem min_dflt (a v : Value) : argsOk "min" ⟨[a], [(Str.ofString "default", v)]⟩ := by unfold argsOk; kernel_rfl
section
variable {prog : Program} {w : World} {A : Around} {R : Result → Shared → Prop} {I : Addr} {fp wr : List Addr} {n : Nat} {P : Nat → Value → Prop} {St : Nat → Heap → Prop} {kw : List (Str × Value)}
/-- the loop of min, whatever its keywords, from the second item on -/
theorem min_next (W : Walks prog w A.in1 I fp wr n P St) (bt : Nat → Nat → Bool) (hcmp : CmpOf prog w A.in1 .Lt P bt) (S : Addr) (hSf : S ∉ fp) : ∀ (k j : Nat) (s : Shared) (vb : Value) (c : Nat), n - (j + 1) = k → j + 1 ≤ n → St (j + 1) s.heap →
    P (argBest bt j) vb → s.heap.get? S = some { cls := .type "list", dict := none, data := .seq #[vb, vb] c, slots := #[] } →
    (∀ v h' tk, P (argBest bt (n - 1)) v → (∀ b o, b ∉ wr → b ≠ S → s.heap.get? b = some o → h'.get? b = some o) → R (.ok (.ret v)) { s with heap := h', toks := tk }) →
    codeAny (model prog w) A (.builtin "min.loop" ⟨[.ref I, .none, .ref S], kw⟩) R s
  | 0, j, s, vb, c, hk, hj, hst, hPb, hS, hR => by
    have nW : S ∉ wr := fun h => hSf (W.sub _ h)
    have hin : j + 1 = n := by omega
    refine codeAny_builtin F.entry_min_loop ?_
    rw [Around.under_plainId F.plain_min_loop _]
    show wpAny _ A.in1 (seqItems? (.ref S) >>= _) _ _ s
    refine wpAny_bind (wpAny_seqItems hS rfl ?_)
    show wpAny _ A.in1 (tryCatch (pyNext (.ref I)) _ >>= _) _ _ s
    refine wpAny_bind (wpAny_tryCatch (W.done s _ _ (hin ▸ hst) fun h1 tk k1 => ?_))
    have S1 := k1 S _ nW hS
    show wpAny _ A.in1 (updateSeq S (fun _ => #[]) >>= _) _ _ _
    refine wpAny_bind ?_
    refine wpAny_updateSeq S1 rfl (wpAny_bind (wpAny_letGo (wpAny_pure ?_)))
    exact hR vb _ tk (by rw [← hin]; exact hPb) fun b o q1 q2 e => (Heap.get?_update_other _ _ (Ne.symm q2)).trans (k1 b o q1 e)
  | k + 1, j, s, vb, c, hk, hj, hst, hPb, hS, hR => by
    have nW : S ∉ wr := fun h => hSf (W.sub _ h)
    have hname : (toString "min" ++ toString ".loop" : String) = "min.loop" := by decide
    have hlt : j + 1 < n := by omega
    refine codeAny_builtin F.entry_min_loop ?_
    rw [Around.under_plainId F.plain_min_loop _]
    show wpAny _ A.in1 (seqItems? (.ref S) >>= _) _ _ s
    refine wpAny_bind (wpAny_seqItems hS rfl ?_)
    show wpAny _ A.in1 (tryCatch (pyNext (.ref I)) _ >>= _) _ _ s
    refine wpAny_bind (wpAny_tryCatch (W.item (j + 1) s _ _ hlt hst fun v h1 tk hP st1 k1 => ?_))
    have S1 := k1 S _ nW hS
    show wpAny _ A.in1 (tryCatch (holding [v, v] (richCompare .Lt v vb >>= _)) _ >>= _) _ _ _
    refine wpAny_bind (wpAny_tryCatch (wpAny_holding (wpAny_bind (hcmp (j + 1) (argBest bt j) v vb _ _ _ hP hPb ?_))))
    refine wpAny_bind (wpAny_holding (wpAny_truthy_bool ?_))
    refine wpAny_bind (wpAny_letGo (wpAny_pure ?_))
    cases hb : bt (j + 1) (argBest bt j) with
    | true =>
      simp only [if_true]
      refine wpAny_bind ?_
      refine wpAny_updateSeq S1 rfl (wpAny_bind (wpAny_letGo ?_))
      rw [hname]
      refine wpAny_pure ⟨plainId_quiet F.plain_min_loop _, min_next W bt hcmp S hSf k (j + 1) _ v _ (by omega) hlt (W.frame _ _ _ st1 fun b q o e => (Heap.get?_update_other _ _ fun h : S = b => hSf (by rw [h]; exact q)).trans e)
        (by simp only [argBest, hb, if_true]; exact hP) (Heap.get?_update_self _ S1 rfl) fun v2 h2 tk2 P2 k2 => ?_⟩
      exact hR v2 h2 tk2 P2 fun b o q1 q2 e => k2 b o q1 q2 ((Heap.get?_update_other _ _ (Ne.symm q2)).trans (k1 b o q1 e))
    | false =>
      simp only [Bool.false_eq_true, if_false]
      refine wpAny_bind (wpAny_letGo ?_)
      rw [hname]
      refine wpAny_pure ⟨plainId_quiet F.plain_min_loop _, min_next W bt hcmp S hSf k (j + 1) _ vb c (by omega) hlt st1 (by simp only [argBest, hb, Bool.false_eq_true, if_false]; exact hPb) S1 fun v2 h2 tk2 P2 k2 => ?_⟩
      exact hR v2 h2 tk2 P2 fun b o q1 q2 e => k2 b o q1 q2 (k1 b o q1 e)
theorem min_first (W : Walks prog w A.in1 I fp wr n P St) (bt : Nat → Nat → Bool) (hcmp : CmpOf prog w A.in1 .Lt P bt) (S : Addr) (hSf : S ∉ fp) (hn : 0 < n) {s : Shared} {c : Nat} (hst : St 0 s.heap)
    (hS : s.heap.get? S = some { cls := .type "list", dict := none, data := .seq #[] c, slots := #[] })
    (hR : ∀ v h' tk, P (argBest bt (n - 1)) v → (∀ b o, b ∉ wr → b ≠ S → s.heap.get? b = some o → h'.get? b = some o) → R (.ok (.ret v)) { s with heap := h', toks := tk }) :
    codeAny (model prog w) A (.builtin "min.loop" ⟨[.ref I, .none, .ref S], kw⟩) R s := by
  have nW : S ∉ wr := fun h => hSf (W.sub _ h)
  have hname : (toString "min" ++ toString ".loop" : String) = "min.loop" := by decide
  refine codeAny_builtin F.entry_min_loop ?_
  rw [Around.under_plainId F.plain_min_loop _]
  show wpAny _ A.in1 (seqItems? (.ref S) >>= _) _ _ s
  refine wpAny_bind (wpAny_seqItems hS rfl ?_)
  show wpAny _ A.in1 (tryCatch (pyNext (.ref I)) _ >>= _) _ _ s
  refine wpAny_bind (wpAny_tryCatch (W.item 0 s _ _ hn hst fun v h1 tk hP st1 k1 => ?_))
  have S1 := k1 S _ nW hS
  show wpAny _ A.in1 (updateSeq S (fun _ => #[v, v]) >>= _) _ _ _
  refine wpAny_bind ?_
  refine wpAny_updateSeq S1 rfl ?_
  rw [hname]
  refine wpAny_pure ⟨plainId_quiet F.plain_min_loop _, min_next W bt hcmp S hSf _ 0 _ v _ rfl hn (W.frame _ _ _ st1 fun b q o e => (Heap.get?_update_other _ _ fun h : S = b => hSf (by rw [h]; exact q)).trans e) hP (Heap.get?_update_self _ S1 rfl) fun v2 h2 tk2 P2 k2 => ?_⟩
  exact hR v2 h2 tk2 P2 fun b o q1 q2 e => k2 b o q1 q2 ((Heap.get?_update_other _ _ (Ne.symm q2)).trans (k1 b o q1 e))
theorem min_none (W : Walks prog w A.in1 I fp wr 0 P St) (S : Addr) (hSf : S ∉ fp) {d : Value} {s : Shared} {c : Nat} (hst : St 0 s.heap)
    (hS : s.heap.get? S = some { cls := .type "list", dict := none, data := .seq #[] c, slots := #[] })
    (hR : ∀ h' tk, (∀ b o, b ∉ wr → b ≠ S → s.heap.get? b = some o → h'.get? b = some o) → R (.ok (.ret d)) { s with heap := h', toks := tk }) :
    codeAny (model prog w) A (.builtin "min.loop" ⟨[.ref I, .none, .ref S], [("default", d)]⟩) R s := by
  refine codeAny_builtin F.entry_min_loop ?_
  rw [Around.under_plainId F.plain_min_loop _]
  show wpAny _ A.in1 (seqItems? (.ref S) >>= _) _ _ s
  refine wpAny_bind (wpAny_seqItems hS rfl ?_)
  show wpAny _ A.in1 (tryCatch (pyNext (.ref I)) _ >>= _) _ _ s
  refine wpAny_bind (wpAny_tryCatch (W.done s _ _ hst fun h1 tk k1 => ?_))
  first
    | exact wpAny_bind (wpAny_pure (wpAny_pure (hR h1 tk fun b o q1 _ e => k1 b o q1 e)))
    | exact wpAny_pure (wpAny_pure (hR h1 tk fun b o q1 _ e => k1 b o q1 e))
    | (refine wpAny_bind (wpAny_rule ?_); exact wpAny_pure (hR h1 tk fun b o q1 _ e => k1 b o q1 e))
end
section
variable {prog : Program} {w : World} {A : Around} {E : Value → Shared → Prop} {s : Shared}
/-- min(x), min(x, default = d) -/
theorem min_call {x : Value} {o : Option Value} {Q : Value → Shared → Prop}
    (h : wpAny (model prog w) A.in1 (pyIter x) (fun it s₂ => ∃ I fp wr n P St bt, it = .ref I ∧ Walks prog w A.in1 I fp wr n P St ∧ St 0 s₂.heap ∧ (∀ b ∈ fp, b < s₂.heap.objs.size) ∧ CmpOf prog w A.in1 .Lt P bt ∧
      ((0 < n ∧ ∀ v h' tk, P (argBest bt (n - 1)) v → (∀ b o, b ∉ wr → s₂.heap.get? b = some o → h'.get? b = some o) → Q v { s₂ with heap := h', toks := tk }) ∨
        (n = 0 ∧ ∃ d, o = some d ∧ ∀ h' tk, (∀ b o, b ∉ wr → s₂.heap.get? b = some o → h'.get? b = some o) → Q d { s₂ with heap := h', toks := tk }))) E s) :
    wpAny (model prog w) A (call (.builtin "min") [x] (o.toList.map fun d => (Str.ofString "default", d))) Q E s := by
  have hname : (toString "min" ++ toString ".loop" : String) = "min.loop" := by decide
  have key : ∀ (kw : List (Str × Value)), kw = (o.toList.map fun d => (Str.ofString "default", d)) → argsOk "min" ⟨[x], kw⟩ := fun kw e => by
    subst e
    cases o with
    | none => exact F.args_min1 _
    | some d => exact min_dflt x d
  refine kmk_tree F.kind_min F.plain_min F.entry_min (key _ rfl) ?_
  show wpAny _ A.in1 (Builtin.Builtins.bindParams "min" ["key", "default"] 0 ⟨[], (o.toList.map fun d => (Str.ofString "default", d))⟩ >>= _) _ _ s
  refine wpAny_bind (wpAny_of_eq (show Builtin.Builtins.bindParams "min" ["key", "default"] 0 ⟨[], (o.toList.map fun d => (Str.ofString "default", d))⟩ = pure [none, o] from by cases o <;> rfl) ?_)
  refine wpAny_bind (wpAny_pure ?_)
  refine wpAny_bind (wpAny_mono h (fun it s₂ h₂ => ?_) fun _ _ e => e)
  obtain ⟨I, fp, wr, n, P, St, bt, rfl, W, hst, hfp, hcmp, hQ⟩ := h₂
  refine wpAny_bind (wpAny_newObj_type ?_)
  have hSf : s₂.heap.objs.size ∉ fp := fun hm => Nat.lt_irrefl _ (hfp _ hm)
  rw [hname]
  rcases hQ with ⟨hn, hQ⟩ | ⟨rfl, d, rfl, hQ⟩
  · refine wpAny_pure ⟨plainId_quiet F.plain_min_loop _, min_first W bt hcmp s₂.heap.objs.size hSf hn (W.frame _ _ _ hst fun b _ o e => Heap.get?_push_of_some _ e) (Heap.get?_push_size _ rfl) fun v h' tk hP hk => ?_⟩
    exact hQ v h' tk hP fun b o hbw e => hk b o hbw (Nat.ne_of_lt (Heap.lt_size e)) (Heap.get?_push_of_some _ e)
  · refine wpAny_pure ⟨plainId_quiet F.plain_min_loop _, min_none W s₂.heap.objs.size hSf (W.frame _ _ _ hst fun b _ o e => Heap.get?_push_of_some _ e) (Heap.get?_push_size _ rfl) fun h' tk hk => ?_⟩
    exact hQ h' tk fun b o hbw e => hk b o hbw (Nat.ne_of_lt (Heap.lt_size e)) (Heap.get?_push_of_some _ e)
end

section
variable {prog : Program} {w : World} {A : Around} {E : Value → Shared → Prop} {s : Shared}
theorem min_seq {l : Bool} {a : Addr} {its : List Value} {ns : List Int} {o : Option Value} {Q : Value → Shared → Prop} (hh : A.handled = none) (hl : IsSq l s.heap a its.toArray) (hlt : a < s.heap.objs.size) (hi : IntsAre its ns)
    (h1 : 0 < ns.length → ∀ h' tk m t', (∀ b o, s.heap.get? b = some o → h'.get? b = some o) → m ∈ ns → (∀ y, y ∈ ns → m ≤ y) → Q (.int m t') { s with heap := h', toks := tk })
    (h0 : ns.length = 0 → ∃ d, o = some d ∧ ∀ h' tk, (∀ b o, s.heap.get? b = some o → h'.get? b = some o) → Q d { s with heap := h', toks := tk }) :
    wpAny (model prog w) A (call (.builtin "min") [.ref a] (o.toList.map fun d => (Str.ofString "default", d))) Q E s := by
  obtain ⟨xs, e⟩ := hi.allInts.items
  have hn : numsOf (intItems xs).toList = ns := by rw [← e]; exact hi.numsOf
  rw [nums_intItems] at hn
  subst hn
  rw [e] at hl
  have hne : a ≠ s.heap.objs.size := Nat.ne_of_lt hlt
  have kp : ∀ {h2 : Heap}, (∀ b o, b ∉ [s.heap.objs.size] → (s.heap.push (itObj l a)).get? b = some o → h2.get? b = some o) → ∀ b o, s.heap.get? b = some o → h2.get? b = some o := fun k b o q =>
    k b o (by rw [List.mem_singleton]; exact Nat.ne_of_lt (Heap.lt_size q)) (Heap.get?_push_of_some _ q)
  have sz : xs.size = (xs.toList.map (·.1)).length := by rw [List.length_map, Array.length_toList]
  have W : ∃ fp wr P St, Walks prog w A.in1 s.heap.objs.size fp wr (intItems xs).size P St ∧ St 0 (s.heap.push (itObj l a)) ∧ (∀ b ∈ fp, b < (s.heap.push (itObj l a)).objs.size) ∧ (∀ i v, P i v → (intItems xs)[i]? = some v) ∧ wr = [s.heap.objs.size] := by
    have b1 := (begins l a (intItems xs))
    have st0 : IsIt l (s.heap.push (itObj l a)) s.heap.objs.size a 0 := itObj_is (Heap.get?_push_size _ b1.free)
    have st1 : IsSq l (s.heap.push (itObj l a)) a (intItems xs) := b1.keeps _ _ hl fun b o e => Heap.get?_push_of_some _ e
    have lt : ∀ b ∈ [s.heap.objs.size, a], b < (s.heap.push (itObj l a)).objs.size := fun b hb => by
      rw [Heap.size_push]
      rcases List.mem_cons.mp hb with q | q
      · rw [q]; exact Nat.lt_succ_self _
      · rw [List.mem_singleton.mp q]; exact Nat.lt_succ_of_lt hlt
    cases l with
    | true => exact ⟨_, _, _, fun i h => h.IsListIter s.heap.objs.size a i ∧ h.IsList a (intItems xs), Walks.list (A := A.in1) hh _ a hne (intItems xs), ⟨st0, st1⟩, lt, fun _ _ q => q, rfl⟩
    | false => exact ⟨_, _, _, fun i h => h.IsTupleIter s.heap.objs.size a i ∧ h.IsTuple a (intItems xs), Walks.tuple (A := A.in1) hh _ a hne (intItems xs), ⟨st0, st1⟩, lt, fun _ _ q => q, rfl⟩
  obtain ⟨fp, wr, P, St, W, st, lt, hP, rfl⟩ := W
  refine min_call ((begins l a (intItems xs)).iter _ _ _ _ _ _ hl ⟨_, fp, _, _, P, St, _, rfl, W, st, lt, CmpOf.ints_lt (numAt xs) (fun i v q => intItems_at (hP i v q)), ?_⟩)
  have szi : (intItems xs).size = (xs.toList.map (·.1)).length := by rw [← sz]; simp [intItems]
  by_cases hz : 0 < (intItems xs).size
  · refine .inl ⟨hz, fun v h' tk hv hk => ?_⟩
    obtain ⟨t, rfl⟩ := intItems_at (hP _ _ hv)
    obtain ⟨g1, g2⟩ := argBest_lt (numAt xs) ((intItems xs).size - 1)
    refine h1 (by omega) h' tk _ t (kp hk) ?_ fun y hy => ?_
    · rw [numAt_eq]; exact PySem.getD_mem (by omega)
    · obtain ⟨j, hj, rfl⟩ := mem_getD hy
      rw [← numAt_eq]; exact g2 j (by omega)
  · obtain ⟨d, e1, hq⟩ := h0 (by omega)
    exact .inr ⟨by omega, d, e1, fun h' tk hk => hq h' tk (kp hk)⟩
end
section
variable {X : Cx}
def rminA (K : PySem.W.Frag) : List V → Hp → VK → Prop := fun vs H Q => ∃ (l : Bool) (a : Addr) (ns : List Int), vs = [V.ref a] ∧ Sq l K H a (ns.map V.int) ∧ 0 < ns.length ∧ ∀ m, m ∈ ns → (∀ y, y ∈ ns → m ≤ y) → Q (.int m) H
theorem cr_minA (hc : X.calm = true) : CallR X (.builtin "min") (rminA X.K) := by
  intro pins s σ H vs us Q I r h
  obtain ⟨l, a, ns, rfl, hs, hne, q⟩ := h
  obtain ⟨its, rv, hl, hlt⟩ := sq_inv I hs
  rw [Vals.ref1 r]
  exact min_seq (o := none) (I.ok.hd hc) hl hlt rv.ints (fun _ h' tk m t' hk h1 h2 => ⟨.int _, H, I.kept hk, ⟨_, rfl⟩, q m h1 h2⟩) fun z => by omega
def rminK (K : PySem.W.Frag) : List V → List V → Hp → VK → Prop := fun vs zs H Q => ∃ (l : Bool) (a : Addr) (ns : List Int) (d : V), vs = [V.ref a] ∧ zs = [d] ∧ Sq l K H a (ns.map V.int) ∧ (0 < ns.length → ∀ m, m ∈ ns → (∀ y, y ∈ ns → m ≤ y) → Q (.int m) H) ∧ (ns = [] → Q d H)
theorem cr_minK (hc : X.calm = true) : CallRK X (.builtin "min") [Str.ofString "default"] (rminK X.K) := by
  intro pins s σ H xs zs us ws Q I r r2 h
  obtain ⟨l, a, ns, d, rfl, rfl, hs, q, q0⟩ := h
  obtain ⟨its, rv, hl, hlt⟩ := sq_inv I hs
  rw [Vals.ref1 r]
  obtain ⟨u, rfl, ru⟩ := vals1 r2
  exact min_seq (o := some u) (I.ok.hd hc) hl hlt rv.ints (fun z h' tk m t' hk h1 h2 => ⟨.int _, H, I.kept hk, ⟨_, rfl⟩, q z m h1 h2⟩) fun z => ⟨u, rfl, fun h' tk hk => ⟨d, H, I.kept hk, ru, q0 (List.eq_nil_of_length_eq_zero z)⟩⟩
end

section
variable {X : Cx} {xi : XTab}
theorem srv_min1 (hc : X.calm = true) : ServesN X xi (.builtin "min") (fun M ds => bltS M .min1 ds) := by
  refine ⟨_, cr_minA hc, fun S M ds d vs Q W hM ra he hr => ?_⟩
  match ds, he with
  | [x], he =>
    obtain ⟨v, rfl, r⟩ := reps1 ra
    obtain ⟨m, e0, rfl⟩ := Option.map_eq_some_iff.mp (show (((seqOf M x).bind intsOf).bind minL).map D.int = some d from he)
    obtain ⟨ns, e1, e4⟩ := Option.bind_eq_some_iff.mp e0
    obtain ⟨es, e2, e3⟩ := Option.bind_eq_some_iff.mp e1
    obtain ⟨p, ws, rfl, hq, r2⟩ := seq_of hM r e2
    rw [r2.ints e3] at hq
    obtain ⟨h1, h2⟩ := minL_is e4
    have fin : ∀ k, k ∈ ns → (∀ y, y ∈ ns → k ≤ y) → Q (.int k) S.H := fun k hk hle => by
      have q1 := h2 k hk
      have q2 := hle m h1
      have e : k = m := by omega
      subst e
      exact hr.ok hM (.int _)
    rcases hq with hq | hq
    · exact ⟨true, p, ns, rfl, hq, List.length_pos_of_mem h1, fin⟩
    · exact ⟨false, p, ns, rfl, hq, List.length_pos_of_mem h1, fin⟩
theorem srv_mind (hc : X.calm = true) : ServesK X xi "min" (fun M ds => bltS M .mind ds) := by
  refine ⟨_, cr_minK hc, fun S M x e d v z Q W hM rx re he hr => ?_⟩
  obtain ⟨ns, e0, rfl⟩ := Option.map_eq_some_iff.mp (show (((seqOf M x).bind intsOf).map fun ns => match minL ns with | some m => D.int m | none => e) = some d from he)
  obtain ⟨es, e2, e3⟩ := Option.bind_eq_some_iff.mp e0
  obtain ⟨p, ws, rfl, hq, r2⟩ := seq_of hM rx e2
  rw [r2.ints e3] at hq
  have fin : 0 < ns.length → ∀ k, k ∈ ns → (∀ y, y ∈ ns → k ≤ y) → Q (.int k) S.H := fun hn k hk hle => by
    obtain ⟨m, e4⟩ := minL_some hn
    obtain ⟨h1, h2⟩ := minL_is e4
    have q1 := h2 k hk
    have q2 := hle m h1
    have e : k = m := by omega
    subst e
    rw [e4] at hr
    exact hr.ok hM (.int _)
  have fin0 : ns = [] → Q z S.H := fun hn => by
    subst hn
    exact hr.ok hM re
  rcases hq with hq | hq
  · exact ⟨true, p, ns, z, rfl, rfl, hq, fin, fin0⟩
  · exact ⟨false, p, ns, z, rfl, rfl, hq, fin, fin0⟩
end

end Pv

set_option Elab.async false
set_option linter.all false
set_option maxRecDepth 100000
set_option maxHeartbeats 4000000
/-! Pv, part I: what is walked, as the plain language's items. -/
namespace Pv
open PySem PySem.Spec PyProof.Rows L2
/-- nothing that stands still and is not being made has changed -/
structure Tr (S S' : Sw) : Prop where
  m : ∃ t, S'.m = S.m ++ t
  keep : ∀ b o, S.H b = some o → b ∉ S.m → b ∉ S.z → S'.H b = some o ∧ b ∉ S'.m ∧ b ∉ S'.z
theorem Ext.tr {S S' : Sw} (x : Ext S S') : Tr S S' := ⟨x.m, fun b o h n z => ⟨(x.keep b o h n).1, (x.keep b o h n).2, by rw [x.z]; exact z⟩⟩
theorem Tr.refl (S : Sw) : Tr S S := (Ext.refl S).tr
theorem Tr.trans {A B C : Sw} (x : Tr A B) (y : Tr B C) : Tr A C := by
  obtain ⟨t, ht⟩ := x.m
  obtain ⟨u, hu⟩ := y.m
  refine ⟨⟨t ++ u, by rw [hu, ht, List.append_assoc]⟩, fun b o h n z => ?_⟩
  obtain ⟨h1, n1, z1⟩ := x.keep b o h n z
  exact y.keep b o h1 n1 z1
section
variable {K : PySem.W.Frag} {S S' : Sw}
theorem FL.tr {a : Addr} {vs : List V} (x : Tr S S') (h : FL S a vs) : FL S' a vs := x.keep _ _ h.1 h.2.1 h.2.2
theorem FT.tr {a : Addr} {vs : List V} (x : Tr S S') (h : FT S a vs) : FT S' a vs := x.keep _ _ h.1 h.2.1 h.2.2
theorem FR.tr {l : Bool} {a : Addr} {vs : List V} (x : Tr S S') (h : FR K S l a vs) : FR K S' l a vs := by
  rcases h with ⟨e, o, h, n, nz⟩ | h
  · exact .inl ⟨e, o, x.keep _ _ h n nz⟩
  · exact .inr h
theorem Tr.loc (x : Tr S S') {n : Nat} {a : Addr} (h : S.m[n]? = some a) : S'.m[n]? = some a := by
  obtain ⟨t, ht⟩ := x.m
  rw [ht, List.getElem?_append_left (List.getElem?_eq_some_iff.mp h).1]
  exact h
mutual
theorem Rep.tr (x : Tr S S') : ∀ (d : D) {v : V}, Rep K S d v → Rep K S' d v
  | .non, _, h => by cases h; exact .non
  | .bl _, _, h => by cases h; exact .bl _
  | .int _, _, h => by cases h; exact .int _
  | .str _, _, h => by cases h; exact .str _
  | .tup ds, _, h => by
    cases h with
    | tup h1 h2 => exact .tup (h1.tr x) (Reps.tr x ds h2)
  | .lst ds, _, h => by
    cases h with
    | lst h1 h2 => exact .lst (h1.tr x) (Reps.tr x ds h2)
  | .loc n, _, h => by
    cases h with
    | loc h1 => exact .loc (x.loc h1)
  | .ro l ds, _, h => by
    cases h with
    | ro h1 h2 => exact .ro (h1.tr x) (Reps.tr x ds h2)
theorem Reps.tr (x : Tr S S') : ∀ (ds : List D) {vs : List V}, Reps K S ds vs → Reps K S' ds vs
  | [], _, h => by cases h; exact .nil
  | d :: ds, _, h => by
    cases h with
    | cons h1 h2 => exact .cons (Rep.tr x d h1) (Reps.tr x ds h2)
end
theorem EnvRel.tr {ρ : Env} {σ : L2.St} (h : EnvRel K S ρ σ) (x : Tr S S') : EnvRel K S' ρ σ := ⟨h.len, fun i d e => by
  obtain ⟨v, e1, r⟩ := h.at_ i d e
  exact ⟨v, e1, r.tr x d⟩⟩
theorem KReps.tr {κ κ' : Type} {f : κ → κ'} {a : List (κ × D)} {b : List (κ' × V)} (x : Tr S S') (h : KReps f K S a b) : KReps f K S' a b := Paired.mapP h fun _ _ q => ⟨q.1, Rep.tr x _ q.2⟩
theorem CRep.tr {c : Cell} {a : Addr} (x : Tr S S') (e : S'.H a = S.H a) (h : CRep K S c a) : CRep K S' c a := by
  cases h with
  | lst e1 r => exact .lst (by rw [e]; exact e1) (Reps.tr x _ r)
  | dK e1 r => exact .dK (by rw [e]; exact e1) (r.tr x)
  | dT e1 r => exact .dT (by rw [e]; exact e1) (r.tr x)
/-- a new list is begun -/
theorem Tr.push {D : Addr} {o : HO} (hD : S.H D = none) : Tr S { S with z := D :: S.z, H := upd S.H D o } := by
  refine ⟨⟨[], by simp⟩, fun b u e n z => ?_⟩
  have ne : b ≠ D := ne_of_none e hD
  refine ⟨?_, n, fun q => ?_⟩
  · show upd S.H D o b = _
    rw [upd_ne ne]
    exact e
  · rcases List.mem_cons.mp q with q | q
    · exact ne q
    · exact z q
theorem MemRel.push {D : Addr} {o : HO} {M : Mem} (h : MemRel K S M) (hD : S.H D = none) : MemRel K { S with z := D :: S.z, H := upd S.H D o } M := by
  refine ⟨h.len, h.nd, fun b hb => ?_, fun i c e => ?_⟩
  · show b ∉ S.m ∧ upd S.H D o b ≠ none
    by_cases q : b = D
    · subst q
      rw [upd_same]
      exact ⟨(notIn_new h hD).1, fun z => by cases z⟩
    · rcases List.mem_cons.mp hb with e | e
      · exact absurd e q
      · rw [upd_ne q]
        exact h.zd b e
  · obtain ⟨a, e1, c1⟩ := h.at_ i c e
    obtain ⟨u, e2, _⟩ := c1.some
    exact ⟨a, e1, c1.tr (Tr.push hD) (by show upd S.H D o a = _; rw [upd_ne (ne_of_none e2 hD)])⟩
/-- the list that is being made is written -/
theorem Tr.make {D : Addr} {o : HO} (hD : D ∈ S.z) : Tr S { S with H := upd S.H D o } := by
  refine ⟨⟨[], by simp⟩, fun b u e n z => ⟨?_, n, z⟩⟩
  show upd S.H D o b = _
  rw [upd_ne (fun q => z (by rw [q]; exact hD))]
  exact e
theorem MemRel.make {D : Addr} {o : HO} {M : Mem} (h : MemRel K S M) (hD : D ∈ S.z) : MemRel K { S with H := upd S.H D o } M := by
  refine ⟨h.len, h.nd, fun b hb => ?_, fun i c e => ?_⟩
  · refine ⟨(h.zd b hb).1, ?_⟩
    show upd S.H D o b ≠ none
    by_cases q : b = D
    · rw [q, upd_same]; exact fun z => by cases z
    · rw [upd_ne q]; exact (h.zd b hb).2
  · obtain ⟨a, e1, c1⟩ := h.at_ i c e
    have ne : a ≠ D := fun q => (h.zd D hD).1 (by rw [← q]; exact List.mem_of_getElem? e1)
    exact ⟨a, e1, c1.tr (Tr.make hD) (by show upd S.H D o a = _; rw [upd_ne ne])⟩
/-- the list is made: it stands still from now on -/
theorem Tr.pop {D : Addr} {z : List Addr} (hz : S.z = D :: z) : Tr S { S with z := z } := ⟨⟨[], by simp⟩, fun b o e n q => ⟨e, n, fun r => q (by rw [hz]; exact List.mem_cons_of_mem _ r)⟩⟩
theorem MemRel.pop {D : Addr} {z : List Addr} {M : Mem} (h : MemRel K S M) (hz : S.z = D :: z) : MemRel K { S with z := z } M :=
  ⟨h.len, h.nd, fun b hb => h.zd b (by rw [hz]; exact List.mem_cons_of_mem _ hb), fun i c e => by
    obtain ⟨a, e1, c1⟩ := h.at_ i c e
    exact ⟨a, e1, c1.tr (Tr.pop hz) rfl⟩⟩
end
/-- an iterator gives the items, as long as the cell that it walks stays as it is -/
def ItRep (K : PySem.W.Frag) (S : Sw) (it : Itm) (J : It) : Prop := ∀ (S' : Sw) (M' : Mem), Tr S S' → MemRel K S' M' → holds M' it.gd = true → ∀ i : Nat,
  (∀ d, it.ds[i]? = some d → J.go i S'.H ∧ ∀ v H', J.yld i S'.H v H' → ∃ S2, S2.H = H' ∧ Ext S' S2 ∧ MemRel K S2 M' ∧ Rep K S2 d v) ∧ (it.ds.length = i → J.stop i S'.H)
section
variable {K : PySem.W.Frag} {S S' : Sw}
theorem ItRep.tr {it : Itm} {J : It} (h : ItRep K S it J) (x : Tr S S') : ItRep K S' it J := fun S2 M2 y m g => h S2 M2 (x.trans y) m g
/-- a sequence that stays -/
theorem seq_it {M : Mem} {d : D} {v : V} {ds : List D} (h : MemRel K S M) (r : Rep K S d v) (e : seqOf M d = some ds) : ∃ l a, v = .ref a ∧ ∀ (S' : Sw) (M' : Mem), Tr S S' → MemRel K S' M' → holds M' (gdOf M d) = true → ∃ vs, Sq l K S'.H a vs ∧ Reps K S' ds vs := by
  cases d with
  | tup xs =>
    cases r with
    | tup h1 h2 =>
      have e2 : xs = ds := by simpa [seqOf] using e
      subst e2
      exact ⟨false, _, rfl, fun S' M' x m g => ⟨_, (h1.tr x).sq, Reps.tr x _ h2⟩⟩
  | lst xs =>
    cases r with
    | lst h1 h2 =>
      have e2 : xs = ds := by simpa [seqOf] using e
      subst e2
      exact ⟨true, _, rfl, fun S' M' x m g => ⟨_, (h1.tr x).sq, Reps.tr x _ h2⟩⟩
  | ro l xs =>
    cases r with
    | ro h1 h2 =>
      have e2 : xs = ds := by simpa [seqOf] using e
      subst e2
      refine ⟨l, _, rfl, fun S' M' x m g => ⟨_, ?_, Reps.tr x _ h2⟩⟩
      have q := (h1.tr x).sq
      cases l with
      | true => exact q
      | false => exact q
  | loc n =>
    cases r with
    | loc h1 =>
      cases q : M[n]? with
      | none => simp only [seqOf, q] at e; cases e
      | some c =>
        simp only [seqOf, q] at e
        cases c with
        | lst xs =>
          have e2 : xs = ds := by simpa using e
          subst e2
          refine ⟨true, _, rfl, fun S' M' x m g => ?_⟩
          simp only [gdOf, q] at g
          simp only [holds, List.all_cons, List.all_nil, Bool.and_true, hold1] at g
          cases q2 : M'[n]? with
          | none => simp only [q2] at g; cases g
          | some c2 =>
            simp only [q2] at g
            cases c2 with
            | lst ys =>
              have e3 := D.beqs_eq _ _ g
              subst e3
              obtain ⟨a2, e1, c1⟩ := m.at_ n _ q2
              rw [x.loc h1] at e1
              cases e1
              cases c1 with
              | lst e3 r3 => exact ⟨_, SqL.of e3, r3⟩
            | _ => cases g
        | _ => cases e
  | _ => cases e
theorem enumD_get : ∀ (xs : List D) (k i : Nat) {d : D}, (enumD k xs)[i]? = some d → ∃ x, xs[i]? = some x ∧ d = .tup [.int ((k + i : Nat) : Int), x]
  | [], _, _, _, h => by simp [enumD] at h
  | x :: xs, k, 0, d, h => by
    have e : D.tup [.int (k : Int), x] = d := by simpa [enumD] using h
    exact ⟨x, rfl, by rw [← e]; simp⟩
  | x :: xs, k, i + 1, d, h => by
    obtain ⟨y, e1, e2⟩ := enumD_get xs (k + 1) i (d := d) (by simpa [enumD] using h)
    exact ⟨y, by simpa using e1, by rw [e2]; congr 3; omega⟩
theorem enumD_len : ∀ (xs : List D) (k : Nat), (enumD k xs).length = xs.length
  | [], _ => rfl
  | _ :: xs, k => by rw [enumD, List.length_cons, enumD_len xs, List.length_cons]
theorem zipD_get : ∀ (xs ys : List D) (i : Nat) {d : D}, (zipD xs ys)[i]? = some d → ∃ x y, xs[i]? = some x ∧ ys[i]? = some y ∧ d = .tup [x, y]
  | [], _, _, _, h => by simp [zipD] at h
  | _ :: _, [], _, _, h => by simp [zipD] at h
  | x :: xs, y :: ys, 0, d, h => by
    have e : D.tup [x, y] = d := by simpa [zipD] using h
    exact ⟨x, y, rfl, rfl, e.symm⟩
  | x :: xs, y :: ys, i + 1, d, h => by
    obtain ⟨u, v, e1, e2, e3⟩ := zipD_get xs ys i (d := d) (by simpa [zipD] using h)
    exact ⟨u, v, by simpa using e1, by simpa using e2, e3⟩
theorem zipD_len : ∀ (xs ys : List D), (zipD xs ys).length = min xs.length ys.length
  | [], ys => by simp [zipD]
  | _ :: _, [] => by simp [zipD]
  | _ :: xs, _ :: ys => by rw [zipD, List.length_cons, zipD_len xs ys, List.length_cons, List.length_cons, Nat.add_min_add_right]
theorem rngI_get {lo : Int} {n i : Nat} {d : D} (h : (rngI lo n)[i]? = some d) : i < n ∧ d = .int (lo + i) := by
  simp only [rngI, List.getElem?_map, Option.map_eq_some_iff] at h
  obtain ⟨k, e, rfl⟩ := h
  obtain ⟨e1, e2⟩ := List.getElem?_eq_some_iff.mp e
  simp at e1 e2
  exact ⟨e1, by rw [e2]⟩
theorem rngI_len {lo : Int} {n : Nat} : (rngI lo n).length = n := by simp [rngI]

/-! ### each kind -/
theorem gd_now {M : Mem} {d : D} : holds M (gdOf M d) = true := by
  cases d with
  | loc n =>
    cases q : M[n]? with
    | none => simp only [gdOf, q]; rfl
    | some c =>
      cases c with
      | lst xs => simp only [gdOf, holds, hold1, q, List.all_cons, List.all_nil, Bool.and_true]; exact D.beqs_refl xs
      | _ => simp only [gdOf, q]; rfl
  | _ => rfl
theorem holds_app {M : Mem} {a b : List (Nat × List D)} (h : holds M (a ++ b) = true) : holds M a = true ∧ holds M b = true := by
  unfold holds at h ⊢
  rw [List.all_append, Bool.and_eq_true] at h
  exact h
theorem it_seq {M : Mem} {d : D} {v : V} {it : Itm} (h : MemRel K S M) (r : Rep K S d v) (e : itS M .seq [d] = some it) : ∃ l a, v = .ref a ∧ (∃ xs, Sq l K S.H a xs) ∧ ItRep K S it (ItS l K a) := by
  simp only [itS, Option.map_eq_some_iff] at e
  obtain ⟨ds, e1, rfl⟩ := e
  obtain ⟨l, a, rfl, hw⟩ := seq_it h r e1
  obtain ⟨ws, q2, _⟩ := hw S M (Tr.refl S) h gd_now
  refine ⟨l, a, rfl, ⟨ws, q2⟩, fun S' M' x m g i => ?_⟩
  obtain ⟨vs, q, rs⟩ := hw S' M' x m g
  refine ⟨fun d hd => ?_, fun hl => ?_⟩
  · obtain ⟨u, e2, ru⟩ := rs.get hd
    cases l with
    | true => exact ⟨⟨vs, u, q, e2⟩, fun w H' y => ⟨S', by rw [y.1], Ext.refl S', m, by
        have e3 := y.2 vs q
        rw [e2] at e3
        cases e3
        exact ru⟩⟩
    | false => exact ⟨⟨vs, u, q, e2⟩, fun w H' y => ⟨S', by rw [y.1], Ext.refl S', m, by
        have e3 := y.2 vs q
        rw [e2] at e3
        cases e3
        exact ru⟩⟩
  · have hl2 : vs.length ≤ i := by rw [← rs.length]; exact Nat.le_of_eq hl
    cases l with
    | true => exact ⟨vs, q, hl2⟩
    | false => exact ⟨vs, q, hl2⟩
theorem pair_rep {M : Mem} {T : Addr} {d e : D} {v w : V} (m : MemRel K S M) (hT : S.H T = none) (r1 : Rep K S d v) (r2 : Rep K S e w) : ∃ S2, S2.H = upd S.H T (.tup [v, w]) ∧ Ext S S2 ∧ MemRel K S2 M ∧ Rep K S2 (.tup [d, e]) (.ref T) := by
  have x : Ext S { S with H := upd S.H T (.tup [v, w]) } := Ext.new m hT
  obtain ⟨n1, n2⟩ := notIn_new m hT
  exact ⟨_, rfl, x, m.new hT, .tup ⟨upd_same .., n1, n2⟩ (.cons (r1.mo x) (.cons (r2.mo x) .nil))⟩
theorem it_enum {M : Mem} {d : D} {v : V} {it : Itm} (h : MemRel K S M) (r : Rep K S d v) (e : itS M .enum [d] = some it) : ∃ l a, v = .ref a ∧ (∃ xs, Sq l K S.H a xs) ∧ ItRep K S it (ItE l K a) := by
  simp only [itS, Option.map_eq_some_iff] at e
  obtain ⟨ds, e1, rfl⟩ := e
  obtain ⟨l, a, rfl, hw⟩ := seq_it h r e1
  obtain ⟨ws, q2, _⟩ := hw S M (Tr.refl S) h gd_now
  refine ⟨l, a, rfl, ⟨ws, q2⟩, fun S' M' x m g i => ?_⟩
  obtain ⟨vs, q, rs⟩ := hw S' M' x m g
  refine ⟨fun d hd => ?_, fun hl => ⟨vs, q, by rw [← rs.length, ← hl, enumD_len]⟩⟩
  obtain ⟨y, e2, rfl⟩ := enumD_get ds 0 i hd
  obtain ⟨u, e3, ru⟩ := rs.get e2
  refine ⟨⟨vs, u, q, e3⟩, fun w H' ⟨T, u', ew, hT, eH, hu⟩ => ?_⟩
  have e4 := hu vs q
  rw [e3] at e4
  cases e4
  subst ew eH
  rw [Nat.zero_add]
  exact pair_rep m hT (.int _) ru
theorem it_zip {M : Mem} {d d' : D} {v v' : V} {it : Itm} (h : MemRel K S M) (r : Rep K S d v) (r' : Rep K S d' v') (e : itS M .zip [d, d'] = some it) :
    ∃ l l' a b, v = .ref a ∧ v' = .ref b ∧ (∃ xs, Sq l K S.H a xs) ∧ (∃ xs, Sq l' K S.H b xs) ∧ ItRep K S it (ItZ l l' K a b) := by
  simp only [itS] at e
  cases q1 : seqOf M d with
  | none => rw [q1] at e; cases e
  | some ds =>
    cases q2 : seqOf M d' with
    | none => rw [q1, q2] at e; cases e
    | some es =>
      rw [q1, q2] at e
      cases e
      obtain ⟨l, a, rfl, hw⟩ := seq_it h r q1
      obtain ⟨l', b, rfl, hw'⟩ := seq_it h r' q2
      obtain ⟨ws, p1, _⟩ := hw S M (Tr.refl S) h gd_now
      obtain ⟨ws', p2, _⟩ := hw' S M (Tr.refl S) h gd_now
      refine ⟨l, l', a, b, rfl, rfl, ⟨ws, p1⟩, ⟨ws', p2⟩, fun S' M' x m g i => ?_⟩
      obtain ⟨g1, g2⟩ := holds_app g
      obtain ⟨vs, qv, rs⟩ := hw S' M' x m g1
      obtain ⟨vs', qv', rs'⟩ := hw' S' M' x m g2
      refine ⟨fun d hd => ?_, fun hl => ?_⟩
      · obtain ⟨y, y', e2, e2', rfl⟩ := zipD_get ds es i hd
        obtain ⟨u, e3, ru⟩ := rs.get e2
        obtain ⟨u', e3', ru'⟩ := rs'.get e2'
        refine ⟨⟨vs, vs', u, u', qv, qv', e3, e3'⟩, fun w H' ⟨T, t1, t2, ew, hT, eH, hu, hu'⟩ => ?_⟩
        have e4 := hu vs qv
        rw [e3] at e4
        cases e4
        have e5 := hu' vs' qv'
        rw [e3'] at e5
        cases e5
        subst ew eH
        exact pair_rep m hT ru ru'
      · have hl2 : min ds.length es.length = i := by rw [← zipD_len]; exact hl
        have l1 := rs.length
        have l2 := rs'.length
        exact ⟨vs, vs', qv, qv', by omega, by omega, by omega⟩
def ItR (l : Bool) (K : PySem.W.Frag) (a : Addr) (n : Nat) : It := match l with
  | true => Itv K a n
  | false => RT.ItvT K a n
theorem it_rev {M : Mem} {d : D} {v : V} {it : Itm} (h : MemRel K S M) (r : Rep K S d v) (e : itS M .rev [d] = some it) : ∃ l a xs, v = .ref a ∧ Sq l K S.H a xs ∧ ItRep K S it (ItR l K a xs.length) := by
  simp only [itS, Option.map_eq_some_iff] at e
  obtain ⟨ds, e1, rfl⟩ := e
  obtain ⟨l, a, rfl, hw⟩ := seq_it h r e1
  obtain ⟨ws, q2, rw2⟩ := hw S M (Tr.refl S) h gd_now
  have hn := rw2.length
  refine ⟨l, a, ws, rfl, q2, fun S' M' x m g i => ?_⟩
  obtain ⟨vs, q, rs⟩ := hw S' M' x m g
  have hn2 := rs.length
  refine ⟨fun d hd => ?_, fun hl => ?_⟩
  · have hi : i < ds.length := by
      have := (List.getElem?_eq_some_iff.mp hd).1
      simpa using this
    have hd2 : ds[ds.length - 1 - i]? = some d := by rw [← List.getElem?_reverse hi]; exact hd
    obtain ⟨u, e3, ru⟩ := rs.get hd2
    have e3' : vs[ws.length - 1 - i]? = some u := by rw [← hn]; exact e3
    cases l with
    | true => exact ⟨⟨by omega, vs, u, q, e3'⟩, fun w H' y => ⟨S', by rw [y.1], Ext.refl S', m, by
        have e4 := y.2 vs q
        rw [e3'] at e4
        cases e4
        exact ru⟩⟩
    | false => exact ⟨⟨by omega, vs, u, q, e3'⟩, fun w H' y => ⟨S', by rw [y.1], Ext.refl S', m, by
        have e4 := y.2 vs q
        rw [e3'] at e4
        cases e4
        exact ru⟩⟩
  · have hl2 : ds.length = i := by simpa using hl
    cases l with
    | true => exact (show ws.length ≤ i by omega)
    | false => exact (show ws.length ≤ i by omega)
theorem it_rng {lo : Int} {n : Nat} : ItRep K S ⟨rngI lo n, []⟩ (Itr lo n) := fun S' M' x m g i => ⟨fun d hd => by
  obtain ⟨hi, rfl⟩ := rngI_get hd
  exact ⟨hi, fun v H' y => ⟨S', by rw [y.1], Ext.refl S', m, by rw [y.2]; exact .int _⟩⟩, fun hl => by
  rw [rngI_len] at hl
  exact Nat.le_of_eq hl⟩
theorem it_str {s : List Nat} : ItRep K S ⟨s.map fun c => D.str [c], []⟩ (Its ⟨s.toArray⟩) := fun S' M' x m g i => ⟨fun d hd => by
  simp only [List.getElem?_map, Option.map_eq_some_iff] at hd
  obtain ⟨c, e, rfl⟩ := hd
  have hi := (List.getElem?_eq_some_iff.mp e).1
  refine ⟨by simpa [Its] using hi, fun v H' y => ⟨S', by rw [y.1], Ext.refl S', m, ?_⟩⟩
  obtain ⟨c', e1, rfl⟩ := y.2
  have e2 : s[i]? = some c' := by simpa using e1
  rw [e] at e2
  cases e2
  exact .str _, fun hl => by
  have hl2 : s.length = i := by simpa using hl
  show _ ≤ i
  simp
  omega⟩
end
/-! ### made -/
theorem PI.weak {X : Cx} {tg e : Expr} {t t' : TI} (h : PI X tg e t) (k : ∀ σ H Q, t' σ H Q → t σ H Q) : PI X tg e t' := ⟨fun pins s σ H Q I q => h.run pins s σ H Q I (k σ H Q q)⟩
theorem reps_ref {K : PySem.W.Frag} {S : Sw} {d : D} {vs : List V} (h : Reps K S [d] vs) : ∃ v, vs = [v] ∧ Rep K S d v := reps1 h
theorem call_enumA {prog : Program} {w : World} {A : Around} {E : Value → Shared → Prop} {s : Shared} {l : Bool} {a : Addr} {items : Array Value} {Q : Value → Shared → Prop} (hL : IsSq l s.heap a items)
    (h : ∀ h', IsEnum h' (s.heap.objs.size + 1) s.heap.objs.size 0 .none → IsIt l h' s.heap.objs.size a 0 → (∀ b o, s.heap.get? b = some o → h'.get? b = some o) → Q (.ref (s.heap.objs.size + 1)) { s with heap := h' }) :
    wpAny (model prog w) A (call (.type "enumerate") [.ref a]) Q E s := by
  have B := begins l a items
  have mt : Meets (Builtin.«enumerate.__new__» ⟨[.type "enumerate", .ref a], []⟩) (fun _ R s => IsSq l s.heap a items ∧
      R (.ok (.ret (.ref (s.heap.push (itObj l a)).objs.size))) { s with heap := (s.heap.push (itObj l a)).push { cls := .type "enumerate", data := .fields #[.none, .bool false, .ref s.heap.objs.size, rawInt 0, .none, .none] } }) :=
    .of_wp fun prog w A R s h => by
      obtain ⟨hp, g, d, tk, os⟩ := s
      obtain ⟨h1, h⟩ := h
      have hsub := sub_enumerate
      have q1 : ∀ {A' : Around} {E : Value → Shared → Prop} {Q : Value → Shared → Prop}, Q (.ref hp.objs.size) ⟨hp.push (itObj l a), g, d, tk, os⟩ → wpAny (model prog w) A' (pyIter (.ref a)) Q E ⟨hp, g, d, tk, os⟩ :=
        fun q => B.iter prog w _ _ ⟨hp, g, d, tk, os⟩ _ h1 q
      wp_walk using q1
      refine wpAny_stack_any fun st => wpAny_pure ?_
      split
      · rename_i c _ _ _ _ _
        cases (c == Value.type "enumerate") <;> (wp_walk using q1; exact ⟨_, rfl, h⟩)
      · wp_walk using q1
        exact ⟨_, rfl, h⟩
  refine callType_new F.called_enumerate (by decide) (F.typeCall_enumerate_1 _) (F.newCall_enumerate_1 _) (fun obj => F.args_object_init_2 obj _) F.entry_enumerate_new mt ⟨hL, ?_⟩
  have hz : (s.heap.push (itObj l a)).objs.size = s.heap.objs.size + 1 := Heap.size_push ..
  show _ ∧ _
  rw [hz]
  have he : IsEnum ((s.heap.push (itObj l a)).push { cls := .type "enumerate", data := .fields #[.none, .bool false, .ref s.heap.objs.size, rawInt 0, .none, .none] }) (s.heap.objs.size + 1) s.heap.objs.size 0 .none := by
    have q := Heap.get?_push_size (s.heap.push (itObj l a)) (o := { cls := .type "enumerate", data := .fields #[.none, .bool false, .ref s.heap.objs.size, rawInt 0, .none, .none] }) rfl
    rw [hz] at q
    exact q
  exact ⟨⟨_, he, rfl⟩, h _ he (itObj_is (Heap.get?_push_of_some _ (Heap.get?_push_size _ B.free))) fun b o x => Heap.get?_push_of_some _ (Heap.get?_push_of_some _ x)⟩
section
variable {X : Cx} {xi : XTab} {tg : Expr} {W : L2.WX}
/-- a reading of what is walked -/
def tIt (K : PySem.W.Frag) (xi : XTab) (k : ItK) (fs : Env → Mem → Res (List D)) (W : L2.WX) : TI := tS K xi (ItRep K) (fun ρ M => (fs ρ M).bind fun ds M1 => .opt (itS M1 k ds) M1) W
theorem one_bind {f : Res D} {g : List D → Mem → Res Itm} : (f.bind fun d M1 => Res.ok [d] M1).bind g = f.bind fun d M1 => g [d] M1 := by cases f <;> rfl
theorem it_seqI {e : Expr} {f : Env → Mem → Res D} (he : PE X e (tS X.K xi (Rep X.K) f W)) : PI X tg e (tIt X.K xi .seq (fun ρ M => (f ρ M).bind fun d M1 => .ok [d] M1) W) := by
  refine PI.weak (pi_seq he) fun σ H R => ?_
  rintro ⟨S, ρ, M, rfl, er, mr, hr⟩
  dsimp only at hr
  rw [one_bind] at hr
  refine ⟨S, ρ, M, rfl, er, mr, (hr.bind (R := Rep X.K)).imp ?_⟩
  rintro v H1 ⟨S1, a, M1, rfl, e1, x1, m1, r1, hr2⟩
  obtain ⟨it, e, hr3⟩ := hr2.opt
  obtain ⟨l, a, rfl, hs, hi⟩ := it_seq m1 r1 e
  exact ⟨l, a, rfl, hs, hr3.ok m1 hi⟩
theorem it_strI {e : Expr} {f : Env → Mem → Res D} (he : PE X e (tS X.K xi (Rep X.K) f W)) : PI X tg e (tIt X.K xi .str (fun ρ M => (f ρ M).bind fun d M1 => .ok [d] M1) W) := by
  refine PI.weak (pi_str he) fun σ H R => ?_
  rintro ⟨S, ρ, M, rfl, er, mr, hr⟩
  dsimp only at hr
  rw [one_bind] at hr
  refine ⟨S, ρ, M, rfl, er, mr, (hr.bind (R := Rep X.K)).imp ?_⟩
  rintro v H1 ⟨S1, a, M1, rfl, e1, x1, m1, r1, hr2⟩
  obtain ⟨it, e, hr3⟩ := hr2.opt
  cases a with
  | str s =>
    simp only [itS, Option.some.injEq] at e
    subst e
    cases r1
    exact ⟨_, rfl, hr3.ok m1 it_str⟩
  | _ => simp [itS] at e
theorem it_revI {e : Expr} {f : Env → Mem → Res D} {p pos : Pos} (hg : Gl X "reversed") (hm : X.mg "reversed" = none) (he : PE X e (tS X.K xi (Rep X.K) f W)) (hs : starEach [e] X.env = (false, eval e X.env) :: starEach [] X.env) :
    PI X tg (.Call (.Name "reversed" p) [e] [] pos) (tIt X.K xi .rev (fun ρ M => (f ρ M).bind fun d M1 => .ok [d] M1) W) := by
  refine PI.weak (RT.pi_revA hg hm he hs) fun σ H R => ?_
  rintro ⟨S, ρ, M, rfl, er, mr, hr⟩
  dsimp only at hr
  rw [one_bind] at hr
  refine ⟨S, ρ, M, rfl, er, mr, (hr.bind (R := Rep X.K)).imp ?_⟩
  rintro v H1 ⟨S1, a, M1, rfl, e1, x1, m1, r1, hr2⟩
  obtain ⟨it, e, hr3⟩ := hr2.opt
  obtain ⟨l, a, xs, rfl, hs, hi⟩ := it_rev m1 r1 e
  refine ⟨a, xs, rfl, ?_⟩
  have q := hr3.ok m1 hi
  cases l with
  | true => exact .inl ⟨hs, q⟩
  | false => exact .inr ⟨hs, q⟩
theorem it_rngI1 {e : Expr} {fs : Env → Mem → Res (List D)} {p pos : Pos} (hg : Gl X "range") (hm : X.mg "range" = none) (ha : PA X [e] (tS X.K xi (Reps X.K) fs W)) (hl : ∀ ρ M ds M1, fs ρ M = .ok ds M1 → ds.length = 1) (hs : starEach [e] X.env = [(false, eval e X.env)]) :
    PI X tg (.Call (.Name "range" p) [e] [] pos) (tIt X.K xi .rng fs W) := by
  refine PI.weak (pi_range1 hg hm ha hs) fun σ H R => ?_
  rintro ⟨S, ρ, M, rfl, er, mr, hr⟩
  refine ⟨S, ρ, M, rfl, er, mr, (hr.bind (R := Reps X.K)).imp ?_⟩
  rintro v H1 ⟨S1, ds, M1, rfl, e1, x1, m1, r1, hr2⟩
  obtain ⟨it, e, hr3⟩ := hr2.opt
  have h1 := hl _ _ _ _ e1
  match ds, h1 with
  | [.int j], _ =>
    obtain ⟨w, rfl, rw1⟩ := reps1 r1
    cases rw1
    unfold itS at e
    simp only [] at e
    split at e
    · rename_i hj
      cases e
      exact ⟨j, rfl, hj.1, hj.2, hr3.ok m1 it_rng⟩
    · cases e
  | [.non], _ => simp [itS] at e
  | [.bl _], _ => simp [itS] at e
  | [.str _], _ => simp [itS] at e
  | [.tup _], _ => simp [itS] at e
  | [.lst _], _ => simp [itS] at e
  | [.loc _], _ => simp [itS] at e
  | [.ro _ _], _ => simp [itS] at e
theorem rng2_of {M : Mem} {d e : D} {it : Itm} (h : itS M .rng [d, e] = some it) : ∃ i j, d = .int i ∧ e = .int j ∧ (inR i ∧ inR j) ∧ it = ⟨rngI i (j - i).toNat, []⟩ := by
  cases d <;> cases e <;> simp [itS] at h
  exact ⟨_, _, rfl, rfl, h.1, h.2.symm⟩
theorem it_rngI2 {a b : Expr} {fs : Env → Mem → Res (List D)} {p pos : Pos} (hg : Gl X "range") (hm : X.mg "range" = none) (ha : PA X [a, b] (tS X.K xi (Reps X.K) fs W)) (hl : ∀ ρ M ds M1, fs ρ M = .ok ds M1 → ds.length = 2) (hs : starEach [a, b] X.env = [(false, eval a X.env), (false, eval b X.env)]) (hs2 : starEach [b] X.env = [(false, eval b X.env)]) :
    PI X tg (.Call (.Name "range" p) [a, b] [] pos) (tIt X.K xi .rng fs W) := by
  refine PI.weak (pi_range2 hg hm ha hs hs2) fun σ H R => ?_
  rintro ⟨S, ρ, M, rfl, er, mr, hr⟩
  refine ⟨S, ρ, M, rfl, er, mr, (hr.bind (R := Reps X.K)).imp ?_⟩
  rintro v H1 ⟨S1, ds, M1, rfl, e1, x1, m1, r1, hr2⟩
  obtain ⟨it, e, hr3⟩ := hr2.opt
  have h1 := hl _ _ _ _ e1
  match ds, h1 with
  | [d, d'], _ =>
    obtain ⟨w, w', rfl, rw1, rw2⟩ := reps2 r1
    obtain ⟨i, j, rfl, rfl, ⟨hi, hj⟩, rfl⟩ := rng2_of e
    cases rw1
    cases rw2
    exact ⟨i, j, rfl, ⟨hi.1, hi.2, hj.1, hj.2⟩, hr3.ok m1 it_rng⟩
theorem it_enumI {e : Expr} {fs : Env → Mem → Res (List D)} {p pos tpos : Pos} {elts : List Expr} {kk : Nat} (hg : Gl X "enumerate") (hm : X.mg "enumerate" = none) (ha : PA X [e] (tS X.K xi (Reps X.K) fs W)) (hl : ∀ ρ M ds M1, fs ρ M = .ok ds M1 → ds.length = 1) (hs : starEach [e] X.env = [(false, eval e X.env)]) :
    PI X (.Tuple elts kk tpos) (.Call (.Name "enumerate" p) [e] [] pos) (tIt X.K xi .enum fs W) := by
  refine ⟨fun pins s σ H R I h => ?_⟩
  obtain ⟨S, ρ, M, rfl, er, mr, hr⟩ := h
  refine Call_ (ld_blt I hg hm boot_enumerate (PyProof.Rows.callWith_type1 (thn (ha.run pos pins s σ S.H _ I ⟨S, ρ, M, rfl, er, mr, hr.bind (R := Reps X.K)⟩) fun us s1 ⟨vs, H1, I1, r1, q1⟩ => ?_) hs rfl))
  obtain ⟨S1, ds, M1, rfl, e1, x1, m1, rs, hr2⟩ := q1
  obtain ⟨it, e, hr3⟩ := hr2.opt
  have h1 := hl _ _ _ _ e1
  match ds, h1 with
  | [d], _ =>
    obtain ⟨w, rfl, rw1⟩ := reps1 rs
    obtain ⟨l, a, rfl, ⟨xs, hq⟩, hi⟩ := it_enum m1 rw1 e
    obtain ⟨u, rfl, ru⟩ := vals1 r1
    obtain rfl : u = Value.ref a := ru
    obtain ⟨its, rv, p', hlt⟩ := sq_inv I1 hq
    refine call_enumA p' fun h' he hit hk => wpAny_pyIter_enum he ?_
    have I2 : Inv X pins σ S1.H { s1 with heap := h' } := I1.kept (t' := s1.toks) hk
    refine ⟨s1.heap.objs.size + 1, [s1.heap.objs.size + 1, s1.heap.objs.size], _, _, S1.H, rfl, I2, turn_enumA l a (s1.heap.objs.size + 1) s1.heap.objs.size, ⟨⟨.none, he⟩, hit, Nat.succ_ne_self _, Nat.ne_of_gt (Nat.lt_succ_of_lt hlt), Nat.ne_of_lt hlt⟩, fun b hb => ?_, hr3.ok m1 hi⟩
    have hle : s1.heap.objs.size ≤ b := by
      rcases (by simpa using hb : b = s1.heap.objs.size + 1 ∨ b = s1.heap.objs.size) with z | z <;> rw [z] <;> first | exact Nat.le_add_right _ _ | exact Nat.le_refl _
    exact I1.fpOk hle (I1.hok.fresh hle)
theorem it_zipI {a b : Expr} {fs : Env → Mem → Res (List D)} {p pos tpos : Pos} {elts : List Expr} {kk : Nat} (hg : Gl X "zip") (hm : X.mg "zip" = none) (ha : PA X [a, b] (tS X.K xi (Reps X.K) fs W)) (hl : ∀ ρ M ds M1, fs ρ M = .ok ds M1 → ds.length = 2) (hs : starEach [a, b] X.env = (false, eval a X.env) :: starEach [b] X.env) (hpl : (backTo pos (starEach [b] X.env)).any (·.1) = false) :
    PI X (.Tuple elts kk tpos) (.Call (.Name "zip" p) [a, b] [] pos) (tIt X.K xi .zip fs W) := by
  refine ⟨fun pins s σ H R I h => ?_⟩
  obtain ⟨S, ρ, M, rfl, er, mr, hr⟩ := h
  refine Call_ (ld_blt I hg hm boot_zip (PyProof.Rows.callWith_type1 (thn (ha.run pos pins s σ S.H _ I ⟨S, ρ, M, rfl, er, mr, hr.bind (R := Reps X.K)⟩) fun us s1 ⟨vs, H1, I1, r1, q1⟩ => ?_) hs hpl))
  obtain ⟨S1, ds, M1, rfl, e1, x1, m1, rs, hr2⟩ := q1
  obtain ⟨it, e, hr3⟩ := hr2.opt
  have h1 := hl _ _ _ _ e1
  match ds, h1 with
  | [d, d'], _ =>
    obtain ⟨w, w', rfl, rw1, rw2⟩ := reps2 rs
    obtain ⟨l, l', p1, p2, rfl, rfl, ⟨xs, hq⟩, ⟨ys, hq'⟩, hi⟩ := it_zip m1 rw1 rw2 e
    obtain ⟨u, u', rfl, ru, ru'⟩ := vals2 r1
    obtain rfl : u = Value.ref p1 := ru
    obtain rfl : u' = Value.ref p2 := ru'
    obtain ⟨its, rv, b1, hlt⟩ := sq_inv I1 hq
    obtain ⟨its', rv', b2, hlt'⟩ := sq_inv I1 hq'
    refine zip_begins2 (begins l p1 its.toArray) (begins l' p2 its'.toArray) b1 b2 fun h' hz hTI hTO o1 o2 hsz hk => wpAny_pyIter_zip hz ?_
    have I2 : Inv X pins σ S1.H { s1 with heap := h' } := I1.kept (t' := s1.toks) hk
    have sep := zip_sep2 (N := s1.heap.objs.size) (fp1 := [p1]) (fp2 := [p2]) (by simpa using hlt) (by simpa using hlt')
    refine ⟨s1.heap.objs.size + 4, [s1.heap.objs.size + 4, s1.heap.objs.size + 2, s1.heap.objs.size + 3, s1.heap.objs.size, s1.heap.objs.size + 1], _, _, S1.H, rfl, I2, turn_zipA l l' sep, ⟨hz, hTI, ⟨_, _, hTO⟩, itObj_is o1, itObj_is o2, Nat.ne_of_lt hlt, Nat.ne_of_lt (Nat.lt_succ_of_lt hlt')⟩, fun c hcm => ?_, hr3.ok m1 hi⟩
    have hle : s1.heap.objs.size ≤ c := by
      rcases (by simpa using hcm : c = s1.heap.objs.size + 4 ∨ c = s1.heap.objs.size + 2 ∨ c = s1.heap.objs.size + 3 ∨ c = s1.heap.objs.size ∨ c = s1.heap.objs.size + 1) with z | z | z | z | z <;> rw [z] <;> first | exact Nat.le_add_right _ _ | exact Nat.le_refl _
    exact I1.fpOk hle (I1.hok.fresh hle)
end
end Pv

set_option Elab.async false
set_option linter.all false
set_option maxRecDepth 100000
set_option maxHeartbeats 4000000
/-! Pv, part J: each form of an expression against what the plain language computes. -/
namespace Pv
open PySem PySem.Spec PyProof.Rows L2
theorem tS_step {α β ν μ : Type} {K : PySem.W.Frag} {xi : XTab} {R : Sw → α → ν → Prop} {R' : Sw → β → μ → Prop} {f : Env → Mem → Res α} {k : α → Mem → Res β} {S : Sw} {ρ : Env} {M : Mem} {σ : L2.St} {Q : μ → Hp → Prop} {Q' : ν → Hp → Prop} {W : L2.WX}
    (er : EnvRel K S ρ σ) (mr : MemRel K S M) (hr : Run K xi R' S ((f ρ M).bind k) Q fun _ c d H => W c d σ H)
    (n : ∀ (S1 : Sw) (a : α) (M1 : Mem) (x : ν), f ρ M = .ok a M1 → Ext S S1 → MemRel K S1 M1 → EnvRel K S1 ρ σ → R S1 a x → Run K xi R' S1 (k a M1) Q (fun _ c d H => W c d σ H) → Q' x S1.H) :
    tS K xi R f W σ S.H Q' :=
  ⟨S, ρ, M, rfl, er, mr, hr.bind.imp fun v H1 ⟨S1, a, M1, e1, e2, x1, m1, r1, q⟩ => by subst e1; exact n S1 a M1 v e2 x1 m1 (er.mo x1) r1 q⟩
theorem tS_mono {α ν : Type} {K : PySem.W.Frag} {xi : XTab} {R : Sw → α → ν → Prop} {f : Env → Mem → Res α} {S : Sw} {ρ : Env} {M : Mem} {σ : L2.St} {Q : ν → Hp → Prop} {W : L2.WX}
    (er : EnvRel K S ρ σ) (mr : MemRel K S M) (hr : Run K xi R S (f ρ M) Q fun _ c d H => W c d σ H) : tS K xi R f W σ S.H Q := ⟨S, ρ, M, rfl, er, mr, hr⟩
/-- an expression whose names are bound behind stars, slices, sets and blocks none -/
def plainE : Expr → Bool
  | .BoolOp .. => true
  | .BinOp .. => true
  | .UnaryOp .. => true
  | .IfExp .. => true
  | .Dict .. => true
  | .ListComp .. => true
  | .Compare .. => true
  | .Call .. => true
  | .Constant .. => true
  | .Attribute .. => true
  | .Subscript .. => true
  | .Name .. => true
  | .List .. => true
  | .Tuple .. => true
  | _ => false
section
variable {e : Expr} {es : List Expr}
theorem star_plain (h : plainE e = true) (env : PySem.Env) : starEach (e :: es) env = (false, eval e env) :: starEach es env := by
  cases e <;> first | rfl | (simp [plainE] at h)
theorem ix_plain (h : plainE e = true) : PlainIx e := by
  intro o i
  cases e <;> first | rfl | (simp [plainE] at h)
theorem fold_plain (h : plainE e = true) (env : PySem.Env) (x : Value) : foldedSetIterable e env x = pure x := by
  cases e <;> first | rfl | (simp [plainE] at h)
theorem stars_plain (h : es.all plainE = true) (env : PySem.Env) (pos : Pos) : (backTo pos (starEach es env)).any (·.1) = false := by
  induction es with
  | nil => rfl
  | cons e es ih =>
    have h2 : plainE e = true ∧ es.all plainE = true := by simpa using h
    rw [star_plain h2.1]
    cases es with
    | nil => rfl
    | cons e2 es2 =>
      have ih := ih h2.2
      have h3 : plainE e2 = true := by
        have := h2.2
        simp at this
        exact this.1
      rw [star_plain h3] at ih ⊢
      simpa [backTo] using ih
end
section
variable {X : Cx} {xi : XTab} {W : L2.WX} {f g h : Env → Mem → Res D} {a b c : Expr} {pos : Pos}
abbrev TD (X : Cx) (xi : XTab) (f : Env → Mem → Res D) (W : L2.WX) : TE := tS X.K xi (Rep X.K) f W
abbrev TDs (X : Cx) (xi : XTab) (f : Env → Mem → Res (List D)) (W : L2.WX) : TA := tS X.K xi (Reps X.K) f W
abbrev TB (X : Cx) (xi : XTab) (f : Env → Mem → Res Bool) (W : L2.WX) : TT := tS X.K xi RB f W
theorem RB.mo {S S' : Sw} {x y : Bool} (h : RB S x y) : RB S' x y := h
theorem e_never {e : Expr} : PE X e (TD X xi (fun _ _ => .bad) W) := ⟨fun _ _ _ _ _ _ ⟨_, _, _, _, _, _, h⟩ => h.elim⟩
theorem t_never {e : Expr} : PT X e (TB X xi (fun _ _ => .bad) W) := ⟨fun _ _ _ _ _ _ ⟨_, _, _, _, _, _, h⟩ => h.elim⟩
/-- a reading that says less -/
theorem PE.of {α : Type} {e : Expr} {f f' : Env → Mem → Res D} (h : PE X e (TD X xi f W)) (k : ∀ ρ M, f' ρ M = f ρ M ∨ f' ρ M = .bad) : PE X e (TD X xi f' W) := PE.weak h fun σ H Q ⟨S, ρ, M, e1, er, mr, hr⟩ => ⟨S, ρ, M, e1, er, mr, by
  rcases k ρ M with z | z
  · rw [z] at hr; exact hr
  · rw [z] at hr; exact hr.elim⟩
theorem e_var {i : Nat} {x : Str} (hN : X.N[i]? = some x) (hv : Vis X.env.scope x) (hd : (x == ("__debug__" : Str)) = false) (hcd : (x == ("__classdict__" : Str)) = false) :
    PE X (.Name x pos) (TD X xi (fun ρ M => match ρ[i]? with | some (some d) => .ok d M | _ => .bad) W) := by
  refine PE.weak (pe_var hN hv hd hcd) ?_
  rintro σ H Q ⟨S, ρ, M, rfl, er, mr, hr⟩
  dsimp only at hr
  split at hr
  · rename_i d e
    obtain ⟨v, e1, r⟩ := er.at_ i d e
    exact ⟨v, e1, hr.ok mr r⟩
  · exact hr.elim
theorem e_cst {v : V} {d : D} {e : Expr} (he : PE X e (tC v)) (hr : ∀ S, Rep X.K S d v) : PE X e (TD X xi (fun _ M => .ok d M) W) := by
  refine PE.weak he ?_
  rintro σ H Q ⟨S, ρ, M, rfl, er, mr, q⟩
  exact q.ok mr (hr S)
theorem e_op (o : Op2) (ha : PE X a (TD X xi f W)) (hb : PE X b (TD X xi g W)) :
    PE X (.BinOp a (pyOp o) b pos) (TD X xi (fun ρ M => (f ρ M).bind fun x M1 => (g ρ M1).bind fun y M2 => .opt (opS M2 o x y) M2) W) := by
  obtain ⟨r, ho, hq⟩ := srv_op (X := X) (xi := xi) o
  refine PE.weak (pe_op ho ha hb) ?_
  rintro σ H Q ⟨S, ρ, M, rfl, er, mr, hr⟩
  refine tS_step er mr hr fun S1 x M1 v e1 x1 m1 er1 r1 h1 => ?_
  refine tS_step er1 m1 h1 fun S2 y M2 w e2 x2 m2 er2 r2 h2 => ?_
  obtain ⟨d, hd, h3⟩ := h2.opt
  exact hq S2 M2 x y d v w Q _ m2 (r1.mo x2) r2 hd h3
theorem e_neg (ha : PE X a (TD X xi f W)) : PE X (.UnaryOp .USub a pos) (TD X xi (fun ρ M => (f ρ M).bind fun x M1 => match x with | .int i => .ok (.int (-i)) M1 | _ => .bad) W) := by
  refine PE.weak (pe_un un_neg ha) ?_
  rintro σ H Q ⟨S, ρ, M, rfl, er, mr, hr⟩
  refine tS_step er mr hr fun S1 x M1 v e1 x1 m1 er1 r1 h1 => ?_
  split at h1
  · cases r1
    exact ⟨_, rfl, h1.ok m1 (.int _)⟩
  · exact h1.elim
section
variable (hu : X.A.units + 64 < cLine)
include hu
theorem e_cmp (o : CmpO) (ha : PE X a (TD X xi f W)) (hb : PE X b (TD X xi g W)) (hm : behindInMarks (pyCmp o) b = false) :
    PE X (.Compare a [pyCmp o] [b] pos) (TD X xi (fun ρ M => (f ρ M).bind fun x M1 => (g ρ M1).bind fun y M2 => .opt ((cmpS M2 o x y).map D.bl) M2) W) := by
  obtain ⟨r, ho, hq⟩ := srv_cmp (X := X) (xi := xi) o hu
  refine PE.weak (pe_cmpR ho ha hb hm) ?_
  rintro σ H Q ⟨S, ρ, M, rfl, er, mr, hr⟩
  refine tS_step er mr hr fun S1 x M1 v e1 x1 m1 er1 r1 h1 => ?_
  refine tS_step er1 m1 h1 fun S2 y M2 w e2 x2 m2 er2 r2 h2 => ?_
  obtain ⟨d, hd, h3⟩ := h2.opt
  exact hq S2 M2 x y d v w Q _ m2 (r1.mo x2) r2 hd h3
theorem t_cmp (o : CmpO) (ha : PE X a (TD X xi f W)) (hb : PE X b (TD X xi g W)) (hm : behindInMarks (pyCmp o) b = false) :
    PT X (.Compare a [pyCmp o] [b] pos) (TB X xi (fun ρ M => (f ρ M).bind fun x M1 => (g ρ M1).bind fun y M2 => .opt (cmpS M2 o x y) M2) W) := by
  obtain ⟨r, ho, hq⟩ := srv_cmp (X := X) (xi := xi) o hu
  refine PT.weak (pt_cmpR ho ha hb hm) ?_
  rintro σ H Q ⟨S, ρ, M, rfl, er, mr, hr⟩
  refine tS_step er mr hr fun S1 x M1 v e1 x1 m1 er1 r1 h1 => ?_
  refine tS_step er1 m1 h1 fun S2 y M2 w e2 x2 m2 er2 r2 h2 => ?_
  obtain ⟨k, hd, h3⟩ := h2.opt
  refine hq S2 M2 x y (.bl k) v w _ (fun _ _ _ _ => False) m2 (r1.mo x2) r2 (by dsimp only; rw [hd]; rfl) ?_
  intro S3 z x3 m3 rz
  cases rz
  exact ⟨k, rfl, h3.ok' x3 m3 rfl⟩
/-- a two-link chain as a value -/
def chE (f g h : Env → Mem → Res D) (o o' : CmpO) : Env → Mem → Res Bool := fun ρ M => (f ρ M).bind fun x M1 => (g ρ M1).bind fun y M2 => match cmpS M2 o x y with
  | some true => (h ρ M2).bind fun z M3 => .opt (cmpS M3 o' y z) M3
  | some false => .ok false M2
  | none => .bad
end
theorem map_opt {α β : Type} {k : α → β} {o : Option α} {M : Mem} : Res.opt (o.map k) M = (Res.opt o M).bind fun a M => .ok (k a) M := by cases o <;> rfl
theorem chain_at {o o' : CmpO} {r r' : R2} {S : Sw} {ρ : Env} {M : Mem} {σ : L2.St} {Q : VK}
    (hq : ∀ (S : Sw) (M : Mem) (a b d : D) (x y : V) (Q : VK) (W : Sw → XW), MemRel X.K S M → Rep X.K S a x → Rep X.K S b y → (cmpS M o a b).map D.bl = some d → Run X.K xi (Rep X.K) S (.ok d M) Q W → r x y S.H Q)
    (hq' : ∀ (S : Sw) (M : Mem) (a b d : D) (x y : V) (Q : VK) (W : Sw → XW), MemRel X.K S M → Rep X.K S a x → Rep X.K S b y → (cmpS M o' a b).map D.bl = some d → Run X.K xi (Rep X.K) S (.ok d M) Q W → r' x y S.H Q)
    (er : EnvRel X.K S ρ σ) (mr : MemRel X.K S M) (hr : Run X.K xi RB S (chE f g h o o' ρ M) (fun k H => Q (.bl k) H) fun _ c d H => W c d σ H) :
    tChain r r' (TD X xi f W) (TD X xi g W) (TD X xi h W) σ S.H Q := by
  refine tS_step er mr hr fun S1 x M1 v e1 x1 m1 er1 r1 h1 => ?_
  refine tS_step er1 m1 h1 fun S2 y M2 w e2 x2 m2 er2 r2 h2 => ?_
  cases hc : cmpS M2 o x y with
  | none => rw [hc] at h2; exact h2.elim
  | some k =>
    rw [hc] at h2
    refine hq S2 M2 x y (.bl k) v w _ (fun _ _ _ _ => False) m2 (r1.mo x2) r2 (by rw [hc]; rfl) ?_
    intro S3 z x3 m3 rz
    cases rz
    refine ⟨k, rfl, ?_⟩
    cases k with
    | false => exact h2.ok' x3 m3 rfl
    | true =>
      refine tS_step (er2.mo x3) m3 (h2.mo x3) fun S4 z M4 u e4 x4 m4 er4 r4 h4 => ?_
      obtain ⟨k2, hd, h5⟩ := h4.opt
      refine hq' S4 M4 y z (.bl k2) w u _ (fun _ _ _ _ => False) m4 ((r2.mo x3).mo x4) r4 (by rw [hd]; rfl) ?_
      intro S5 z5 x5 m5 rz5
      cases rz5
      exact h5.ok' x5 m5 rfl
theorem e_chain (hu : X.A.units + 64 < cLine) (o o' : CmpO) (ha : PE X a (TD X xi f W)) (hb : PE X b (TD X xi g W)) (hc : PE X c (TD X xi h W)) (hm : lastMarks [pyCmp o, pyCmp o'] [b, c] = false) :
    PE X (.Compare a [pyCmp o, pyCmp o'] [b, c] pos) (TD X xi (fun ρ M => (chE f g h o o' ρ M).bind fun k M1 => .ok (.bl k) M1) W) := by
  obtain ⟨r, ho, hq⟩ := srv_cmp (X := X) (xi := xi) o hu
  obtain ⟨r', ho', hq'⟩ := srv_cmp (X := X) (xi := xi) o' hu
  refine PE.weak (pe_chain ho ho' ha hb hc hm) ?_
  rintro σ H Q ⟨S, ρ, M, rfl, er, mr, hr⟩
  exact chain_at (X := X) hq hq' er mr (hr.bind.imp fun k H1 ⟨S1, a, M1, e1, e2, x1, m1, r1, q⟩ => by
    subst e1
    cases r1
    exact q.ok m1 (.bl _))
theorem t_chain (hu : X.A.units + 64 < cLine) (o o' : CmpO) (ha : PE X a (TD X xi f W)) (hb : PE X b (TD X xi g W)) (hc : PE X c (TD X xi h W)) (hm : lastMarks [pyCmp o, pyCmp o'] [b, c] = false) :
    PT X (.Compare a [pyCmp o, pyCmp o'] [b, c] pos) (TB X xi (chE f g h o o') W) := by
  obtain ⟨r, ho, hq⟩ := srv_cmp (X := X) (xi := xi) o hu
  obtain ⟨r', ho', hq'⟩ := srv_cmp (X := X) (xi := xi) o' hu
  refine PT.weak (pt_chain ho ho' ha hb hc hm) ?_
  rintro σ H Q ⟨S, ρ, M, rfl, er, mr, hr⟩
  exact chain_at (X := X) hq hq' er mr (hr.imp fun k H q => ⟨k, rfl, q⟩)
/-! ### truth, and, or, not -/
theorem t_truth (ha : PE X a (TD X xi f W)) (he : ∀ whole, isTrue a X.env whole = (do let v ← whole; standAt a.pos; holding [v] (truthy v))) :
    PT X a (TB X xi (fun ρ M => (f ρ M).bind fun x M1 => .opt (truS M1 x) M1) W) := by
  refine PT.weak (pt_truth ha he) ?_
  rintro σ H Q ⟨S, ρ, M, rfl, er, mr, hr⟩
  refine tS_step er mr hr fun S1 x M1 v e1 x1 m1 er1 r1 h1 => ?_
  obtain ⟨k, hk, h2⟩ := h1.opt
  exact ⟨k, tru_at m1 r1 hk, h2.ok m1 rfl⟩
theorem w_and1 {t : Env → Mem → Res Bool} (ha : PT X a (TB X xi t W)) : PW X (.BoolOp .And [a] pos) (TB X xi t W) := pw_and1 ha
theorem w_or1 {t : Env → Mem → Res Bool} (ha : PT X a (TB X xi t W)) : PW X (.BoolOp .Or [a] pos) (TB X xi t W) := pw_or1 ha
theorem PW.weak {e : Expr} {t t' : TT} (h : PW X e t) (k : ∀ σ H Q, t' σ H Q → t σ H Q) : PW X e t' := ⟨fun whole pins s σ H Q I q => h.run whole pins s σ H Q I (k σ H Q q)⟩
theorem w_and {rest : List Expr} {t u : Env → Mem → Res Bool} (ha : PT X a (TB X xi t W)) (hb : PW X (.BoolOp .And (b :: rest) pos) (TB X xi u W)) :
    PW X (.BoolOp .And (a :: b :: rest) pos) (TB X xi (fun ρ M => (t ρ M).bind fun x M1 => if x then u ρ M1 else .ok false M1) W) := by
  refine PW.weak (pw_and ha hb) ?_
  rintro σ H Q ⟨S, ρ, M, rfl, er, mr, hr⟩
  refine tS_step er mr hr fun S1 x M1 v e1 x1 m1 er1 r1 h1 => ?_
  cases r1
  cases x with
  | true => exact tS_mono er1 m1 h1
  | false => exact h1.ok m1 rfl
theorem w_or {rest : List Expr} {t u : Env → Mem → Res Bool} (ha : PT X a (TB X xi t W)) (hb : PW X (.BoolOp .Or (b :: rest) pos) (TB X xi u W)) :
    PW X (.BoolOp .Or (a :: b :: rest) pos) (TB X xi (fun ρ M => (t ρ M).bind fun x M1 => if x then .ok true M1 else u ρ M1) W) := by
  refine PW.weak (pw_or ha hb) ?_
  rintro σ H Q ⟨S, ρ, M, rfl, er, mr, hr⟩
  refine tS_step er mr hr fun S1 x M1 v e1 x1 m1 er1 r1 h1 => ?_
  cases r1
  cases x with
  | true => exact h1.ok m1 rfl
  | false => exact tS_mono er1 m1 h1
theorem e_and {rest : List Expr} (ha : PE X a (TD X xi f W)) (hb : PE X (.BoolOp .And (b :: rest) pos) (TD X xi g W)) :
    PE X (.BoolOp .And (a :: b :: rest) pos) (TD X xi (fun ρ M => (f ρ M).bind fun x M1 => match x with
    | .bl true => g ρ M1
    | .bl false => .ok (.bl false) M1
    | _ => .bad) W) := by
  refine PE.weak (pe_and ha hb) ?_
  rintro σ H Q ⟨S, ρ, M, rfl, er, mr, hr⟩
  refine tS_step er mr hr fun S1 x M1 v e1 x1 m1 er1 r1 h1 => ?_
  split at h1
  · cases r1
    exact ⟨true, rfl, tS_mono er1 m1 h1⟩
  · cases r1
    exact ⟨false, rfl, h1.ok m1 (.bl _)⟩
  · exact h1.elim
theorem e_or {rest : List Expr} (ha : PE X a (TD X xi f W)) (hb : PE X (.BoolOp .Or (b :: rest) pos) (TD X xi g W)) :
    PE X (.BoolOp .Or (a :: b :: rest) pos) (TD X xi (fun ρ M => (f ρ M).bind fun x M1 => match x with
    | .bl false => g ρ M1
    | .bl true => .ok (.bl true) M1
    | _ => .bad) W) := by
  refine PE.weak (pe_or ha hb) ?_
  rintro σ H Q ⟨S, ρ, M, rfl, er, mr, hr⟩
  refine tS_step er mr hr fun S1 x M1 v e1 x1 m1 er1 r1 h1 => ?_
  split at h1
  · cases r1
    exact ⟨false, rfl, tS_mono er1 m1 h1⟩
  · cases r1
    exact ⟨true, rfl, h1.ok m1 (.bl _)⟩
  · exact h1.elim
theorem e_not (ha : PE X a (TD X xi f W)) : PE X (.UnaryOp .Not a pos) (TD X xi (fun ρ M => (f ρ M).bind fun x M1 => .opt ((blS x).map fun b => D.bl (!b)) M1) W) := by
  refine PE.weak (pe_not ha) ?_
  rintro σ H Q ⟨S, ρ, M, rfl, er, mr, hr⟩
  refine tS_step er mr hr fun S1 x M1 v e1 x1 m1 er1 r1 h1 => ?_
  obtain ⟨d, hd, h2⟩ := h1.opt
  cases x <;> simp [blS] at hd
  subst hd
  cases r1
  exact ⟨_, rfl, h2.ok m1 (.bl _)⟩
theorem t_not {t : Env → Mem → Res Bool} (ha : PT X a (TB X xi t W)) : PT X (.UnaryOp .Not a pos) (TB X xi (fun ρ M => (t ρ M).bind fun x M1 => .ok (!x) M1) W) := by
  refine PT.weak (pt_not ha) ?_
  rintro σ H Q ⟨S, ρ, M, rfl, er, mr, hr⟩
  refine tS_step er mr hr fun S1 x M1 v e1 x1 m1 er1 r1 h1 => ?_
  cases r1
  exact h1.ok m1 rfl
theorem e_ite {t : Env → Mem → Res Bool} (hc : PT X c (TB X xi t W)) (ha : PE X a (TD X xi f W)) (hb : PE X b (TD X xi g W)) :
    PE X (.IfExp c a b pos) (TD X xi (fun ρ M => (t ρ M).bind fun k M1 => if k then f ρ M1 else g ρ M1) W) := by
  refine PE.weak (pe_ifExp hc ha hb) ?_
  rintro σ H Q ⟨S, ρ, M, rfl, er, mr, hr⟩
  refine tS_step er mr hr fun S1 x M1 v e1 x1 m1 er1 r1 h1 => ?_
  cases r1
  cases x with
  | true => exact tS_mono er1 m1 h1
  | false => exact tS_mono er1 m1 h1
/-! ### displays -/
theorem a_nil : PA X [] (TDs X xi (fun _ M => .ok [] M) W) := by
  refine PA.weak pa_nil ?_
  rintro σ H Q ⟨S, ρ, M, rfl, er, mr, hr⟩
  exact hr.ok mr .nil
theorem a_cons {e : Expr} {es : List Expr} {fs : Env → Mem → Res (List D)} (he : PE X e (TD X xi f W)) (hes : PA X es (TDs X xi fs W)) (hp : plainE e = true) :
    PA X (e :: es) (TDs X xi (fun ρ M => (f ρ M).bind fun d M1 => (fs ρ M1).bind fun ds M2 => .ok (d :: ds) M2) W) := by
  refine PA.weak (pa_cons he hes (star_plain hp _)) ?_
  rintro σ H Q ⟨S, ρ, M, rfl, er, mr, hr⟩
  refine tS_step er mr hr fun S1 x M1 v e1 x1 m1 er1 r1 h1 => ?_
  refine tS_step er1 m1 h1 fun S2 y M2 w e2 x2 m2 er2 r2 h2 => ?_
  exact h2.ok m2 (.cons (r1.mo x2) r2)
theorem e_tup {es : List Expr} {fs : Env → Mem → Res (List D)} {k : Nat} (hes : PA X es (TDs X xi fs W)) (hn : ∀ ρ M ds M1, fs ρ M = .ok ds M1 → ds.length ≤ line) :
    PE X (.Tuple es k pos) (TD X xi (fun ρ M => (fs ρ M).bind fun ds M1 => .ok (.tup ds) M1) W) := by
  refine PE.weak (pe_tup hes) ?_
  rintro σ H Q ⟨S, ρ, M, rfl, er, mr, hr⟩
  refine tS_step er mr hr fun S1 x M1 v e1 x1 m1 er1 r1 h1 => ?_
  exact ⟨by rw [← line_eq, ← r1.length]; exact hn _ _ _ _ e1, fun p hp => new_tup m1 r1 h1 hp⟩
theorem e_lst {es : List Expr} {fs : Env → Mem → Res (List D)} (hes : PA X es (TDs X xi fs W)) (hn : ∀ ρ M ds M1, fs ρ M = .ok ds M1 → ds.length ≤ line) :
    PE X (.List es pos) (TD X xi (fun ρ M => (fs ρ M).bind fun ds M1 => .ok (.lst ds) M1) W) := by
  refine PE.weak (pe_lst hes) ?_
  rintro σ H Q ⟨S, ρ, M, rfl, er, mr, hr⟩
  refine tS_step er mr hr fun S1 x M1 v e1 x1 m1 er1 r1 h1 => ?_
  exact ⟨by rw [← line_eq, ← r1.length]; exact hn _ _ _ _ e1, fun p hp => new_lst m1 r1 h1 hp⟩
theorem e_lstC {es : List Expr} {fs : Env → Mem → Res (List D)} (hes : PA X es (TDs X xi fs W)) (hn : ∀ ρ M ds M1, fs ρ M = .ok ds M1 → ds.length ≤ line) :
    PE X (.List es pos) (TD X xi (fun ρ M => (fs ρ M).bind fun ds M1 => .ok (.loc M1.length) (M1 ++ [.lst ds])) W) := by
  refine PE.weak (pe_lst hes) ?_
  rintro σ H Q ⟨S, ρ, M, rfl, er, mr, hr⟩
  refine tS_step er mr hr fun S1 x M1 v e1 x1 m1 er1 r1 h1 => ?_
  exact ⟨by rw [← line_eq, ← r1.length]; exact hn _ _ _ _ e1, fun p hp => new_cell m1 r1 h1 hp⟩
/-! ### places -/
theorem e_idx (hu : X.A.units + 1 < cLine) (ha : PE X a (TD X xi f W)) (hb : PE X b (TD X xi g W)) (hp : plainE b = true) :
    PE X (.Subscript a b pos) (TD X xi (fun ρ M => (f ρ M).bind fun x M1 => (g ρ M1).bind fun y M2 => .opt (idxS M2 x y) M2) W) := by
  refine PE.weak (Pv.pe_sub hu ha hb (ix_plain hp)) ?_
  rintro σ H Q ⟨S, ρ, M, rfl, er, mr, hr⟩
  refine tS_step er mr hr fun S1 x M1 v e1 x1 m1 er1 r1 h1 => ?_
  refine tS_step er1 m1 h1 fun S2 y M2 w e2 x2 m2 er2 r2 h2 => ?_
  obtain ⟨d, hd, h3⟩ := h2.opt
  exact sub_at m2 (r1.mo x2) r2 hd h3
/-- a slice's part -/
abbrev TP (X : Cx) (xi : XTab) (k : Bool) (f : Env → Mem → Res D) (W : L2.WX) : TO := tS X.K xi (fun _ a b => a = b) (fun ρ M => (f ρ M).bind fun l M2 => .opt (partQ k l) M2) W
theorem PO.weak {e : Option Expr} {t t' : TO} (h : PO X e t) (k : ∀ σ H Q, t' σ H Q → t σ H Q) : PO X e t' := ⟨fun pins s σ H Q I q => h.run pins s σ H Q I (k σ H Q q)⟩
theorem part_none : PO X none (TP X xi true (fun _ M => .ok .non M) W) := by
  refine PO.weak po_none ?_
  rintro σ H Q ⟨S, ρ, M, rfl, er, mr, hr⟩
  exact (show Run X.K xi _ S (.ok (none : Option Int) M) Q _ from hr).ok mr rfl
theorem part_some {e : Expr} (he : PE X e (TD X xi f W)) : PO X (some e) (TP X xi false f W) := by
  refine PO.weak (po_some he) ?_
  rintro σ H Q ⟨S, ρ, M, rfl, er, mr, hr⟩
  refine tS_step er mr hr fun S1 x M1 v e1 x1 m1 er1 r1 h1 => ?_
  cases x with
  | int i =>
    cases r1
    exact ⟨i, rfl, (show Run X.K xi _ S1 (.ok (some i) M1) Q _ from h1).ok m1 rfl⟩
  | _ => exact h1.elim
theorem e_slc {lo hi : Option Expr} {p2 : Pos} {k k' : Bool} (ha : PE X a (TD X xi f W)) (hl : PO X lo (TP X xi k g W)) (hh : PO X hi (TP X xi k' h W)) :
    PE X (.Subscript a (.Slice lo hi none p2) pos) (TD X xi (fun ρ M => (f ρ M).bind fun x M1 => ((g ρ M1).bind fun l M2 => .opt (partQ k l) M2).bind fun l M2 => ((h ρ M2).bind fun h M3 => .opt (partQ k' h) M3).bind fun h M3 => .opt (slcS M3 x l h) M3) W) := by
  refine PE.weak (pe_slice sl_any ha hl hh) ?_
  rintro σ H Q ⟨S, ρ, M, rfl, er, mr, hr⟩
  refine tS_step er mr hr fun S1 x M1 v e1 x1 m1 er1 r1 h1 => ?_
  refine tS_step er1 m1 h1 fun S2 l M2 ol e2 x2 m2 er2 r2 h2 => ?_
  refine tS_step er2 m2 h2 fun S3 u M3 ou e3 x3 m3 er3 r3 h3 => ?_
  subst r2 r3
  obtain ⟨d, hd, h4⟩ := h3.opt
  exact slc_at m3 ((r1.mo x2).mo x3) hd h4
/-! ### calls of built-ins, methods -/
theorem e_blt {id : String} {x : Str} {e : Expr} {es : List Expr} {fs : Env → Mem → Res (List D)} {k : Mem → List D → Option D} {p : Pos} (hs : ServesN X xi (.builtin id) k) (hg : Gl X x) (hm : X.mg x = none) (hv : bootBuiltins x = some (.builtin id)) (ha : PA X (e :: es) (TDs X xi fs W))
    (hn : x ≠ "__name__") (hdb : (x == ("__debug__" : Str)) = false) (hp : (e :: es).all plainE = true) :
    PE X (.Call (.Name x p) (e :: es) [] pos) (TD X xi (fun ρ M => (fs ρ M).bind fun ds M1 => .opt (k M1 ds) M1) W) := by
  obtain ⟨r, hc, hq⟩ := hs
  have hp2 : plainE e = true ∧ es.all plainE = true := by simpa using hp
  refine PE.weak (pe_callB hc hg hm hv ha hn hdb (star_plain hp2.1 _) (stars_plain hp2.2 _ _)) ?_
  rintro σ H Q ⟨S, ρ, M, rfl, er, mr, hr⟩
  refine tS_step er mr hr fun S1 x M1 v e1 x1 m1 er1 r1 h1 => ?_
  obtain ⟨d, hd, h2⟩ := h1.opt
  exact hq S1 M1 x d v Q _ m1 r1 hd h2
theorem e_ty {T : String} {x : Str} {e : Expr} {es : List Expr} {fs : Env → Mem → Res (List D)} {k : Mem → List D → Option D} {p : Pos} (hs : ServesN X xi (.type T) k) (hg : Gl X x) (hm : X.mg x = none) (hv : bootBuiltins x = some (.type T)) (ha : PA X (e :: es) (TDs X xi fs W))
    (hn : x ≠ "__name__") (hdb : (x == ("__debug__" : Str)) = false) (hp : (e :: es).all plainE = true) :
    PE X (.Call (.Name x p) (e :: es) [] pos) (TD X xi (fun ρ M => (fs ρ M).bind fun ds M1 => .opt (k M1 ds) M1) W) := by
  obtain ⟨r, hc, hq⟩ := hs
  have hp2 : plainE e = true ∧ es.all plainE = true := by simpa using hp
  refine PE.weak (pe_callTy hc hg hm hv ha hn hdb (star_plain hp2.1 _) (stars_plain hp2.2 _ _)) ?_
  rintro σ H Q ⟨S, ρ, M, rfl, er, mr, hr⟩
  refine tS_step er mr hr fun S1 x M1 v e1 x1 m1 er1 r1 h1 => ?_
  obtain ⟨d, hd, h2⟩ := h1.opt
  exact hq S1 M1 x d v Q _ m1 r1 hd h2
end
end Pv

set_option Elab.async false
set_option linter.all false
set_option maxRecDepth 100000
set_option maxHeartbeats 4000000
/-! Pv, part K: isinstance, methods, calls of defs, targets, blocks. -/
namespace Pv
open PySem PySem.Spec PyProof.Rows L2
section
variable {X : Cx} {xi : XTab} {W : L2.WX} {f g h : Env → Mem → Res D} {a b c : Expr} {pos : Pos}
/-! ### isinstance -/
def Ty.nam (t : Ty) : Str := Str.ofString t.name
theorem Ty.boot (t : Ty) : bootBuiltins t.nam = some (.type t.name) := by cases t <;> decide +kernel
theorem Ty.nn (t : Ty) : t.nam ≠ "__name__" := by cases t <;> decide +kernel
theorem Ty.nd (t : Ty) : (t.nam == ("__debug__" : Str)) = false := by cases t <;> decide +kernel
theorem pe_tyN (t : Ty) (hg : Gl X t.nam) (hm : X.mg t.nam = none) : PE X (.Name t.nam pos) (tC (.ty t.name)) := pe_bltn hg hm t.boot rfl t.nn t.nd
theorem e_isi1 {p q : Pos} (t : Ty) (hgi : Gl X "isinstance") (hmi : X.mg "isinstance" = none) (hg : Gl X t.nam) (hm : X.mg t.nam = none) (ha : PE X a (TD X xi f W)) (hp : plainE a = true) :
    PE X (.Call (.Name "isinstance" p) [a, .Name t.nam q] [] pos) (TD X xi (fun ρ M => (f ρ M).bind fun x M1 => .opt ((isiS M1 x [t]).map D.bl) M1) W) := by
  refine PE.weak (pe_callB call_isi hgi hmi boot_isinstance (pa_cons ha (pa_cons (pe_tyN t hg hm) pa_nil (star_plain rfl _)) (star_plain hp _)) (by decide +kernel) (by decide +kernel) (star_plain hp _) (stars_plain (by rfl) _ _)) ?_
  rintro σ H Q ⟨S, ρ, M, rfl, er, mr, hr⟩
  refine tS_step er mr hr fun S1 x M1 v e1 x1 m1 er1 r1 h1 => ?_
  obtain ⟨d, hd, h2⟩ := h1.opt
  obtain ⟨k, hk, rfl⟩ := Option.map_eq_some_iff.mp hd
  exact isi_one (W := fun _ _ _ _ => False) m1 r1 hk (h2.ok m1 (.bl _))
def NamesOf : List Ty → List Expr → Prop
  | [], [] => True
  | t :: ts, e :: es => (∃ q, e = .Name t.nam q) ∧ NamesOf ts es
  | _, _ => False
theorem NamesOf.plain : ∀ {ts : List Ty} {es : List Expr}, NamesOf ts es → es.all plainE = true
  | [], [], _ => rfl
  | t :: ts, e :: es, h => by
    obtain ⟨⟨q, rfl⟩, h2⟩ := h
    simpa [plainE] using NamesOf.plain h2
  | [], _ :: _, h => h.elim
  | _ :: _, [], h => h.elim
theorem NamesOf.length : ∀ {ts : List Ty} {es : List Expr}, NamesOf ts es → ts.length = es.length
  | [], [], _ => rfl
  | t :: ts, e :: es, h => by
    have h2 : NamesOf ts es := h.2
    simp [NamesOf.length h2]
  | [], _ :: _, h => h.elim
  | _ :: _, [], h => h.elim
theorem NamesOf.pa : ∀ {ts : List Ty} {es : List Expr}, NamesOf ts es → (∀ t ∈ ts, Gl X t.nam ∧ X.mg t.nam = none) → PA X es (fun _ H Q => Q (ts.map fun t => V.ty t.name) H)
  | [], [], _, _ => pa_nil
  | t :: ts, e :: es, h, k => by
    obtain ⟨⟨q, rfl⟩, h2⟩ := h
    obtain ⟨h3, h4⟩ := k t (by simp)
    exact pa_cons (pe_tyN t h3 h4) (NamesOf.pa h2 fun t ht => k t (by simp [ht])) (star_plain rfl _)
  | [], _ :: _, h, _ => h.elim
  | _ :: _, [], h, _ => h.elim
theorem e_isiN {p q : Pos} {ts : List Ty} {es : List Expr} {kt : Nat} (hgi : Gl X "isinstance") (hmi : X.mg "isinstance" = none) (hn : NamesOf ts es) (hl : ts.length ≤ line) (hgs : ∀ t ∈ ts, Gl X t.nam ∧ X.mg t.nam = none) (ha : PE X a (TD X xi f W)) (hp : plainE a = true) :
    PE X (.Call (.Name "isinstance" p) [a, .Tuple es kt q] [] pos) (TD X xi (fun ρ M => (f ρ M).bind fun x M1 => .opt ((isiS M1 x ts).map D.bl) M1) W) := by
  refine PE.weak (pe_callB call_isiT hgi hmi boot_isinstance (pa_cons ha (pa_cons (L2.pe_tup (hn.pa hgs)) pa_nil (star_plain rfl _)) (star_plain hp _)) (by decide +kernel) (by decide +kernel) (star_plain hp _) (stars_plain (by rfl) _ _)) ?_
  rintro σ H Q ⟨S, ρ, M, rfl, er, mr, hr⟩
  refine tS_step er mr hr fun S1 x M1 v e1 x1 m1 er1 r1 h1 => ?_
  obtain ⟨d, hd, h2⟩ := h1.opt
  obtain ⟨k, hk, rfl⟩ := Option.map_eq_some_iff.mp hd
  refine ⟨by rw [← line_eq, List.length_map]; exact hl, fun p0 hp0 => ?_⟩
  exact isi_many m1 r1 hk hp0 fun o => by
    have x2 := Ext.new (o := o) m1 hp0
    exact h2.ok' x2 (m1.new hp0) (.bl _)
/-- max(x, default = d) -/
theorem e_bltK {id : String} {x y : Str} {e d : Expr} {k : Mem → List D → Option D} {p kp : Pos} (hs : ServesK X xi id k) (hy : y = Str.ofString "default") (hg : Gl X x) (hm : X.mg x = none) (hv : bootBuiltins x = some (.builtin id)) (ha : PE X e (TD X xi f W)) (hd : PE X d (TD X xi g W))
    (hn : x ≠ "__name__") (hdb : (x == ("__debug__" : Str)) = false) (hp : plainE e = true) :
    PE X (.Call (.Name x p) [e] [⟨some y, d, kp⟩] pos) (TD X xi (fun ρ M => (f ρ M).bind fun a M1 => (g ρ M1).bind fun b M2 => .opt (k M2 [a, b]) M2) W) := by
  subst hy
  obtain ⟨r, hc, hq⟩ := hs
  refine PE.weak (pe_callBK hc hg hm hv (pa_cons ha pa_nil (star_plain hp _)) (pk_cons hd pk_nil) hn hdb (by rw [star_plain hp]; rfl) (by rw [star_plain hp]; rfl) rfl rfl rfl) ?_
  rintro σ H Q ⟨S, ρ, M, rfl, er, mr, hr⟩
  refine tS_step er mr hr fun S1 a M1 v e1 x1 m1 er1 r1 h1 => ?_
  refine tS_step er1 m1 h1 fun S2 b M2 z e2 x2 m2 er2 r2 h2 => ?_
  obtain ⟨d', hd', h3⟩ := h2.opt
  exact hq S2 M2 a b d' v z Q _ m2 (r1.mo x2) r2 hd' h3
/-! ### methods -/
def notCall : Expr → Bool
  | .Call .. => false
  | _ => true
theorem base_plain {o : Expr} {name : Str} {env : PySem.Env} (h : notCall o = true) : attributeBase o name env (eval o env) = eval o env := by
  cases o <;> first | rfl | (simp [notCall] at h)
structure MthOk (T : String) (name : Str) (id : String) (m : Mth) : Prop where
  pa : PlainAttrs T
  slot : Slot T name id
  ty : typeOf (.builtin id) = pure (.type "method_descriptor")
  recv : ∀ (K : PySem.W.Frag) (S : Sw) (M : Mem) (d : D) (v : V), MemRel K S M → Rep K S d v → Pv.recv m d M = true → tyV K T v S.H
theorem few_plain {es : List Expr} {env : PySem.Env} {cpos : Pos} (hp : es.all plainE = true) (hl : es.length < 29) (hne : es ≠ []) : ((backTo cpos (starEach es env)).all (fun x => !x.1) && (backToKw cpos (keywordEach [] env)).all (fun x => x.1.isSome)
      && decide (es.length + ([] : List Keyword).length + (if ([] : List Keyword).isEmpty then 0 else 1) < 30)) = true := by
  have h1 : (backTo cpos (starEach es env)).any (·.1) = false := stars_plain hp _ _
  have h2 : (backTo cpos (starEach es env)).all (fun x => !x.1) = true := by
    rw [List.all_eq_not_any_not]
    simp only [Bool.not_not]
    rw [h1]
    rfl
  have h3 : (backToKw cpos (keywordEach [] env)).all (fun x => x.1.isSome) = true := rfl
  rw [h2, h3]
  simp
  omega
theorem e_meth0 {T id : String} {name : Str} {m : Mth} {apos cpos : Pos} (k : MthOk T name id m) (hs : ServesM X xi id m) (ho : PE X a (TD X xi f W)) (hb : notCall a = true) (hline : (apos.endLine == cpos.line) = true) :
    PE X (.Call (.Attribute a name apos) [] [] cpos) (TD X xi (fun ρ M => (f ρ M).bind fun x M1 => if recv m x M1 then (Res.ok [] M1).bind fun ds M2 => mthS m x ds M2 else .bad) W) := by
  obtain ⟨r, hm, hq⟩ := hs
  refine PE.weak (pe_bm0 k.pa k.slot k.ty hm ho (base_plain hb) hline) ?_
  rintro σ H Q ⟨S, ρ, M, rfl, er, mr, hr⟩
  refine tS_step er mr hr fun S1 x M1 v e1 x1 m1 er1 r1 h1 => ?_
  split at h1
  · rename_i hrec
    refine ⟨k.recv _ _ _ _ _ m1 r1 hrec, ?_⟩
    have h1 : Run X.K xi (Rep X.K) S1 (mthS m x [] M1) Q _ := h1
    cases e : mthS m x [] M1 with
    | ok d M2 => rw [e] at h1; exact hq S1 M1 M2 x d [] v [] Q _ m1 r1 .nil e h1
    | exc y vs M2 => cases m <;> (unfold mthS at e; split at e <;> first | (cases e; done) | (split at e <;> first | (cases e; done) | (split at e <;> first | (cases e; done) | (split at e <;> cases e))))
    | bad => rw [e] at h1; exact h1.elim
  · exact h1.elim
theorem e_meth {T id : String} {name : Str} {m : Mth} {e : Expr} {es : List Expr} {fs : Env → Mem → Res (List D)} {apos cpos : Pos} (k : MthOk T name id m) (hs : ServesM X xi id m) (ho : PE X a (TD X xi f W)) (ha : PA X (e :: es) (TDs X xi fs W)) (hb : notCall a = true) (hline : (apos.endLine == cpos.line) = true)
    (hp : (e :: es).all plainE = true) (hl : (e :: es).length < 29) :
    PE X (.Call (.Attribute a name apos) (e :: es) [] cpos) (TD X xi (fun ρ M => (f ρ M).bind fun x M1 => if recv m x M1 then (fs ρ M1).bind fun ds M2 => mthS m x ds M2 else .bad) W) := by
  obtain ⟨r, hm, hq⟩ := hs
  have hp2 : plainE e = true ∧ es.all plainE = true := by simpa using hp
  refine PE.weak (pe_bm k.pa k.slot k.ty hm ho ha (base_plain hb) (few_plain hp hl (by simp)) hline (star_plain hp2.1 _) (stars_plain hp2.2 _ _)) ?_
  rintro σ H Q ⟨S, ρ, M, rfl, er, mr, hr⟩
  refine tS_step er mr hr fun S1 x M1 v e1 x1 m1 er1 r1 h1 => ?_
  split at h1
  · rename_i hrec
    refine ⟨k.recv _ _ _ _ _ m1 r1 hrec, ?_⟩
    refine tS_step er1 m1 h1 fun S2 ds M2 vs e2 x2 m2 er2 r2 h2 => ?_
    cases e : mthS m x ds M2 with
    | ok d M3 => rw [e] at h2; exact hq S2 M2 M3 x d ds v vs Q _ m2 (r1.mo x2) r2 e h2
    | exc y vs M3 => cases m <;> (unfold mthS at e; split at e <;> first | (cases e; done) | (split at e <;> first | (cases e; done) | (split at e <;> first | (cases e; done) | (split at e <;> cases e))))
    | bad => rw [e] at h2; exact h2.elim
  · exact h1.elim
/-! ### calls of defs -/
def spF (K : PySem.W.Frag) (xi : XTab) (F : Fn) (f np : Nat) : Sp := fun vs H Q E => ∃ S ds M, S.H = H ∧ MemRel K S M ∧ Reps K S ds vs ∧ ds.length = np ∧ Run K xi (Rep K) S (F f ds M) Q fun _ c d H => E c d H
theorem e_call {k : Nat} {fa : Addr} {fd : FuncData} {ps : List Str} {F : Fn} {n np : Nat} {x : Str} {p : Pos} {ds : List Value} {dvs : List V} {dfl : List D} {e : Expr} {es : List Expr} {fs : Env → Mem → Res (List D)}
    (Fo : FnOk X.prog X.w X.K X.mg X.base (L2.CX X.prog X.w) k fa fd ps (spF X.K xi F n np)) (hr : Room k X.A) (hg : Gl X x) (hm : X.mg x = some (.ref fa)) (hk : PySem.W.keepIn X.K (.ref fa) = true) (hb : Binds X.K fd ps ds) (hd : Vals dvs ds)
    (tk : Takes X W) (ha : PA X (e :: es) (TDs X xi fs W)) (hdb : (x == ("__debug__" : Str)) = false) (hp : (e :: es).all plainE = true) (hdf : ∀ S, Reps X.K S dfl dvs) (hl : ∀ ρ M ds M1, fs ρ M = .ok ds M1 → ds.length + dfl.length = np)
    (hF : ∀ vs M, vs.length + dfl.length = np → F n (vs ++ dfl) M = F n vs M) :
    PE X (.Call (.Name x p) (e :: es) [] pos) (TD X xi (fun ρ M => (fs ρ M).bind fun ds M1 => F n ds M1) W) := by
  have hp2 : plainE e = true ∧ es.all plainE = true := by simpa using hp
  refine PE.weak (pe_callSD Fo hr hg hm hk hb hd (passAt tk) ha hdb (star_plain hp2.1 _) (stars_plain hp2.2 _ _)) ?_
  rintro σ H Q ⟨S, ρ, M, rfl, er, mr, hr⟩
  refine tS_step er mr hr fun S1 x M1 v e1 x1 m1 er1 r1 h1 => ?_
  have hlen := hl _ _ _ _ e1
  exact ⟨S1, x ++ dfl, M1, rfl, m1, r1.append (hdf S1), by rw [List.length_append]; exact hlen, by rw [hF _ _ hlen]; exact h1⟩
theorem e_call0 {k : Nat} {fa : Addr} {fd : FuncData} {ps : List Str} {F : Fn} {n np : Nat} {x : Str} {p : Pos} {ds : List Value} {dvs : List V} {dfl : List D}
    (Fo : FnOk X.prog X.w X.K X.mg X.base (L2.CX X.prog X.w) k fa fd ps (spF X.K xi F n np)) (hr : Room k X.A) (hg : Gl X x) (hm : X.mg x = some (.ref fa)) (hk : PySem.W.keepIn X.K (.ref fa) = true) (hb : Binds X.K fd ps ds) (hd : Vals dvs ds)
    (tk : Takes X W) (hdb : (x == ("__debug__" : Str)) = false) (hdf : ∀ S, Reps X.K S dfl dvs) (hl : dfl.length = np) (hF : ∀ vs M, vs.length + dfl.length = np → F n (vs ++ dfl) M = F n vs M) :
    PE X (.Call (.Name x p) [] [] pos) (TD X xi (fun ρ M => F n [] M) W) := by
  refine ⟨fun pins s σ H Q I h => ?_⟩
  refine wpAny_Call_Name_kw (ld_glob I hg hm ?_ hdb)
  obtain ⟨S, ρ, M, rfl, er, mr, hr2⟩ := h
  refine PySem.W.callWith_K0 I.kIn hk (run_fnSD (E := WE W) (us := []) Fo hr hb hd (passAt tk σ) I .nil ?_)
  exact ⟨S, dfl, M, rfl, mr, hdf S, hl, by have q := hF [] M (by simpa using hl); rw [List.nil_append] at q; rw [q]; exact hr2⟩
end
end Pv

set_option Elab.async false
set_option linter.all false
set_option maxRecDepth 100000
set_option maxHeartbeats 4000000
/-! Pv, part L: targets, list comprehensions. -/
namespace Pv
open PySem PySem.Spec PyProof.Rows L2
mutual
def Tg.names : Tg → List Nat
  | .name i => [i]
  | .tup ts => Tg.namess ts
def Tg.namess : List Tg → List Nat
  | [] => []
  | t :: ts => Tg.names t ++ Tg.namess ts
end
/-- the slots but those are kept -/
def Same (ns : List Nat) (σ σ' : L2.St) : Prop := σ'.length = σ.length ∧ ∀ j, j ∉ ns → σ'[j]? = σ[j]?
theorem Same.refl {σ : L2.St} : Same [] σ σ := ⟨rfl, fun _ _ => rfl⟩
theorem Same.trans {a b : List Nat} {σ σ' σ2 : L2.St} (h : Same a σ σ') (g : Same b σ' σ2) : Same (a ++ b) σ σ2 := ⟨g.1.trans h.1, fun j hj => by
  rw [List.mem_append] at hj
  rw [g.2 j fun q => hj (.inr q), h.2 j fun q => hj (.inl q)]⟩
theorem Same.set {σ : L2.St} {i : Nat} {v : Option V} : Same [i] σ (σ.set i v) := ⟨List.length_set, fun j hj => List.getElem?_set_ne fun q => hj (by simp [q])⟩
theorem wipe_get : ∀ (σ : L2.St) (vs : List Nat) (j : Nat), (L2.wipe σ vs)[j]? = if j ∈ vs ∧ j < σ.length then some none else σ[j]?
  | σ, [], j => by simp [L2.wipe]
  | σ, v :: vs, j => by
    rw [L2.wipe]
    by_cases hv : v = j
    · subst hv
      by_cases hl : v < σ.length
      · rw [List.getElem?_set_self (by rw [wipe_length]; exact hl), if_pos ⟨by simp, hl⟩]
      · rw [if_neg (fun q => hl q.2), List.getElem?_eq_none (by rw [List.length_set, wipe_length]; omega), List.getElem?_eq_none (by omega)]
    · rw [List.getElem?_set_ne hv, wipe_get σ vs j]
      have : (j ∈ v :: vs) ↔ j ∈ vs := by
        rw [List.mem_cons]
        exact ⟨fun q => q.elim (fun z => absurd z.symm hv) id, .inr⟩
      simp [this]
theorem wipe_same {σ σ' : L2.St} {ns vs : List Nat} (h : Same ns (L2.wipe σ vs) σ') (hs : ∀ i ∈ ns, i ∈ vs) : L2.wipe σ' vs = L2.wipe σ vs := by
  apply List.ext_getElem?
  intro j
  have hl : σ'.length = σ.length := by rw [h.1, wipe_length]
  rw [wipe_get, hl, wipe_get]
  by_cases hj : j ∈ vs ∧ j < σ.length
  · rw [if_pos hj, if_pos hj]
  · rw [if_neg hj, if_neg hj]
    by_cases hn : j ∈ ns
    · have hlt : ¬ j < σ.length := fun q => hj ⟨hs j hn, q⟩
      rw [List.getElem?_eq_none (by omega), List.getElem?_eq_none (by omega)]
    · rw [h.2 j hn, wipe_get, if_neg hj]
/-- a target's reading -/
def gR (K : PySem.W.Frag) (t : Tg) : TG := fun v σ H Q => ∃ S d ρ ρ' M, S.H = H ∧ EnvRel K S ρ σ ∧ MemRel K S M ∧ Rep K S d v ∧ asgT t d ρ = some ρ' ∧ ∀ σ', EnvRel K S ρ' σ' → Same t.names σ σ' → Q σ' H
def gRs (K : PySem.W.Frag) (ts : List Tg) : TGs := fun vs σ H Q => ∃ S ds ρ ρ' M, S.H = H ∧ EnvRel K S ρ σ ∧ MemRel K S M ∧ Reps K S ds vs ∧ asgTs ts ds ρ = some ρ' ∧ ∀ σ', EnvRel K S ρ' σ' → Same (Tg.namess ts) σ σ' → Q σ' H
theorem PG.weak {X : Cx} {e : Expr} {t t' : TG} (h : PG X e t) (k : ∀ v σ H Q, t' v σ H Q → t v σ H Q) : PG X e t' := ⟨fun pins s σ H v u Q I r q => h.run pins s σ H v u Q I r (k v σ H Q q)⟩
theorem PGs.weak {X : Cx} {e : List Expr} {t t' : TGs} (h : PGs X e t) (k : ∀ v σ H Q, t' v σ H Q → t v σ H Q) : PGs X e t' := ⟨fun pins s σ H v u Q I r q => h.run pins s σ H v u Q I r (k v σ H Q q)⟩
section
variable {X : Cx} {xi : XTab} {W : L2.WX} {pos : Pos}
theorem g_name {i : Nat} {x : Str} (hN : X.N.Nodup) (hi : X.N[i]? = some x) (hx : Loc X.env.scope x) (hf : X.fn x = true ∨ X.env.scope.names.lookup x = some .local) : PG X (.Name x pos) (gR X.K (.name i)) := by
  refine PG.weak (pg_name hN hi hx hf) ?_
  rintro v σ H Q ⟨S, d, ρ, ρ', M, rfl, er, mr, r, e, q⟩
  simp only [asgT] at e
  split at e
  · cases e
    exact q _ (er.set i r) Same.set
  · cases e
theorem gs_nil : PGs X [] (gRs X.K []) := by
  refine PGs.weak pgs_nil ?_
  rintro v σ H Q ⟨S, d, ρ, ρ', M, rfl, er, mr, r, e, q⟩
  cases d with
  | nil =>
    cases r
    simp only [asgTs, Option.some.injEq] at e
    subst e
    exact ⟨rfl, q _ er Same.refl⟩
  | cons => simp [asgTs] at e
theorem gs_cons {e : Expr} {es : List Expr} {t : Tg} {ts : List Tg} (he : PG X e (gR X.K t)) (hes : PGs X es (gRs X.K ts)) (hp : plainE e = true) : PGs X (e :: es) (gRs X.K (t :: ts)) := by
  refine PGs.weak (pgs_cons he hes (by cases e <;> first | rfl | (simp [plainE] at hp))) ?_
  rintro v σ H Q ⟨S, d, ρ, ρ', M, rfl, er, mr, r, e, q⟩
  cases d with
  | nil => simp [asgTs] at e
  | cons d ds =>
    simp only [asgTs] at e
    split at e
    · rename_i ρ1 e1
      cases r with
      | cons r1 r2 =>
        refine ⟨_, _, rfl, S, d, ρ, ρ1, M, rfl, er, mr, r1, e1, fun σ1 er1 s1 => ?_⟩
        exact ⟨S, ds, ρ1, ρ', M, rfl, er1, mr, r2, e, fun σ2 er2 s2 => q _ er2 (s1.trans s2)⟩
    · cases e
theorem each_plain {es : List Expr} {env : PySem.Env} (h : es.all plainE = true) : (assignEach es env).length = es.length ∧ (assignEach es env).findIdx? (·.1) = none := by
  induction es with
  | nil => exact ⟨rfl, rfl⟩
  | cons e es ih =>
    have h2 : plainE e = true ∧ es.all plainE = true := by simpa using h
    obtain ⟨i1, i2⟩ := ih h2.2
    have e1 : assignEach (e :: es) env = (false, assign e env) :: assignEach es env := by
      cases e <;> first | rfl | (simp [plainE] at h2)
    rw [e1]
    refine ⟨by simp [i1], ?_⟩
    rw [List.findIdx?_cons, i2]
    rfl
theorem asgTs_len : ∀ {ts : List Tg} {ds : List D} {ρ ρ' : Env}, asgTs ts ds ρ = some ρ' → ds.length = ts.length
  | [], [], _, _, _ => rfl
  | [], _ :: _, _, _, h => by simp [asgTs] at h
  | _ :: _, [], _, _, h => by simp [asgTs] at h
  | t :: ts, d :: ds, ρ, ρ', h => by
    simp only [asgTs] at h
    split at h
    · simp [asgTs_len h]
    · cases h
theorem g_tup {es : List Expr} {k : Nat} {ts : List Tg} (hc : X.calm = true) (h : PGs X es (gRs X.K ts)) (hp : es.all plainE = true) (hl : es.length = ts.length) : PG X (.Tuple es k pos) (gR X.K (.tup ts)) := by
  refine PG.weak (pg_tup hc h rfl (each_plain hp).2) ?_
  rintro v σ H Q ⟨S, d, ρ, ρ', M, rfl, er, mr, r, e, q⟩
  cases d with
  | tup ds =>
    cases r with
    | tup h1 h2 =>
      have e2 : asgTs ts ds ρ = some ρ' := by simpa [asgT] using e
      exact ⟨_, _, rfl, h1.sq, by rw [(each_plain hp).1, ← h2.length, asgTs_len e2, hl], S, ds, ρ, ρ', M, rfl, er, mr, h2, e2, q⟩
  | _ => simp [asgT] at e
end
section
variable {X : Cx} {xi : XTab} {W : L2.WX} {pos : Pos}
abbrev W0 : L2.WX := fun _ _ _ _ => False
/-- one turn of a comprehension -/
def cTurn (own : List Nat) (t : Tg) (ft : Env → Mem → Res Bool) (fe : Env → Mem → Res D) (ρ : Env) : D → Mem → Res (Option D) := fun d M => match asgT t d (wipeD ρ own) with
  | some ρ1 => (ft ρ1 M).bind fun b M2 => if b then (fe ρ1 M2).bind fun y M3 => .ok (some y) M3 else .ok none M2
  | none => .bad
theorem Ext.of {S S' : Sw} (m : ∃ t, S'.m = S.m ++ t) (z : S'.z = S.z) (k : ∀ b o, S.H b = some o → b ∉ S.m → S'.H b = some o ∧ b ∉ S'.m) : Ext S S' := ⟨m, z, k⟩
/-- behind a comprehension's last turn -/
def Post (K : PySem.W.Frag) (xi : XTab) (post : List D → Mem → Res D) : Prop := ∀ (S1 S' : Sw) (M' : Mem) (L : Addr) (acc : List D) (vs : List V) (Q : VK) (Wx : Sw → XW), S1.H L = none → L ∉ S1.z → S'.z = L :: S1.z → (∃ t, S'.m = S1.m ++ t) →
  (∀ b o, S1.H b = some o → b ∉ S1.m → S'.H b = some o ∧ b ∉ S'.m) → MemRel K S' M' → S'.H L = some (.lst vs) → Reps K S' acc vs → Run K xi (Rep K) S1 (post acc M') Q Wx → Q (.ref L) S'.H
theorem post_lst {K : PySem.W.Frag} : Post K xi fun ys M => .ok (.lst ys) M := by
  intro S1 S' M' L acc vs Q Wx hn hnz hz hm hk m hL rs hr
  have x : Ext S1 { S' with z := S1.z } := ⟨hm, rfl, hk⟩
  have hLz := (m.zd L (by rw [hz]; exact List.mem_cons_self)).1
  have r : Rep K { S' with z := S1.z } (.lst acc) (.ref L) := .lst ⟨hL, hLz, hnz⟩ (Reps.tr (Tr.pop hz) _ rs)
  exact hr.ok' (S' := { S' with z := S1.z }) x (m.pop hz) r
theorem post_cell {K : PySem.W.Frag} : Post K xi fun ys M => .ok (.loc M.length) (M ++ [.lst ys]) := by
  intro S1 S' M' L acc vs Q Wx hn hnz hz hm hk m hL rs hr
  have hLz := (m.zd L (by rw [hz]; exact List.mem_cons_self)).1
  have tr : Tr S' { S' with m := S'.m ++ [L], z := S1.z } := ⟨⟨[L], rfl⟩, fun b o e n z => ⟨e, fun q => by
    rcases List.mem_append.mp q with q | q
    · exact n q
    · exact z (by rw [hz, List.mem_singleton.mp q]; exact List.mem_cons_self), fun q => z (by rw [hz]; exact List.mem_cons_of_mem _ q)⟩⟩
  have x : Ext S1 { S' with m := S'.m ++ [L], z := S1.z } := by
    obtain ⟨t, ht⟩ := hm
    refine ⟨⟨t ++ [L], by show S'.m ++ [L] = _; rw [ht, List.append_assoc]⟩, rfl, fun b o e n => ⟨(hk b o e n).1, fun q => ?_⟩⟩
    rcases List.mem_append.mp q with q | q
    · exact (hk b o e n).2 q
    · rw [List.mem_singleton.mp q, hn] at e
      cases e
  have m2 : MemRel K { S' with m := S'.m ++ [L], z := S1.z } (M' ++ [.lst acc]) := by
    refine ⟨by simp [m.len], ?_, fun b hb => ?_, fun i d e => ?_⟩
    · show (S'.m ++ [L]).Nodup
      rw [List.nodup_append]
      exact ⟨m.nd, by simp, fun x hx y hy => by
        have : y = L := by simpa using hy
        subst this
        exact fun q => hLz (by rw [← q]; exact hx)⟩
    · have hb1 : b ∈ S1.z := hb
      obtain ⟨h1, h2⟩ := m.zd b (by rw [hz]; exact List.mem_cons_of_mem _ hb1)
      refine ⟨?_, h2⟩
      show b ∉ S'.m ++ [L]
      rw [List.mem_append, List.mem_singleton]
      exact fun q => q.elim h1 fun q => hnz (by rw [← q]; exact hb1)
    · by_cases hi : i < M'.length
      · rw [List.getElem?_append_left hi] at e
        obtain ⟨b, e1, c1⟩ := m.at_ i d e
        refine ⟨b, ?_, c1.tr tr rfl⟩
        show (S'.m ++ [L])[i]? = _
        rw [List.getElem?_append_left (by rw [m.len]; exact hi)]
        exact e1
      · have hi2 : i = M'.length := by
          have := (List.getElem?_eq_some_iff.mp e).1
          simp at this
          omega
        subst hi2
        rw [List.getElem?_append_right (Nat.le_refl _)] at e
        have e3 : Cell.lst acc = d := by simpa using e
        subst e3
        refine ⟨L, ?_, .lst hL (Reps.tr tr _ rs)⟩
        show (S'.m ++ [L])[M'.length]? = _
        rw [← m.len, List.getElem?_append_right (Nat.le_refl _)]
        simp
  refine hr.ok' (S' := { S' with m := S'.m ++ [L], z := S1.z }) x m2 (.loc ?_)
  show (S'.m ++ [L])[M'.length]? = _
  rw [← m.len, List.getElem?_append_right (Nat.le_refl _)]
  simp
theorem lc_reading {own : List Nat} {t : Tg} {k : ItK} {fs : Env → Mem → Res (List D)} {ft : Env → Mem → Res Bool} {fe : Env → Mem → Res D} {post : List D → Mem → Res D} (hown : ∀ i ∈ t.names, i ∈ own) (hp : Post X.K xi post) {σ : L2.St} {H : Hp} {Q : VK}
    (h : tS X.K xi (Rep X.K) (fun ρ M => (fs ρ M).bind fun ds M1 => match itS M1 k ds with
      | some it => if it.ds.length ≤ line then (evC it.gd (cTurn own t ft fe ρ) it.ds [] M1).bind post else .bad
      | none => .bad) W σ H Q) :
    tLc (tIt X.K xi k fs W) (gR X.K t) (TB X xi ft W0) (TD X xi fe W0) own σ H Q := by
  obtain ⟨S, ρ, M, rfl, er, mr, hr⟩ := h
  dsimp only at hr
  have hr2 : Run X.K xi (Rep X.K) S (((fs ρ M).bind fun ds M1 => .opt (itS M1 k ds) M1).bind fun it M1 => if it.ds.length ≤ line then (evC it.gd (cTurn own t ft fe ρ) it.ds [] M1).bind post else .bad) Q fun _ c d H => W c d σ H := by
    cases e : fs ρ M with
    | ok ds M1 =>
      rw [e] at hr
      cases e2 : itS M1 k ds with
      | some it =>
        have hr : Run X.K xi (Rep X.K) S (match itS M1 k ds with
          | some it => if it.ds.length ≤ line then (evC it.gd (cTurn own t ft fe ρ) it.ds [] M1).bind post else .bad
          | none => .bad) Q _ := hr
        rw [e2] at hr
        show Run _ _ _ _ ((Res.opt (itS M1 k ds) M1).bind _) _ _
        rw [e2]
        exact hr
      | none =>
        have hr : Run X.K xi (Rep X.K) S (match itS M1 k ds with
          | some it => if it.ds.length ≤ line then (evC it.gd (cTurn own t ft fe ρ) it.ds [] M1).bind post else .bad
          | none => .bad) Q _ := hr
        rw [e2] at hr
        exact hr.elim
    | exc x vs M1 => rw [e] at hr; exact hr
    | bad => rw [e] at hr; exact hr
  refine tS_step (f := fun ρ M => (fs ρ M).bind fun ds M1 => .opt (itS M1 k ds) M1) er mr hr2 fun S1 it M1 J e1 x1 m1 er1 hJ h1 => ?_
  intro L hL
  split at h1
  · rename_i hline
    let Wv : Nat → Nat → Hp → Prop := fun i n H => ∃ (S' : Sw) (M' : Mem) (acc : List D) (vs : List V), S'.H = H ∧ n = it.ds.length - i ∧ i ≤ it.ds.length ∧ S'.z = L :: S1.z ∧ (∃ t, S'.m = S1.m ++ t) ∧
      (∀ b o, S1.H b = some o → b ∉ S1.m → S'.H b = some o ∧ b ∉ S'.m) ∧ MemRel X.K S' M' ∧ S'.H L = some (.lst vs) ∧ Reps X.K S' acc vs ∧ acc.length ≤ i ∧
      Run X.K xi (Rep X.K) S1 ((evC it.gd (cTurn own t ft fe ρ) (it.ds.drop i) acc M').bind post) Q fun _ c d H => W c d σ H
    refine ⟨Wv, ⟨it.ds.length, { S1 with z := L :: S1.z, H := upd S1.H L (.lst []) }, M1, [], [], rfl, rfl, Nat.zero_le _, rfl, ⟨[], by simp⟩, fun b o e n => ⟨?_, n⟩, m1.push hL, upd_same, .nil, Nat.zero_le _, h1⟩, ?_⟩
    · show upd S1.H L _ b = _
      rw [upd_ne (ne_of_none e hL)]
      exact e
    rintro i n H ⟨S', M', acc, vs, rfl, rfl, hi, hz, hm, hk, m', hLv, rs, hla, hrun⟩
    have tr1 : Tr S1 S' := ⟨hm, fun b o e n z => ⟨(hk b o e n).1, (hk b o e n).2, by
      rw [hz]
      intro q
      rcases List.mem_cons.mp q with q | q
      · rw [q, hL] at e; cases e
      · exact z q⟩⟩
    have hol : holds M' it.gd = true := by
      cases q : holds M' it.gd with
      | true => rfl
      | false =>
        exfalso
        cases ed : it.ds.drop i with
        | nil => rw [ed] at hrun; simp only [evC, q] at hrun; exact hrun
        | cons d ds => rw [ed] at hrun; simp only [evC, q] at hrun; exact hrun
    obtain ⟨ig, is⟩ := hJ S' M' tr1 m' hol i
    by_cases hlt : i < it.ds.length
    · right
      have hd : it.ds[i]? = some it.ds[i] := List.getElem?_eq_getElem hlt
      obtain ⟨go, yl⟩ := ig _ hd
      have edrop : it.ds.drop i = it.ds[i] :: it.ds.drop (i + 1) := List.drop_eq_getElem_cons hlt
      rw [edrop] at hrun
      simp only [evC, hol, if_true] at hrun
      refine ⟨go, fun H => Wv (i + 1) (it.ds.length - (i + 1)) H, fun H' w => ⟨_, by omega, w⟩, fun x H' hy => ?_⟩
      obtain ⟨S2, rfl, x2, m2, rx⟩ := yl x H' hy
      cases ea : asgT t it.ds[i] (wipeD ρ own) with
      | none =>
        exfalso
        have : cTurn own t ft fe ρ it.ds[i] M' = .bad := by unfold cTurn; rw [ea]
        rw [this] at hrun
        exact hrun
      | some ρ1 =>
        refine ⟨S2, it.ds[i], wipeD ρ own, ρ1, M', rfl, ((er1.tr tr1).mo x2).wipe own, m2, rx, ea, fun σ2 er2 sm => ⟨wipe_same sm hown, ?_⟩⟩
        have ec : cTurn own t ft fe ρ it.ds[i] M' = (ft ρ1 M').bind fun b M2 => if b then (fe ρ1 M2).bind fun y M3 => .ok (some y) M3 else .ok none M2 := by unfold cTurn; rw [ea]
        rw [ec] at hrun
        refine ⟨S2, ρ1, M', rfl, er2, m2, ?_⟩
        cases et : ft ρ1 M' with
        | bad => rw [et] at hrun; exact hrun.elim
        | exc y ws M3 => rw [et] at hrun; exact hrun.elim
        | ok b M3 =>
          rw [et] at hrun
          intro S3 b' x3 m3 eb
          cases eb
          have hkeep : ∀ {S4 : Sw}, Ext S' S4 → S4.z = L :: S1.z ∧ (∃ t, S4.m = S1.m ++ t) ∧ (∀ b o, S1.H b = some o → b ∉ S1.m → S4.H b = some o ∧ b ∉ S4.m) ∧ S4.H L = some (.lst vs) ∧ Reps X.K S4 acc vs := fun x4 => by
            obtain ⟨t1, h1⟩ := hm
            obtain ⟨t2, h2⟩ := x4.m
            refine ⟨by rw [x4.z, hz], ⟨t1 ++ t2, by rw [h2, h1, List.append_assoc]⟩, fun b o e n => x4.keep b o (hk b o e n).1 (hk b o e n).2, (x4.keep L _ hLv (m'.zd L (by rw [hz]; exact List.mem_cons_self)).1).1, rs.mo x4⟩
          cases b with
          | false =>
            rw [if_neg Bool.false_ne_true]
            obtain ⟨k1, k2, k3, k4, k5⟩ := hkeep (x2.trans x3)
            exact ⟨S3, M3, acc, vs, rfl, rfl, hlt, k1, k2, k3, m3, k4, k5, by omega, hrun⟩
          | true =>
            rw [if_pos rfl]
            refine ⟨S3, ρ1, M3, rfl, er2.mo x3, m3, ?_⟩
            simp only [Res.bind, if_true] at hrun
            cases ee : fe ρ1 M3 with
            | bad => rw [ee] at hrun; exact hrun.elim
            | exc y ws M4 => rw [ee] at hrun; exact hrun.elim
            | ok y M4 =>
              rw [ee] at hrun
              intro S4 w x4 m4 ry
              obtain ⟨k1, k2, k3, k4, k5⟩ := hkeep ((x2.trans x3).trans x4)
              have hLz : L ∈ S4.z := by rw [k1]; exact List.mem_cons_self
              refine ⟨vs, k4, by rw [← line_eq, ← rs.length]; omega, { S4 with H := upd S4.H L (.lst (vs ++ [w])) }, M4, acc ++ [y], vs ++ [w], rfl, rfl, hlt, k1, k2, fun b o e n => ?_, m4.make hLz, upd_same, ?_, by rw [List.length_append]; simp; omega, hrun⟩
              · refine ⟨?_, (k3 b o e n).2⟩
                show upd S4.H L _ b = _
                rw [upd_ne (ne_of_none e hL)]
                exact (k3 b o e n).1
              · exact (Reps.tr (Tr.make hLz) _ k5).append (.cons (Rep.tr (Tr.make hLz) _ ry) .nil)
    · left
      have e2 : it.ds.length = i := by omega
      refine ⟨is e2, ?_⟩
      rw [List.drop_eq_nil_of_le (by omega)] at hrun
      simp only [evC, hol, if_true, Res.bind] at hrun
      exact hp S1 S' M' L acc vs Q _ hL (notIn_new m1 hL).2 hz hm hk m' hLv rs hrun
  · exact h1.elim
end
end Pv

set_option Elab.async false
set_option linter.all false
set_option maxRecDepth 100000
set_option maxHeartbeats 4000000
/-! Pv, part M: blocks as expressions; statements. -/
namespace Pv
open PySem PySem.Spec PyProof.Rows L2
section
variable {X : Cx} {xi : XTab} {W : L2.WX} {pos : Pos}
theorem e_lc {elt tg iter : Expr} {ifs : List Expr} {scope : Scope} {own : List (Str × Nat)} {t : Tg} {k : ItK} {fs : Env → Mem → Res (List D)} {ft : Env → Mem → Res Bool} {fe : Env → Mem → Res D} {post : List D → Mem → Res D} (hc : X.calm = true) (hN : X.N.Nodup) (hi : PI X tg iter (tIt X.K xi k fs W)) (ok : BlkOk X.N X.env.scope scope own)
    (hg : ∀ (s : Shared) (H : Hp) (C : Addr) (cl : List (Str × Addr)) (fp : List Addr), PG (X.blk s H scope (compEnvC scope cl C X.env) fp) tg (gR X.K t)) (ht : ∀ (s : Shared) (H : Hp) (C : Addr) (cl : List (Str × Addr)) (fp : List Addr), PTs (X.blk s H scope (compEnvC scope cl C X.env) fp) ifs (TB X xi ft W0))
    (he : ∀ (s : Shared) (H : Hp) (C : Addr) (cl : List (Str × Addr)) (fp : List Addr), PE (X.blk s H scope (compEnvC scope cl C X.env) fp) elt (TD X xi fe W0)) (hp : plainE iter = true) (hown : ∀ i ∈ t.names, i ∈ own.map (·.2)) (hpost : Post X.K xi post) :
    PE X (.ListComp elt [⟨tg, iter, ifs, 0⟩] scope pos) (TD X xi (fun ρ M => (fs ρ M).bind fun ds M1 => match itS M1 k ds with
      | some it => if it.ds.length ≤ line then (evC it.gd (cTurn (own.map (·.2)) t ft fe ρ) it.ds [] M1).bind post else .bad
      | none => .bad) W) :=
  PE.weak (pe_lc hc hN hi ok hg ht he (fold_plain hp _)) fun σ H Q h => lc_reading hown hpost h
/-! ### statements -/
def RunS (K : PySem.W.Frag) (xi : XTab) (S : Sw) (r : RS) (D : Ends) (W : L2.WX) : Prop := match r with
  | .nx ρ M => ∀ S' σ', Ext S S' → EnvRel K S' ρ σ' → MemRel K S' M → D.nx σ' S'.H
  | .brk ρ M => ∀ S' σ', Ext S S' → EnvRel K S' ρ σ' → MemRel K S' M → D.bk σ' S'.H
  | .cnt ρ M => ∀ S' σ', Ext S S' → EnvRel K S' ρ σ' → MemRel K S' M → D.ct σ' S'.H
  | .ret d M => ∀ S' v, Ext S S' → MemRel K S' M → Rep K S' d v → D.rt v S'.H
  | .exc x vs ρ M => ∀ S' σ' cls dx, Ext S S' → EnvRel K S' ρ σ' → MemRel K S' M → XRep K xi S' x vs cls dx → W cls dx σ' S'.H
  | .bad => False
def tSt (K : PySem.W.Frag) (xi : XTab) (f : Env → Mem → RS) (W : L2.WX) : TS := fun D σ H => ∃ S ρ M, S.H = H ∧ EnvRel K S ρ σ ∧ MemRel K S M ∧ RunS K xi S (f ρ M) D W
abbrev TSt (X : Cx) (xi : XTab) (f : Env → Mem → RS) (W : L2.WX) : TS := tSt X.K xi f W
theorem RunS.mo {K : PySem.W.Frag} {S S' : Sw} {r : RS} {D : Ends} (x : Ext S S') (h : RunS K xi S r D W) : RunS K xi S' r D W := by
  cases r with
  | nx ρ M => exact fun S2 σ e => h S2 σ (x.trans e)
  | brk ρ M => exact fun S2 σ e => h S2 σ (x.trans e)
  | cnt ρ M => exact fun S2 σ e => h S2 σ (x.trans e)
  | ret d M => exact fun S2 σ e => h S2 σ (x.trans e)
  | exc y vs ρ M => exact fun S2 σ c d e => h S2 σ c d (x.trans e)
  | bad => exact h
/-- an expression within a statement -/
theorem sS_step {α ν : Type} {K : PySem.W.Frag} {R : Sw → α → ν → Prop} {f : Env → Mem → Res α} {k : α → Mem → RS} {S : Sw} {ρ : Env} {M : Mem} {σ : L2.St} {D : Ends} {Q' : ν → Hp → Prop}
    (er : EnvRel K S ρ σ) (mr : MemRel K S M) (hr : RunS K xi S ((f ρ M).toRS ρ k) D W)
    (n : ∀ (S1 : Sw) (a : α) (M1 : Mem) (x : ν), f ρ M = .ok a M1 → Ext S S1 → MemRel K S1 M1 → EnvRel K S1 ρ σ → R S1 a x → RunS K xi S1 (k a M1) D W → Q' x S1.H) :
    tS K xi R f W σ S.H Q' := by
  refine ⟨S, ρ, M, rfl, er, mr, ?_⟩
  cases e : f ρ M with
  | bad => rw [e] at hr; exact hr
  | exc x vs M1 => rw [e] at hr; exact fun S' c d x1 m1 hx => hr S' σ c d x1 (er.mo x1) m1 hx
  | ok a M1 => rw [e] at hr; exact fun S' v x1 m1 r1 => n S' a M1 v e x1 m1 (er.mo x1) r1 (RunS.mo x1 hr)
theorem tSt_mono {K : PySem.W.Frag} {f : Env → Mem → RS} {S : Sw} {ρ : Env} {M : Mem} {σ : L2.St} {D : Ends} (er : EnvRel K S ρ σ) (mr : MemRel K S M) (hr : RunS K xi S (f ρ M) D W) : tSt K xi f W D σ S.H := ⟨S, ρ, M, rfl, er, mr, hr⟩
theorem s_never {st : Stmt} : PS X st (TSt X xi (fun _ _ => .bad) W) := ⟨fun _ _ _ _ _ _ ⟨_, _, _, _, _, _, h⟩ => h.elim⟩
theorem ss_nil : PSs X [] (TSt X xi (fun ρ M => .nx ρ M) W) := by
  refine PSs.weak pss_nil ?_
  rintro D σ H ⟨S, ρ, M, rfl, er, mr, hr⟩
  exact hr S σ (Ext.refl S) er mr
theorem ss_cons {st : Stmt} {rest : List Stmt} {f g : Env → Mem → RS} (h1 : PS X st (TSt X xi f W)) (h2 : PSs X rest (TSt X xi g W)) :
    PSs X (st :: rest) (TSt X xi (fun ρ M => match f ρ M with | .nx ρ' M' => g ρ' M' | r => r) W) := by
  refine PSs.weak (pss_cons h1 h2) ?_
  rintro D σ H ⟨S, ρ, M, rfl, er, mr, hr⟩
  refine ⟨S, ρ, M, rfl, er, mr, ?_⟩
  dsimp only at hr
  cases e : f ρ M with
  | nx ρ' M' => rw [e] at hr; exact fun S' σ' x1 er1 m1 => ⟨S', ρ', M', rfl, er1, m1, RunS.mo x1 hr⟩
  | brk ρ' M' => rw [e] at hr; exact hr
  | cnt ρ' M' => rw [e] at hr; exact hr
  | ret d M' => rw [e] at hr; exact hr
  | exc y vs ρ' M' => rw [e] at hr; exact hr
  | bad => rw [e] at hr; exact hr
theorem s_pass : PS X (.Pass pos) (TSt X xi (fun ρ M => .nx ρ M) W) := by
  refine PS.weak ps_pass ?_
  rintro D σ H ⟨S, ρ, M, rfl, er, mr, hr⟩
  exact hr S σ (Ext.refl S) er mr
theorem s_brk : PS X (.Break pos) (TSt X xi (fun ρ M => .brk ρ M) W) := by
  refine PS.weak ps_break ?_
  rintro D σ H ⟨S, ρ, M, rfl, er, mr, hr⟩
  exact hr S σ (Ext.refl S) er mr
theorem s_cnt : PS X (.Continue pos) (TSt X xi (fun ρ M => .cnt ρ M) W) := by
  refine PS.weak ps_continue ?_
  rintro D σ H ⟨S, ρ, M, rfl, er, mr, hr⟩
  exact hr S σ (Ext.refl S) er mr
theorem s_expr {e : Expr} {f : Env → Mem → Res D} (he : PE X e (TD X xi f W)) (hs : swapsWith e none pos.line X.env = pure false) : PS X (.Expr e pos) (TSt X xi (fun ρ M => (f ρ M).toRS ρ fun _ M1 => .nx ρ M1) W) := by
  refine PS.weak (ps_expr he hs) ?_
  rintro D σ H ⟨S, ρ, M, rfl, er, mr, hr⟩
  exact sS_step er mr hr fun S1 x M1 v e1 x1 m1 er1 r1 h1 => h1 S1 σ (Ext.refl S1) er1 m1
theorem s_ret {e : Expr} {f : Env → Mem → Res D} (he : PE X e (TD X xi f W)) : PS X (.Return (some e) pos) (TSt X xi (fun ρ M => (f ρ M).toRS ρ fun d M1 => .ret d M1) W) := by
  refine PS.weak (ps_ret he) ?_
  rintro D σ H ⟨S, ρ, M, rfl, er, mr, hr⟩
  exact sS_step er mr hr fun S1 x M1 v e1 x1 m1 er1 r1 h1 => h1 S1 v (Ext.refl S1) m1 r1
theorem s_retN : PS X (.Return none pos) (TSt X xi (fun ρ M => .ret .non M) W) := by
  refine PS.weak ps_retN ?_
  rintro D σ H ⟨S, ρ, M, rfl, er, mr, hr⟩
  exact hr S .non (Ext.refl S) mr .non
theorem s_if {c : Expr} {a b : List Stmt} {t : Env → Mem → Res Bool} {f g : Env → Mem → RS} (hc : PT X c (TB X xi t W)) (ha : PSs X a (TSt X xi f W)) (hb : PSs X b (TSt X xi g W)) :
    PS X (.If c a b pos) (TSt X xi (fun ρ M => (t ρ M).toRS ρ fun k M1 => if k then f ρ M1 else g ρ M1) W) := by
  refine PS.weak (ps_if hc ha hb) ?_
  rintro D σ H ⟨S, ρ, M, rfl, er, mr, hr⟩
  refine sS_step er mr hr fun S1 x M1 v e1 x1 m1 er1 r1 h1 => ?_
  cases r1
  cases x with
  | true => exact tSt_mono er1 m1 h1
  | false => exact tSt_mono er1 m1 h1
theorem asg_at {K : PySem.W.Frag} {t : Tg} {S : Sw} {d : D} {v : V} {ρ : Env} {M : Mem} {σ : L2.St} {D : Ends} (er : EnvRel K S ρ σ) (mr : MemRel K S M) (r : Rep K S d v) (h : RunS K xi S (match asgT t d ρ with | some ρ' => .nx ρ' M | none => .bad) D W) : gR K t v σ S.H D.nx := by
  split at h
  · rename_i ρ' e
    exact ⟨S, d, ρ, ρ', M, rfl, er, mr, r, e, fun σ' er' _ => h S σ' (Ext.refl S) er' mr⟩
  · exact h.elim
theorem s_asg {tg e : Expr} {t : Tg} {f : Env → Mem → Res D} (he : PE X e (TD X xi f W)) (hg : PG X tg (gR X.K t)) (hs : swapsWithSole [tg] e pos.line X.env = pure false) (hw : swappedStores [tg] e X.env = pure none) (hp : plainE tg = true) :
    PS X (.Assign [tg] e pos) (TSt X xi (fun ρ M => (f ρ M).toRS ρ fun d M1 => match asgT t d ρ with | some ρ' => .nx ρ' M1 | none => .bad) W) := by
  refine PS.weak (ps_asg he hg hs hw (by cases tg <;> first | rfl | (simp [plainE] at hp))) ?_
  rintro D σ H ⟨S, ρ, M, rfl, er, mr, hr⟩
  exact sS_step er mr hr fun S1 x M1 v e1 x1 m1 er1 r1 h1 => asg_at er1 m1 r1 h1
/-- y = [..] -/
theorem s_setLc {i : Nat} {y : Str} {py spos : Pos} {elt tg iter : Expr} {ifs : List Expr} {scope : Scope} {own : List (Str × Nat)} {t : Tg} {k : ItK} {fs : Env → Mem → Res (List D)} {ft : Env → Mem → Res Bool} {fe : Env → Mem → Res D} {post : List D → Mem → Res D} (hc : X.calm = true) (hN : X.N.Nodup) (hy : X.N[i]? = some y) (hyl : X.env.scope.names.lookup y = some .local)
    (hsw : swapsWith (.ListComp elt [⟨tg, iter, ifs, 0⟩] scope pos) (some (.Name y py)) spos.line X.env = pure true) (hi : PI X tg iter (tIt X.K xi k fs W)) (ok : BlkOk X.N X.env.scope scope own)
    (hg : ∀ (s : Shared) (H : Hp) (C : Addr) (cl : List (Str × Addr)) (fp : List Addr), PG (X.blk s H scope (compEnvC scope cl C X.env) fp) tg (gR X.K t)) (ht : ∀ (s : Shared) (H : Hp) (C : Addr) (cl : List (Str × Addr)) (fp : List Addr), PTs (X.blk s H scope (compEnvC scope cl C X.env) fp) ifs (TB X xi ft W0))
    (he : ∀ (s : Shared) (H : Hp) (C : Addr) (cl : List (Str × Addr)) (fp : List Addr), PE (X.blk s H scope (compEnvC scope cl C X.env) fp) elt (TD X xi fe W0)) (hp : plainE iter = true) (hown : ∀ i ∈ t.names, i ∈ own.map (·.2)) (hpost : Post X.K xi post) :
    PS X (.Assign [.Name y py] (.ListComp elt [⟨tg, iter, ifs, 0⟩] scope pos) spos) (TSt X xi (fun ρ M => ((fs ρ M).bind fun ds M1 => match itS M1 k ds with
      | some it => if it.ds.length ≤ line then (evC it.gd (cTurn (own.map (·.2)) t ft fe ρ) it.ds [] M1).bind post else .bad
      | none => .bad).toRS ρ fun d M1 => match asgT (.name i) d ρ with | some ρ' => .nx ρ' M1 | none => .bad) W) := by
  refine PS.weak (ps_setLc hc hN hy hyl hsw hi ok hg ht he (fold_plain hp _)) ?_
  rintro D σ H ⟨S, ρ, M, rfl, er, mr, hr⟩
  refine lc_reading hown hpost (sS_step er mr hr fun S1 x M1 v e1 x1 m1 er1 r1 h1 => ?_)
  simp only [asgT] at h1
  split at h1
  · rename_i ρ' e
    split at e
    · cases e
      exact h1 S1 _ (Ext.refl S1) (er1.set i r1) m1
    · cases e
  · exact h1.elim
theorem s_par {i j : Nat} {x y : Str} {a b : Expr} {f g : Env → Mem → Res D} {px py pt : Pos} {kt k2 pt2} (hc : X.calm = true) (hN : X.N.Nodup) (hi : X.N[i]? = some x) (hj : X.N[j]? = some y) (hij : i ≠ j)
    (hx : X.env.scope.names.lookup x = some .local) (hy : X.env.scope.names.lookup y = some .local) (ha : PE X a (TD X xi f W)) (hb : PE X b (TD X xi g W)) (hp : [a, b].all plainE = true)
    (hw : swappedStores [.Tuple [.Name x px, .Name y py] kt pt] (.Tuple [a, b] k2 pt2) X.env = pure (some [x, y])) :
    PS X (.Assign [.Tuple [.Name x px, .Name y py] kt pt] (.Tuple [a, b] k2 pt2) pos) (TSt X xi (fun ρ M => (f ρ M).toRS ρ fun u M1 => (g ρ M1).toRS ρ fun v M2 => .nx ((ρ.set i (some u)).set j (some v)) M2) W) := by
  have hp2 : plainE a = true ∧ plainE b = true := by simpa using hp
  refine PS.weak (ps_par hc hN hi hj hij hx hy (pa_cons ha (pa_cons hb pa_nil (star_plain hp2.2 _)) (star_plain hp2.1 _)) hw) ?_
  rintro D σ H ⟨S, ρ, M, rfl, er, mr, hr⟩
  refine sS_step er mr hr fun S1 u M1 v e1 x1 m1 er1 r1 h1 => ?_
  refine sS_step er1 m1 h1 fun S2 u2 M2 v2 e2 x2 m2 er2 r2 h2 => ?_
  exact ⟨_, _, rfl, h2 S2 _ (Ext.refl S2) ((er2.set i (r1.mo x2)).set j r2) m2⟩
theorem s_setI (hu : X.A.units + 1 < cLine) {o i e : Expr} {tpos : Pos} {f g h : Env → Mem → Res D} (he : PE X e (TD X xi f W)) (ho : PE X o (TD X xi g W)) (hi : PE X i (TD X xi h W)) (hp : plainE i = true) (hs : swapsWithSole [.Subscript o i tpos] e pos.line X.env = pure false) (hw : swappedStores [.Subscript o i tpos] e X.env = pure none)  :
    PS X (.Assign [.Subscript o i tpos] e pos) (TSt X xi (fun ρ M => (f ρ M).toRS ρ fun v M1 => (g ρ M1).toRS ρ fun x M2 => (h ρ M2).toRS ρ fun y M3 => match setS x y v M3 with | some M4 => .nx ρ M4 | none => .bad) W) := by
  refine PS.weak (ps_asg he (pg_sub ho hi (set_any hu) (by intro v; cases i <;> first | rfl | (simp [plainE] at hp))) hs hw rfl) ?_
  rintro D σ H ⟨S, ρ, M, rfl, er, mr, hr⟩
  refine sS_step er mr hr fun S1 u M1 v e1 x1 m1 er1 r1 h1 => ?_
  refine sS_step er1 m1 h1 fun S2 u2 M2 v2 e2 x2 m2 er2 r2 h2 => ?_
  refine sS_step er2 m2 h2 fun S3 u3 M3 v3 e3 x3 m3 er3 r3 h3 => ?_
  split at h3
  · rename_i M4 e4
    exact setS_at m3 (r2.mo x3) r3 ((r1.mo x2).mo x3) e4 fun S' x4 m4 => h3 S' σ x4 (er3.mo x4) m4
  · exact h3.elim
theorem s_while {c : Expr} {body : List Stmt} {t : Env → Mem → Res Bool} {f : Env → Mem → RS} {n : Nat} (hp : PassesOwn (model X.prog X.w) X.A X.env X.xe) (hc : PT X c (TB X xi t W)) (hb : PSs X body (TSt X xi f W)) :
    PS X (.While c body [] pos) (TSt X xi (fun ρ M => evW t f n ρ M) W) := by
  refine PS.weak (ps_while hp hc hb) ?_
  rintro D σ H ⟨S, ρ, M, rfl, er, mr, hr⟩
  refine ⟨fun n σ H => ∃ S ρ M, S.H = H ∧ EnvRel X.K S ρ σ ∧ MemRel X.K S M ∧ RunS X.K xi S (evW t f n ρ M) D W, ⟨n, S, ρ, M, rfl, er, mr, hr⟩, ?_⟩
  rintro m σ1 H1 ⟨S1, ρ1, M1, rfl, er1, m1, h1⟩
  cases m with
  | zero => exact h1.elim
  | succ m =>
    simp only [evW] at h1
    refine ⟨S1, ρ1, M1, rfl, er1, m1, ?_⟩
    cases et : t ρ1 M1 with
    | bad => rw [et] at h1; exact h1.elim
    | exc y vs M2 => rw [et] at h1; exact fun S' c d x2 m2 hx => h1 S' σ1 c d x2 (er1.mo x2) m2 hx
    | ok b M2 =>
      rw [et] at h1
      intro S2 b' x2 m2 eb
      cases eb
      cases b with
      | false =>
        rw [if_neg Bool.false_ne_true]
        exact h1 S2 σ1 x2 (er1.mo x2) m2
      | true =>
        rw [if_pos rfl]
        refine ⟨fun σ' H' => ∃ S ρ M, S.H = H' ∧ EnvRel X.K S ρ σ' ∧ MemRel X.K S M ∧ RunS X.K xi S (evW t f m ρ M) D W, fun σ' H' w => ⟨m, Nat.lt_succ_self m, w⟩, S2, ρ1, M2, rfl, er1.mo x2, m2, ?_⟩
        have h1 := RunS.mo x2 h1
        cases ef : f ρ1 M2 with
        | nx ρ2 M3 => simp only [ef] at h1; exact fun S3 σ3 x3 er3 m3 => ⟨S3, ρ2, M3, rfl, er3, m3, RunS.mo x3 h1⟩
        | cnt ρ2 M3 => simp only [ef] at h1; exact fun S3 σ3 x3 er3 m3 => ⟨S3, ρ2, M3, rfl, er3, m3, RunS.mo x3 h1⟩
        | brk ρ2 M3 => simp only [ef] at h1; exact h1
        | ret d M3 => simp only [ef] at h1; exact h1
        | exc y vs ρ2 M3 => simp only [ef] at h1; exact h1
        | bad => simp only [ef] at h1; exact h1.elim
theorem s_for {tg iter : Expr} {body : List Stmt} {t : Tg} {k : ItK} {fs : Env → Mem → Res (List D)} {f : Env → Mem → RS} (hp : PassesOwn (model X.prog X.w) X.A X.env X.xe) (hc : X.calm = true) (hi : PI X tg iter (tIt X.K xi k fs W)) (hg : PG X tg (gR X.K t)) (hb : PSs X body (TSt X xi f W)) (hpl : plainE iter = true) :
    PS X (.For tg iter body [] pos) (TSt X xi (fun ρ M => (fs ρ M).toRS ρ fun ds M1 => match itS M1 k ds with
      | some it => evF it.gd (asgT t) f it.ds ρ M1
      | none => .bad) W) := by
  refine PS.weak (ps_for hp hc hi hg hb (fold_plain hpl _)) ?_
  rintro D σ H ⟨S, ρ, M, rfl, er, mr, hr⟩
  have hr2 : RunS X.K xi S (((fs ρ M).bind fun ds M1 => .opt (itS M1 k ds) M1).toRS ρ fun it M1 => evF it.gd (asgT t) f it.ds ρ M1) D W := by
    dsimp only at hr
    cases e : fs ρ M with
    | bad => rw [e] at hr; exact hr
    | exc x vs M1 => rw [e] at hr; exact hr
    | ok ds M1 =>
      rw [e] at hr
      cases e2 : itS M1 k ds with
      | none => simp only [Res.toRS, e2] at hr; exact hr.elim
      | some it =>
        simp only [Res.toRS, e2] at hr
        simp only [Res.bind, Res.opt, Res.toRS, e2]
        exact hr
  refine sS_step (f := fun ρ M => (fs ρ M).bind fun ds M1 => .opt (itS M1 k ds) M1) er mr hr2 fun S1 it M1 J e1 x1 m1 er1 hJ h1 => ?_
  refine ⟨fun i n σ H => ∃ S' ρ' M', S'.H = H ∧ n = it.ds.length - i ∧ i ≤ it.ds.length ∧ Ext S1 S' ∧ EnvRel X.K S' ρ' σ ∧ MemRel X.K S' M' ∧ RunS X.K xi S' (evF it.gd (asgT t) f (it.ds.drop i) ρ' M') D W, ⟨_, S1, ρ, M1, rfl, rfl, Nat.zero_le _, Ext.refl S1, er1, m1, h1⟩, ?_⟩
  rintro i n σ2 H2 ⟨S', ρ', M', rfl, rfl, hi2, x', er', m', hrun⟩
  have hol : holds M' it.gd = true := by
    cases q : holds M' it.gd with
    | true => rfl
    | false =>
      exfalso
      cases ed : it.ds.drop i with
      | nil => rw [ed] at hrun; simp only [evF, q] at hrun; exact hrun
      | cons d ds => rw [ed] at hrun; simp only [evF, q] at hrun; exact hrun
  obtain ⟨ig, is⟩ := hJ S' M' x'.tr m' hol i
  by_cases hlt : i < it.ds.length
  · right
    have hd : it.ds[i]? = some it.ds[i] := List.getElem?_eq_getElem hlt
    obtain ⟨go, yl⟩ := ig _ hd
    rw [List.drop_eq_getElem_cons hlt] at hrun
    simp only [evF, hol, if_true] at hrun
    refine ⟨go, fun σ H => ∃ S' ρ' M', S'.H = H ∧ it.ds.length - (i + 1) = it.ds.length - (i + 1) ∧ i + 1 ≤ it.ds.length ∧ Ext S1 S' ∧ EnvRel X.K S' ρ' σ ∧ MemRel X.K S' M' ∧ RunS X.K xi S' (evF it.gd (asgT t) f (it.ds.drop (i + 1)) ρ' M') D W, fun σ' H' w => ⟨_, by omega, w⟩, fun v H' hy => ?_⟩
    obtain ⟨S2, rfl, x2, m2, rx⟩ := yl v H' hy
    cases ea : asgT t it.ds[i] ρ' with
    | none => simp only [ea] at hrun; exact hrun.elim
    | some ρ1 =>
      simp only [ea] at hrun
      refine ⟨S2, it.ds[i], ρ', ρ1, M', rfl, er'.mo x2, m2, rx, ea, fun σ3 er3 _ => ⟨S2, ρ1, M', rfl, er3, m2, ?_⟩⟩
      have h2 := RunS.mo x2 hrun
      cases ef : f ρ1 M' with
      | nx ρ2 M3 => simp only [ef] at h2; exact fun S3 σ4 x3 er4 m3 => ⟨S3, ρ2, M3, rfl, rfl, hlt, (x'.trans x2).trans x3, er4, m3, RunS.mo x3 h2⟩
      | cnt ρ2 M3 => simp only [ef] at h2; exact fun S3 σ4 x3 er4 m3 => ⟨S3, ρ2, M3, rfl, rfl, hlt, (x'.trans x2).trans x3, er4, m3, RunS.mo x3 h2⟩
      | brk ρ2 M3 => simp only [ef] at h2; exact h2
      | ret d M3 => simp only [ef] at h2; exact h2
      | exc y vs ρ2 M3 => simp only [ef] at h2; exact h2
      | bad => simp only [ef] at h2; exact h2.elim
  · left
    have e2 : it.ds.length = i := by omega
    rw [List.drop_eq_nil_of_le (by omega)] at hrun
    simp only [evF, hol, if_true] at hrun
    exact ⟨is e2, hrun S' σ2 (Ext.refl S') er' m'⟩
end
end Pv

set_option Elab.async false
set_option linter.all false
set_option maxRecDepth 100000
set_option maxHeartbeats 4000000
/-! Pv, part N: the check of the plain language's text against the program's, and that it suffices. -/
namespace Pv
open PySem PySem.Spec PyProof.Rows L2
/-- what the check knows of a block: the slots' names, the scope, the names that may be stored whatever their kind, the defs by number (name, parameters, defaults), the constants, the names that the module doesn't bind -/
structure Cc where
  N : List Str
  sc : Scope
  fnB : Str → Bool
  top : Bool
  fnm : Nat → Option (Str × Nat × Nat)
  con : Nat → Option Str
  free : List Str
  exs : Nat → Option Str
def all2 {α β : Type} (p : α → β → Bool) : List α → List β → Bool
  | [], [] => true
  | a :: as, b :: bs => p a b && all2 p as bs
  | _, _ => false
theorem all2_len {α β : Type} {p : α → β → Bool} : ∀ {as : List α} {bs : List β}, all2 p as bs = true → as.length = bs.length
  | [], [], _ => rfl
  | a :: as, b :: bs, h => by
    have h2 : p a b = true ∧ all2 p as bs = true := by simpa [all2] using h
    simp [all2_len h2.2]
  | [], _ :: _, h => by simp [all2] at h
  | _ :: _, [], h => by simp [all2] at h
def kindIs (k : Option NameKind) (j : NameKind) : Bool := match k with
  | some i => decide (i = j)
  | none => false
theorem kindIs_eq {k : Option NameKind} {j : NameKind} (h : kindIs k j = true) : k = some j := by
  unfold kindIs at h
  split at h
  · rw [of_decide_eq_true h]
  · cases h
def visB (sc : Scope) (x : Str) : Bool := kindIs (sc.names.lookup x) .local || kindIs (sc.names.lookup x) .cell || kindIs (sc.names.lookup x) .free
def glB (sc : Scope) (x : Str) : Bool := kindIs (sc.names.lookup x) .globalImplicit
def dbgB (x : Str) : Bool := !(x == ("__debug__" : Str))
def cdB (x : Str) : Bool := !(x == ("__classdict__" : Str))
def cstB : D → Const → Bool
  | .non, .none => true
  | .bl a, .bool b => a == b
  | .int i, .int j => decide (i = j)
  | .str s, .str t => decide (s = t.cps.toList)
  | _, _ => false
def Blt.nm : Blt → Option (String × Bool)
  | .len => some ("len", false)
  | .tuple => some ("tuple", true)
  | .list => some ("list", true)
  | .int => some ("int", true)
  | .abs => some ("abs", false)
  | .max2 => some ("max", false)
  | .min2 => some ("min", false)
  | .max1 => some ("max", false)
  | .min1 => some ("min", false)
  | .sum => some ("sum", false)
  | .all => some ("all", false)
  | .any => some ("any", false)
  | _ => none
def Blt.kw : Blt → Option String
  | .maxd => some "max"
  | .mind => some "min"
  | _ => none
def Mth.nm : Mth → Option (String × Bool)
  | .append => some ("append", true)
  | .pop0 => some ("pop", false)
  | _ => none
def isTupE : Expr → Bool
  | .Tuple .. => true
  | _ => false
def isLcE : Expr → Bool
  | .ListComp .. => true
  | _ => false
def strB (x : Str) (s : String) : Bool := decide (x = Str.ofString s)
def pyE : Expr → Bool
  | .Name .. => true
  | .Tuple .. => true
  | _ => false
def chkT : Nat → Cc → Tg → Expr → Bool
  | 0, _, _, _ => false
  | n + 1, c, t, E => match t with
    | .name i => match E with
      | .Name x _ => decide (c.N[i]? = some x) && ((kindIs (c.sc.names.lookup x) .local) || (kindIs (c.sc.names.lookup x) .cell && c.fnB x))
      | _ => false
    | .tup ts => match E with
      | .Tuple es _ _ => all2 (chkT n c) ts es
      | _ => false
def chkTy (c : Cc) (t : Ty) (E : Expr) : Bool := match E with
  | .Name x _ => decide (x = t.nam) && glB c.sc x && decide (x ∈ c.free)
  | _ => false
def chkIt (p : Ex → Expr → Bool) (c : Cc) (k : ItK) (es : List Ex) (TG ITER : Expr) : Bool := plainE ITER && match k with
  | .seq => match es with
    | [e] => p e ITER
    | _ => false
  | .str => match es with
    | [e] => p e ITER
    | _ => false
  | .rng => match ITER with
    | .Call (.Name x _) as [] _ => strB x "range" && glB c.sc x && decide (x ∈ c.free) && all2 p es as && (decide (as.length = 1) || decide (as.length = 2))
    | _ => false
  | .enum => match ITER with
    | .Call (.Name x _) as [] _ => strB x "enumerate" && glB c.sc x && decide (x ∈ c.free) && all2 p es as && decide (as.length = 1) && isTupE TG
    | _ => false
  | .zip => match ITER with
    | .Call (.Name x _) as [] _ => strB x "zip" && glB c.sc x && decide (x ∈ c.free) && all2 p es as && decide (as.length = 2) && isTupE TG
    | _ => false
  | .rev => match ITER with
    | .Call (.Name x _) [A] [] _ => strB x "reversed" && glB c.sc x && decide (x ∈ c.free) && match es with
      | [e] => p e A
      | _ => false
    | _ => false
  | _ => false
def ownN (c : Cc) (own : List Nat) : List (Str × Nat) := own.map fun i => ((c.N[i]?).getD (Str.ofString ""), i)
def Cc.blk (c : Cc) (scope : Scope) : Cc := { c with sc := relS scope c.sc, fnB := fun x => kindIs (scope.names.lookup x) .cell, top := false }
def chkC (p : Cc → Ex → Expr → Bool) (g : Cc → Tg → Expr → Bool) (c : Cc) (own : List Nat) (tg : Tg) (k : ItK) (es ts : List Ex) (elt : Ex) (E : Expr) : Bool := match E with
  | .ListComp ELT [⟨TG, ITER, IFS, z⟩] scope _ => decide (z = 0) && blkC c.N c.sc scope (ownN c own) && chkIt (p c) c k es TG ITER && g (c.blk scope) tg TG && decide (ts.length ≤ 1) && all2 (p (c.blk scope)) ts IFS && p (c.blk scope) elt ELT
      && tg.names.all fun i => decide (i ∈ own)
  | _ => false
def chkE : Nat → Cc → Ex → Expr → Bool
  | 0, _, _, _ => false
  | n + 1, c, e, E => match e with
    | .never => plainE E
    | .var i => match E with
      | .Name x _ => decide (c.N[i]? = some x) && visB c.sc x && dbgB x && cdB x
      | _ => false
    | .cst d => match E with
      | .Constant k _ _ => cstB d k
      | _ => false
    | .glob m => match E with
      | .Name x _ => decide (c.con m = some x) && glB c.sc x && dbgB x
      | _ => false
    | .op o a b => match E with
      | .BinOp A op B _ => decide (op = pyOp o) && chkE n c a A && chkE n c b B
      | _ => false
    | .neg a => match E with
      | .UnaryOp op A _ => decide (op = .USub) && chkE n c a A
      | _ => false
    | .cmp o a b => match E with
      | .Compare A [op] [B] _ => decide (op = pyCmp o) && chkE n c a A && chkE n c b B && !behindInMarks op B
      | _ => false
    | .cmp2 o o' a b d => match E with
      | .Compare A [op, op'] [B, G] _ => decide (op = pyCmp o) && decide (op' = pyCmp o') && chkE n c a A && chkE n c b B && chkE n c d G && !lastMarks [op, op'] [B, G]
      | _ => false
    | .land es => match E with
      | .BoolOp op vs _ => decide (op = .And) && all2 (chkE n c) es vs
      | _ => false
    | .lor es => match E with
      | .BoolOp op vs _ => decide (op = .Or) && all2 (chkE n c) es vs
      | _ => false
    | .lnot a => match E with
      | .UnaryOp op A _ => decide (op = .Not) && chkE n c a A
      | _ => false
    | .ite t a b => match E with
      | .IfExp T A B _ => chkE n c t T && chkE n c a A && chkE n c b B
      | _ => false
    | .tup es => match E with
      | .Tuple vs _ _ => all2 (chkE n c) es vs && decide (es.length ≤ 1000)
      | _ => false
    | .lst es => match E with
      | .List vs _ => all2 (chkE n c) es vs && decide (es.length ≤ 1000)
      | _ => false
    | .lstC es => match E with
      | .List vs _ => all2 (chkE n c) es vs && decide (es.length ≤ 1000)
      | _ => false
    | .idx a i => match E with
      | .Subscript A I _ => chkE n c a A && chkE n c i I
      | _ => false
    | .slc a lo hi => match E with
      | .Subscript A (.Slice L U none _) _ => chkE n c a A && (match L with | none => lo.isNon | some L => !lo.isNon && chkE n c lo L) && (match U with | none => hi.isNon | some U => !hi.isNon && chkE n c hi U)
      | _ => false
    | .isi a ts => match E with
      | .Call (.Name x _) [A, T] [] _ => strB x "isinstance" && glB c.sc x && decide (x ∈ c.free) && chkE n c a A && match T with
        | .Name _ _ => (match ts with | [t] => chkTy c t T | _ => false)
        | .Tuple es _ _ => all2 (chkTy c) ts es && decide (ts.length ≤ 1000)
        | _ => false
      | _ => false
    | .call f es => match E with
      | .Call (.Name x _) as [] _ => all2 (chkE n c) es as && glB c.sc x && dbgB x && match c.fnm f with
        | some (y, np, nd) => decide (y = x) && decide (es.length ≤ np) && decide (np ≤ es.length + nd)
        | none => false
      | _ => false
    | .blt b es => match b.kw with
      | some s => (match es, E with
        | [a, d], .Call (.Name x _) [A] [⟨some y, G, _⟩] _ => strB x s && strB y "default" && glB c.sc x && decide (x ∈ c.free) && chkE n c a A && chkE n c d G
        | _, _ => false)
      | none => (match E with
        | .Call (.Name x _) as [] _ => all2 (chkE n c) es as && glB c.sc x && decide (x ∈ c.free) && decide (0 < as.length) && match b.nm with
          | some (s, _) => strB x s
          | none => false
        | _ => false)
    | .meth m o es => match E with
      | .Call (.Attribute O x apos) as [] cpos => all2 (chkE n c) es as && chkE n c o O && notCall O && (apos.endLine == cpos.line) && match m.nm with
        | some (s, k) => strB x s && decide (as.length = if k then 1 else 0)
        | none => false
      | _ => false
    | .comp own tg k es ts elt => chkC (chkE n) (chkT n) c own tg k es ts elt E
    | .cell e => match e with
      | .comp own tg k es ts elt => chkC (chkE n) (chkT n) c own tg k es ts elt E
      | _ => false
    | _ => false
def exBase : List Value := [.type "Exception", .type "BaseException", .type "object"]
/-- what is known of a block's context -/
structure Lk (c : Cc) (C : Ctx) (k : Nat) (xi : XTab) (X : Cx) (W : L2.WX) : Prop where
  N : X.N = c.N
  nd : X.N.Nodup
  sc : X.env.scope = c.sc
  kind : X.env.scope.kind = .function
  fn : ∀ x, c.fnB x = true → X.fn x = true
  calm : X.calm = true
  room : Room k X.A
  tk : Takes X W
  po : c.top = true → PassesOwn (model X.prog X.w) X.A X.env X.xe
  fns : ∀ f x np nd, c.fnm f = some (x, np, nd) → ∃ (fa : Addr) (fd : FuncData) (ps : List Str) (dfl : List D), X.mg x = some (.ref fa) ∧ PySem.W.keepIn X.K (.ref fa) = true ∧
    FnOk X.prog X.w X.K X.mg X.base (L2.CX X.prog X.w) k fa fd ps (spF X.K xi C.F f np) ∧ dfl.length = nd ∧
    (∀ j, j ≤ nd → ∃ (ds : List Value) (dvs : List V), L2.Binds X.K fd ps ds ∧ Vals dvs ds ∧ ∀ S, Reps X.K S (dfl.drop (nd - j)) dvs) ∧
    ∀ vs M j, vs.length + j = np → j ≤ nd → C.F f (vs ++ dfl.drop (nd - j)) M = C.F f vs M
  con : ∀ n x, c.con n = some x → ∃ (d : D) (u : Value) (v : V), C.G n = some d ∧ X.mg x = some u ∧ RelV v u ∧ ∀ S, Rep X.K S d v
  free : ∀ x ∈ c.free, X.mg x = none
  st : c.top = true → X.stack = X.env :: X.outer ∧ X.env.frame = some X.env.locals
  exs : ∀ x nm, c.exs x = some nm → ∃ A, X.mg nm = some (.ref A) ∧ xi x = some (A, none) ∧ PySem.W.keepIn X.K (.ref A) = true ∧ PySem.W.excIn X.K A exBase "Exception.__new__" = true ∧ PySem.W.subIn X.K (.ref A) (.type "BaseException") = some true ∧ PySem.W.typeIn X.K (.ref A) = some (.type "type")
  exm : ∀ y B f, xi y = some (B, f) → ∀ x nm A, c.exs x = some nm → X.mg nm = some (.ref A) → PySem.W.exmOne X.K (.ref B) (.ref A) = some (decide (y = x))
section
variable {c : Cc} {C : Ctx} {k : Nat} {xi : XTab} {X : Cx} {W : L2.WX}
theorem Lk.units (L : Lk c C k xi X W) : X.A.units + 64 < cLine := L.room.units
theorem Lk.gl (L : Lk c C k xi X W) {x : Str} (h : glB c.sc x = true) : Gl X x := by
  show X.env.scope.names.lookup x = _
  rw [L.sc]
  exact kindIs_eq h
theorem Lk.vis (L : Lk c C k xi X W) {x : Str} (h : visB c.sc x = true) : Vis X.env.scope x := by
  rw [L.sc]
  unfold visB at h
  simp only [Bool.or_eq_true] at h
  rcases h with (h | h) | h
  · exact .inl (kindIs_eq h)
  · exact .inr (.inl (kindIs_eq h))
  · exact .inr (.inr (kindIs_eq h))
theorem Lk.blk (L : Lk c C k xi X W) {scope : Scope} (hk : scope.kind = .function) (s : Shared) (H : Hp) (A : Addr) (cl : List (Str × Addr)) (fp : List Addr) : Lk (c.blk scope) C k xi (X.blk s H scope (compEnvC scope cl A X.env) fp) W0 where
  N := L.N
  nd := L.nd
  sc := by
    show relabel scope X.env = relS scope c.sc
    rw [← L.sc]
    rfl
  kind := hk
  fn := fun x h => by
    show (scope.names.lookup x == some .cell) = true
    rw [kindIs_eq h]
    rfl
  calm := L.calm
  room := L.room
  tk := takes0
  po := fun h => by cases h
  fns := L.fns
  con := L.con
  free := L.free
  st := fun h => by cases h
  exs := L.exs
  exm := L.exm
theorem notDbg {x : Str} (h : dbgB x = true) : (x == ("__debug__" : Str)) = false := by simpa [dbgB] using h
theorem notCd {x : Str} (h : cdB x = true) : (x == ("__classdict__" : Str)) = false := by simpa [cdB] using h
/-- a list of expressions -/
theorem snd_es {p : Ex → Expr → Bool} (hp : ∀ e E, p e E = true → plainE E = true ∧ PE X E (TD X xi (fun ρ M => evE C e ρ M) W)) : ∀ {es : List Ex} {Es : List Expr}, all2 p es Es = true → Es.all plainE = true ∧ PA X Es (TDs X xi (fun ρ M => evEs C es ρ M) W)
  | [], [], _ => ⟨rfl, by
    have e : (fun ρ M => evEs C [] ρ M) = fun _ M => Res.ok [] M := by funext ρ M; rw [evEs]
    rw [e]; exact a_nil⟩
  | e :: es, E :: Es, h => by
    have h2 : p e E = true ∧ all2 p es Es = true := by simpa [all2] using h
    obtain ⟨i1, i2⟩ := snd_es hp h2.2
    obtain ⟨j1, j2⟩ := hp e E h2.1
    refine ⟨by simp only [List.all_cons, j1, i1]; rfl, ?_⟩
    have q : (fun ρ M => evEs C (e :: es) ρ M) = fun ρ M => (evE C e ρ M).bind fun d M1 => (evEs C es ρ M1).bind fun ds M2 => .ok (d :: ds) M2 := by funext ρ M; rw [evEs]
    rw [q]
    exact a_cons j2 i2 j1
  | [], _ :: _, h => by simp [all2] at h
  | _ :: _, [], h => by simp [all2] at h
theorem evEs_len : ∀ {es : List Ex} {ρ : Env} {M M1 : Mem} {ds : List D}, evEs C es ρ M = .ok ds M1 → ds.length = es.length
  | [], _, _, _, _, h => by
    rw [evEs] at h
    cases h
    rfl
  | e :: es, ρ, M, M1, ds, h => by
    rw [evEs] at h
    cases q : evE C e ρ M with
    | ok d M2 =>
      rw [q] at h
      simp only [Res.bind] at h
      cases q2 : evEs C es ρ M2 with
      | ok ds2 M3 =>
        rw [q2] at h
        cases h
        simp [evEs_len q2]
      | exc x vs M3 => rw [q2] at h; cases h
      | bad => rw [q2] at h; cases h
    | exc x vs M2 => rw [q] at h; cases h
    | bad => rw [q] at h; cases h
theorem snd_t : ∀ (n : Nat) {t : Tg} {E : Expr}, Lk c C k xi X W → chkT n c t E = true → plainE E = true ∧ PG X E (gR X.K t)
  | 0, _, _, _, h => by simp [chkT] at h
  | n + 1, t, E, L, h => by
    have many : ∀ {ts : List Tg} {es : List Expr}, all2 (chkT n c) ts es = true → es.all plainE = true ∧ PGs X es (gRs X.K ts) := by
      intro ts
      induction ts with
      | nil =>
        intro es h
        cases es with
        | nil => exact ⟨rfl, gs_nil⟩
        | cons e es => simp [all2] at h
      | cons t ts ih =>
        intro es h
        cases es with
        | nil => simp [all2] at h
        | cons e es =>
          have h2 : chkT n c t e = true ∧ all2 (chkT n c) ts es = true := by simpa [all2] using h
          obtain ⟨i1, i2⟩ := ih h2.2
          obtain ⟨j1, j2⟩ := snd_t n L h2.1
          exact ⟨by simp only [List.all_cons, j1, i1]; rfl, gs_cons j2 i2 j1⟩
    unfold chkT at h
    cases t with
    | name i =>
      cases E <;> try (simp at h; done)
      rename_i x pos
      simp only [Bool.and_eq_true, decide_eq_true_eq, Bool.or_eq_true] at h
      refine ⟨rfl, g_name L.nd (by rw [L.N]; exact h.1) ?_ ?_⟩
      · unfold L2.Loc
        rw [L.sc]
        rcases h.2 with h2 | h2
        · exact .inl (kindIs_eq h2)
        · exact .inr (kindIs_eq h2.1)
      · rw [L.sc]
        rcases h.2 with h2 | h2
        · exact .inr (kindIs_eq h2)
        · exact .inl (L.fn _ h2.2)
    | tup ts =>
      cases E <;> try (simp at h; done)
      rename_i es kt pos
      obtain ⟨i1, i2⟩ := many (show all2 (chkT n c) ts es = true from h)
      exact ⟨rfl, g_tup L.calm i2 i1 (all2_len (show all2 (chkT n c) ts es = true from h)).symm⟩
theorem strB_eq {x : Str} {s : String} (h : strB x s = true) : x = Str.ofString s := of_decide_eq_true h
theorem snd_it {p : Ex → Expr → Bool} (L : Lk c C k xi X W) (hp : ∀ e E, p e E = true → plainE E = true ∧ PE X E (TD X xi (fun ρ M => evE C e ρ M) W)) {kk : ItK} {es : List Ex} {TG ITER : Expr} (h : chkIt p c kk es TG ITER = true) :
    plainE ITER = true ∧ PI X TG ITER (tIt X.K xi kk (fun ρ M => evEs C es ρ M) W) := by
  unfold chkIt at h
  simp only [Bool.and_eq_true] at h
  refine ⟨h.1, ?_⟩
  have one : ∀ e : Ex, (fun ρ M => evEs C [e] ρ M) = fun ρ M => (evE C e ρ M).bind fun d M1 => .ok [d] M1 := fun e => by
    funext ρ M
    rw [evEs]
    cases evE C e ρ M <;> simp only [Res.bind]
    rw [evEs]
  obtain ⟨hpl, h⟩ := h
  cases kk with
  | seq =>
    match es, h with
    | [e], h =>
      rw [one]
      exact it_seqI (hp e ITER h).2
    | [], h => cases h
    | _ :: _ :: _, h => cases h
  | str =>
    match es, h with
    | [e], h =>
      rw [one]
      exact it_strI (hp e ITER h).2
    | [], h => cases h
    | _ :: _ :: _, h => cases h
  | rev =>
    dsimp only at h
    split at h
    · rename_i x p1 A p2
      simp only [Bool.and_eq_true, decide_eq_true_eq] at h
      obtain ⟨⟨⟨h1, h2⟩, h3⟩, h4⟩ := h
      have e1 := strB_eq h1
      subst e1
      match es, h4 with
      | [e], h4 =>
        obtain ⟨i1, i2⟩ := hp e A h4
        rw [one]
        exact it_revI (L.gl h2) (L.free _ h3) i2 (star_plain i1 _)
      | [], h4 => cases h4
      | _ :: _ :: _, h4 => cases h4
    · cases h
  | rng =>
    dsimp only at h
    split at h
    · rename_i x p1 as p2
      simp only [Bool.and_eq_true, decide_eq_true_eq, Bool.or_eq_true] at h
      obtain ⟨⟨⟨⟨h1, h2⟩, h3⟩, h4⟩, h5⟩ := h
      have e1 := strB_eq h1
      subst e1
      obtain ⟨i1, i2⟩ := snd_es hp h4
      have hl := all2_len h4
      match as, h5 with
      | [A], _ => exact it_rngI1 (L.gl h2) (L.free _ h3) i2 (fun ρ M ds M1 e => by rw [evEs_len e, hl]; rfl) (by
          have : plainE A = true := by simpa using i1
          rw [star_plain this]; rfl)
      | [A, B], _ => exact it_rngI2 (L.gl h2) (L.free _ h3) i2 (fun ρ M ds M1 e => by rw [evEs_len e, hl]; rfl) (by
          have : plainE A = true ∧ plainE B = true := by simpa using i1
          rw [star_plain this.1, star_plain this.2]; rfl) (by
          have : plainE A = true ∧ plainE B = true := by simpa using i1
          rw [star_plain this.2]; rfl)
      | [], h5 => simp at h5
      | _ :: _ :: _ :: _, h5 => simp at h5
    · cases h
  | enum =>
    dsimp only at h
    split at h
    · rename_i x p1 as p2
      simp only [Bool.and_eq_true, decide_eq_true_eq] at h
      obtain ⟨⟨⟨⟨⟨h1, h2⟩, h3⟩, h4⟩, h5⟩, h6⟩ := h
      have e1 := strB_eq h1
      subst e1
      obtain ⟨i1, i2⟩ := snd_es hp h4
      have hl := all2_len h4
      match as, h5 with
      | [A], _ =>
        cases TG <;> first | (simp [isTupE] at h6; done) | exact it_enumI (L.gl h2) (L.free _ h3) i2 (fun ρ M ds M1 e => by rw [evEs_len e, hl]; rfl) (by
          have : plainE A = true := by simpa using i1
          rw [star_plain this]; rfl)
      | [], h5 => simp at h5
      | _ :: _ :: _, h5 => simp at h5
    · cases h
  | zip =>
    dsimp only at h
    split at h
    · rename_i x p1 as p2
      simp only [Bool.and_eq_true, decide_eq_true_eq] at h
      obtain ⟨⟨⟨⟨⟨h1, h2⟩, h3⟩, h4⟩, h5⟩, h6⟩ := h
      have e1 := strB_eq h1
      subst e1
      obtain ⟨i1, i2⟩ := snd_es hp h4
      have hl := all2_len h4
      match as, h5 with
      | [A, B], _ =>
        have i3 : plainE A = true ∧ plainE B = true := by simpa using i1
        cases TG <;> first | (simp [isTupE] at h6; done) | exact it_zipI (L.gl h2) (L.free _ h3) i2 (fun ρ M ds M1 e => by rw [evEs_len e, hl]; rfl) (star_plain i3.1 _) (stars_plain (by simpa using i3.2) _ _)
      | [], h5 => simp at h5
      | [_], h5 => simp at h5
      | _ :: _ :: _ :: _, h5 => simp at h5
    · cases h
  | _ => cases h
theorem snd_c {n : Nat} {own : List Nat} {tg : Tg} {kk : ItK} {es ts : List Ex} {elt : Ex} {E : Expr} {post : List D → Mem → Res D} (hpost : Post X.K xi post) (L : Lk c C k xi X W)
    (he : ∀ (c : Cc) (X : Cx) (W : L2.WX), Lk c C k xi X W → ∀ e E, chkE n c e E = true → plainE E = true ∧ PE X E (TD X xi (fun ρ M => evE C e ρ M) W))
    (ht : ∀ (c : Cc) (X : Cx) (W : L2.WX), Lk c C k xi X W → ∀ e E, chkE n c e E = true → PT X E (TB X xi (fun ρ M => evT C e ρ M) W)) (h : chkC (chkE n) (chkT n) c own tg kk es ts elt E = true) :
    PE X E (TD X xi (fun ρ M => (evEs C es ρ M).bind fun ds M1 => match itS M1 kk ds with
      | some it => if it.ds.length ≤ line then (evC it.gd (cTurn own tg (fun ρ M => evTs C ts ρ M) (fun ρ M => evE C elt ρ M) ρ) it.ds [] M1).bind post else .bad
      | none => .bad) W) := by
  unfold chkC at h
  split at h
  · rename_i ELT TG ITER IFS z scope pos
    simp only [Bool.and_eq_true, decide_eq_true_eq] at h
    obtain ⟨⟨⟨⟨⟨⟨⟨h1, h2⟩, h3⟩, h4⟩, h5⟩, h6⟩, h7⟩, h8⟩ := h
    subst h1
    have ok := blkOk_by h2
    obtain ⟨i1, i2⟩ := snd_it L (fun e E q => he c X W L e E q) h3
    have eo : (ownN c own).map (·.2) = own := by unfold ownN; rw [List.map_map]; exact List.map_id' _
    have okX : BlkOk X.N X.env.scope scope (ownN c own) := by rw [L.N, L.sc]; exact ok
    have q := e_lc (ifs := IFS) (fe := fun ρ M => evE C elt ρ M) (ft := fun ρ M => evTs C ts ρ M) (pos := pos) L.calm L.nd i2 okX (fun s H A cl fp => (snd_t n (L.blk ok.kind s H A cl fp) h4).2) (fun s H A cl fp => ?_) (fun s H A cl fp => (he _ _ _ (L.blk ok.kind s H A cl fp) elt ELT h7).2) i1 (fun i hi => by
      rw [eo]
      have := List.all_eq_true.mp h8 i hi
      simpa using this) hpost
    · rw [eo] at q
      exact q
    · have LB := L.blk ok.kind s H A cl fp
      match ts, IFS, h5, h6 with
      | [], [], _, _ =>
        have e : (fun ρ M => evTs C [] ρ M) = fun _ M => Res.ok true M := by funext ρ M; rw [evTs]
        rw [e]
        refine ⟨fun pins s σ H Q I hw => pts_nil.run pins s σ H Q I ?_⟩
        obtain ⟨S, ρ, M, rfl, er, mr, hr⟩ := hw
        exact hr.ok mr rfl
      | [t], [T], _, h6 =>
        have h7 : chkE n (c.blk scope) t T = true := by simpa [all2] using h6
        have e : (fun ρ M => evTs C [t] ρ M) = fun ρ M => evT C t ρ M := by funext ρ M; rw [evTs]
        rw [e]
        exact pts_one (ht _ _ _ LB t T h7)
      | _ :: _ :: _, _, h5, _ => simp at h5
      | [], _ :: _, _, h6 => simp [all2] at h6
      | [_], [], _, h6 => simp [all2] at h6
      | [_], _ :: _ :: _, _, h6 => simp [all2] at h6
  · cases h
end
end Pv

set_option Elab.async false
set_option linter.all false
set_option maxRecDepth 100000
set_option maxHeartbeats 4000000
/-! Pv, part O: the check of expressions suffices. -/
namespace Pv
open PySem PySem.Spec PyProof.Rows L2
theorem blt_ok {X : Cx} {xi : XTab} (hc : X.calm = true) {b : Blt} {s : String} {k : Bool} (h : b.nm = some (s, k)) :
    (Str.ofString s ≠ ("__name__" : Str) ∧ (Str.ofString s == ("__debug__" : Str)) = false) ∧
    if k then ServesN X xi (.type s) (fun M ds => bltS M b ds) ∧ bootBuiltins (Str.ofString s) = some (.type s) else ServesN X xi (.builtin s) (fun M ds => bltS M b ds) ∧ bootBuiltins (Str.ofString s) = some (.builtin s) := by
  cases b <;> simp only [Blt.nm, Option.some.injEq, Prod.mk.injEq] at h <;> try (cases h; done)
  all_goals (obtain ⟨rfl, rfl⟩ := h; refine ⟨⟨by decide +kernel, by decide +kernel⟩, ?_⟩)
  · exact ⟨srv_len, by decide +kernel⟩
  · exact ⟨srv_tuple, by decide +kernel⟩
  · exact ⟨srv_list, by decide +kernel⟩
  · exact ⟨srv_intc, by decide +kernel⟩
  · exact ⟨srv_abs, by decide +kernel⟩
  · exact ⟨srv_max2 hc, by decide +kernel⟩
  · exact ⟨srv_min2 hc, by decide +kernel⟩
  · exact ⟨srv_max1 hc, by decide +kernel⟩
  · exact ⟨srv_min1 hc, by decide +kernel⟩
  · exact ⟨srv_sum hc, by decide +kernel⟩
  · exact ⟨srv_all hc, by decide +kernel⟩
  · exact ⟨srv_any hc, by decide +kernel⟩
theorem bltK_ok {X : Cx} {xi : XTab} (hc : X.calm = true) {b : Blt} {s : String} (h : b.kw = some s) :
    (Str.ofString s ≠ ("__name__" : Str) ∧ (Str.ofString s == ("__debug__" : Str)) = false) ∧ ServesK X xi s (fun M ds => bltS M b ds) ∧ bootBuiltins (Str.ofString s) = some (.builtin s) := by
  cases b <;> simp only [Blt.kw, Option.some.injEq] at h <;> try (cases h; done)
  all_goals (subst h; refine ⟨⟨by decide +kernel, by decide +kernel⟩, ?_⟩)
  · exact ⟨srv_maxd hc, by decide +kernel⟩
  · exact ⟨srv_mind hc, by decide +kernel⟩
theorem recv_lst {T : String} (hT : T = "list") {m : Mth} (hm : ∀ x M, recv m x M = true → ∃ n ds, x = .loc n ∧ M[n]? = some (.lst ds)) : ∀ (K : PySem.W.Frag) (S : Sw) (M : Mem) (d : D) (v : V), MemRel K S M → Rep K S d v → recv m d M = true → tyV K T v S.H := by
  intro K S M d v m1 r h
  obtain ⟨n, ds, rfl, e⟩ := hm d M h
  obtain ⟨a, vs, rfl, _, e2, _⟩ := cell_lst m1 r e
  exact .inl ⟨hT, vs, SqL.of e2⟩
theorem recv_append {x : D} {M : Mem} (h : recv .append x M = true) : ∃ n ds, x = .loc n ∧ M[n]? = some (.lst ds) := by
  unfold recv at h
  split at h
  · rename_i n
    split at h <;> first
      | (rename_i e; exact ⟨n, _, rfl, e⟩)
      | (rename_i h1 h2; cases h1; done)
      | cases h
  · split at h <;> first | (rename_i h1; cases h1; done) | cases h
  · cases h
theorem recv_pop0 {x : D} {M : Mem} (h : recv .pop0 x M = true) : ∃ n ds, x = .loc n ∧ M[n]? = some (.lst ds) := by
  unfold recv at h
  split at h
  · rename_i n
    split at h <;> first
      | (rename_i e; exact ⟨n, _, rfl, e⟩)
      | (rename_i h1 h2; cases h1; done)
      | cases h
  · split at h <;> first | (rename_i h1; cases h1; done) | cases h
  · cases h
theorem mth_append : MthOk "list" "append" "list.append" .append := ⟨F.plainAttrs_list, F.slot_list_append, F.type_list_append, recv_lst rfl fun _ _ h => recv_append h⟩
theorem mth_pop0 : MthOk "list" "pop" "list.pop" .pop0 := ⟨F.plainAttrs_list, F.slot_list_pop, F.type_list_pop, recv_lst rfl fun _ _ h => recv_pop0 h⟩
theorem chE_map (f g h : Env → Mem → Res D) (o o' : CmpO) (ρ : Env) (M : Mem) : ((f ρ M).bind fun x M1 => (g ρ M1).bind fun y M2 => match cmpS M2 o x y with
    | some true => (h ρ M2).bind fun z M3 => .opt ((cmpS M3 o' y z).map D.bl) M3
    | some false => .ok (.bl false) M2
    | none => .bad) = (chE f g h o o' ρ M).bind fun k M1 => .ok (.bl k) M1 := by
  unfold chE
  generalize f ρ M = ra
  cases ra with
  | exc _ _ _ => rfl
  | bad => rfl
  | ok x M1 =>
    simp only [Res.bind]
    generalize g ρ M1 = rb
    cases rb with
    | exc _ _ _ => rfl
    | bad => rfl
    | ok y M2 =>
      simp only []
      generalize cmpS M2 o x y = kk
      cases kk with
      | none => rfl
      | some kb =>
        cases kb with
        | false => rfl
        | true =>
          simp only []
          generalize h ρ M2 = rd
          cases rd with
          | exc _ _ _ => rfl
          | bad => rfl
          | ok z M3 =>
            simp only []
            cases cmpS M3 o' y z <;> rfl
theorem bind_assoc {α β γ : Type} (r : Res α) (f : α → Mem → Res β) (g : β → Mem → Res γ) : (r.bind f).bind g = r.bind fun a M => (f a M).bind g := by cases r <;> rfl
theorem tru_opt {α : Type} (r : Res α) (g : α → Mem → Option D) : (r.bind fun x M1 => Res.opt ((g x M1).bind (truS M1)) M1) = (r.bind fun x M1 => Res.opt (g x M1) M1).bind fun x M1 => Res.opt (truS M1 x) M1 := by
  cases r with
  | exc _ _ _ => rfl
  | bad => rfl
  | ok x M1 =>
    simp only [Res.bind]
    cases g x M1 <;> rfl
theorem tru_map {α : Type} (r : Res α) (g : α → Mem → Option Bool) : (r.bind fun x M1 => Res.opt (g x M1) M1) = (r.bind fun x M1 => Res.opt ((g x M1).map D.bl) M1).bind fun x M1 => Res.opt (truS M1 x) M1 := by
  cases r with
  | exc _ _ _ => rfl
  | bad => rfl
  | ok x M1 =>
    simp only [Res.bind]
    cases g x M1 <;> rfl
theorem cell_map {kk : ItK} (A : Res (List D)) (B : Itm → Mem → Res (List D)) : ((A.bind fun ds M1 => match itS M1 kk ds with
    | some it => if it.ds.length ≤ line then (B it M1).bind (fun ys M2 => (Res.ok (D.lst ys) M2 : Res D)) else Res.bad
    | none => Res.bad).bind fun d M1 => match d with
    | D.lst ds => (Res.ok (D.loc M1.length) (M1 ++ [Cell.lst ds]) : Res D)
    | _ => Res.bad) = A.bind fun ds M1 => match itS M1 kk ds with
    | some it => if it.ds.length ≤ line then (B it M1).bind (fun ys M => (Res.ok (D.loc M.length) (M ++ [Cell.lst ys]) : Res D)) else Res.bad
    | none => Res.bad := by
  cases A with
  | exc _ _ _ => rfl
  | bad => rfl
  | ok ds M1 =>
    simp only [Res.bind]
    cases itS M1 kk ds with
    | none => rfl
    | some it =>
      simp only []
      by_cases hl : it.ds.length ≤ line
      · rw [if_pos hl, if_pos hl]
        cases B it M1 <;> rfl
      · rw [if_neg hl, if_neg hl]
section
variable {C : Ctx} {k : Nat} {xi : XTab}
theorem names_of {c : Cc} {X : Cx} {W : L2.WX} (L : Lk c C k xi X W) : ∀ {ts : List Ty} {es : List Expr}, all2 (chkTy c) ts es = true → NamesOf ts es ∧ ∀ t ∈ ts, Gl X t.nam ∧ X.mg t.nam = none
  | [], [], _ => ⟨trivial, fun _ h => by cases h⟩
  | t :: ts, e :: es, h => by
    have h2 : chkTy c t e = true ∧ all2 (chkTy c) ts es = true := by simpa [all2] using h
    obtain ⟨i1, i2⟩ := names_of L h2.2
    have h3 := h2.1
    unfold chkTy at h3
    split at h3
    · rename_i x q
      simp only [Bool.and_eq_true, decide_eq_true_eq] at h3
      obtain ⟨⟨rfl, h4⟩, h5⟩ := h3
      refine ⟨⟨⟨q, rfl⟩, i1⟩, fun u hu => ?_⟩
      rcases List.mem_cons.mp hu with e | e
      · rw [e]; exact ⟨L.gl h4, L.free _ h5⟩
      · exact i2 u e
    · cases h3
  | [], _ :: _, h => by simp [all2] at h
  | _ :: _, [], h => by simp [all2] at h
theorem sndE : ∀ (n : Nat) (c : Cc) (X : Cx) (W : L2.WX), Lk c C k xi X W → (∀ e E, chkE n c e E = true → plainE E = true ∧ PE X E (TD X xi (fun ρ M => evE C e ρ M) W)) ∧ ∀ e E, chkE n c e E = true → PT X E (TB X xi (fun ρ M => evT C e ρ M) W)
  | 0, _, _, _, _ => ⟨fun _ _ h => by simp [chkE] at h, fun _ _ h => by simp [chkE] at h⟩
  | n + 1, c, X, W, L => by
    have ihE := (sndE n c X W L).1
    have ihT := (sndE n c X W L).2
    have allE : ∀ (c : Cc) (X : Cx) (W : L2.WX), Lk c C k xi X W → ∀ e E, chkE n c e E = true → plainE E = true ∧ PE X E (TD X xi (fun ρ M => evE C e ρ M) W) := fun c X W L => (sndE n c X W L).1
    have allT : ∀ (c : Cc) (X : Cx) (W : L2.WX), Lk c C k xi X W → ∀ e E, chkE n c e E = true → PT X E (TB X xi (fun ρ M => evT C e ρ M) W) := fun c X W L => (sndE n c X W L).2
    have main : ∀ e E, chkE (n + 1) c e E = true → plainE E = true ∧ PE X E (TD X xi (fun ρ M => evE C e ρ M) W) := by
      intro e E h
      unfold chkE at h
      cases e with
      | never =>
        refine ⟨h, ?_⟩
        have q : (fun ρ M => evE C .never ρ M) = fun _ _ => Res.bad := by funext ρ M; rw [evE]
        rw [q]
        exact e_never
      | var i =>
        cases E <;> try (simp at h; done)
        simp only [Bool.and_eq_true, decide_eq_true_eq] at h
        refine ⟨rfl, ?_⟩
        have q : (fun ρ M => evE C (.var i) ρ M) = fun ρ M => match ρ[i]? with | some (some d) => .ok d M | _ => .bad := by
          funext ρ M
          rw [evE]
          try
            cases ρ[i]? with
            | none => rfl
            | some o => cases o <;> rfl
        rw [q]
        exact e_var (by rw [L.N]; exact h.1.1.1) (L.vis h.1.1.2) (notDbg h.1.2) (notCd h.2)
      | cst d =>
        cases E <;> try (simp at h; done)
        rename_i kk kn pos
        refine ⟨rfl, ?_⟩
        have q : (fun ρ M => evE C (.cst d) ρ M) = fun _ M => .ok d M := by funext ρ M; rw [evE]
        rw [q]
        cases d <;> cases kk <;> simp [cstB] at h
        · exact e_cst pe_non fun _ => .non
        · subst h; exact e_cst pe_bl fun _ => .bl _
        · subst h; exact e_cst pe_int fun _ => .int _
        · subst h
          refine e_cst pe_str fun _ => ?_
          exact .str _
      | glob m =>
        cases E <;> try (simp at h; done)
        simp only [Bool.and_eq_true, decide_eq_true_eq] at h
        refine ⟨rfl, ?_⟩
        obtain ⟨d, u, v, e1, e2, e3, e4⟩ := L.con m _ h.1.1
        have q : (fun ρ M => evE C (.glob m) ρ M) = fun _ M => .ok d M := by funext ρ M; rw [evE, e1, Res.opt]
        rw [q]
        exact e_cst (L2.pe_glob (L.gl h.1.2) e2 e3 (notDbg h.2)) e4
      | op o a b =>
        cases E <;> try (simp at h; done)
        simp only [Bool.and_eq_true, decide_eq_true_eq] at h
        refine ⟨rfl, ?_⟩
        have q : (fun ρ M => evE C (.op o a b) ρ M) = fun ρ M => (evE C a ρ M).bind fun x M1 => (evE C b ρ M1).bind fun y M2 => .opt (opS M2 o x y) M2 := by funext ρ M; rw [evE]
        rw [q, h.1.1]
        exact e_op o (ihE a _ h.1.2).2 (ihE b _ h.2).2
      | neg a =>
        cases E <;> try (simp at h; done)
        simp only [Bool.and_eq_true, decide_eq_true_eq] at h
        refine ⟨rfl, ?_⟩
        have q : (fun ρ M => evE C (.neg a) ρ M) = fun ρ M => (evE C a ρ M).bind fun x M1 => match x with | .int i => .ok (.int (-i)) M1 | _ => .bad := by
          funext ρ M
          rw [evE]
          try
            cases evE C a ρ M with
            | ok x M1 => cases x <;> rfl
            | exc _ _ _ => rfl
            | bad => rfl
        rw [q, h.1]
        exact e_neg (ihE a _ h.2).2
      | cmp o a b =>
        dsimp only at h
        split at h
        · rename_i A op B pos
          simp only [Bool.and_eq_true, decide_eq_true_eq] at h
          obtain ⟨⟨⟨rfl, h2⟩, h3⟩, h4⟩ := h
          refine ⟨rfl, ?_⟩
          have q : (fun ρ M => evE C (.cmp o a b) ρ M) = fun ρ M => (evE C a ρ M).bind fun x M1 => (evE C b ρ M1).bind fun y M2 => .opt ((cmpS M2 o x y).map D.bl) M2 := by funext ρ M; rw [evE]
          rw [q]
          exact e_cmp L.units o (ihE a _ h2).2 (ihE b _ h3).2 (by simpa using h4)
        · cases h
      | cmp2 o o' a b d =>
        dsimp only at h
        split at h
        · rename_i A op op' B G pos
          simp only [Bool.and_eq_true, decide_eq_true_eq] at h
          obtain ⟨⟨⟨⟨⟨rfl, rfl⟩, h2⟩, h3⟩, h4⟩, h5⟩ := h
          refine ⟨rfl, ?_⟩
          have q : (fun ρ M => evE C (.cmp2 o o' a b d) ρ M) = fun ρ M => (chE (fun ρ M => evE C a ρ M) (fun ρ M => evE C b ρ M) (fun ρ M => evE C d ρ M) o o' ρ M).bind fun k M1 => .ok (.bl k) M1 := by
            funext ρ M
            rw [evE]
            exact chE_map (fun ρ M => evE C a ρ M) (fun ρ M => evE C b ρ M) (fun ρ M => evE C d ρ M) o o' ρ M
          rw [q]
          exact e_chain L.units o o' (ihE a _ h2).2 (ihE b _ h3).2 (ihE d _ h4).2 (by simpa using h5)
        · cases h
      | land es =>
        cases E <;> try (simp at h; done)
        simp only [Bool.and_eq_true, decide_eq_true_eq] at h
        refine ⟨rfl, ?_⟩
        rename_i op vs pos
        obtain ⟨rfl, h⟩ := h
        have go : ∀ (es : List Ex) (vs : List Expr), all2 (chkE n c) es vs = true → PE X (.BoolOp .And vs pos) (TD X xi (fun ρ M => evAnd C es ρ M) W) := by
          intro es
          induction es with
          | nil => intro vs h; have q : (fun ρ M => evAnd C [] ρ M) = fun _ _ => Res.bad := by funext ρ M; rw [evAnd]
                   rw [q]; exact e_never
          | cons e es ih =>
            intro vs h
            cases vs with
            | nil => simp [all2] at h
            | cons v vs =>
              have h2 : chkE n c e v = true ∧ all2 (chkE n c) es vs = true := by simpa [all2] using h
              cases es with
              | nil =>
                cases vs with
                | nil =>
                  have q : (fun ρ M => evAnd C [e] ρ M) = fun ρ M => evE C e ρ M := by funext ρ M; rw [evAnd]
                  rw [q]; exact pe_one (ihE e v h2.1).2
                | cons _ _ => simp [all2] at h2
              | cons e2 es =>
                cases vs with
                | nil => simp [all2] at h2
                | cons v2 vs =>
                  have q : (fun ρ M => evAnd C (e :: e2 :: es) ρ M) = fun ρ M => (evE C e ρ M).bind fun x M1 => match x with
                    | .bl true => evAnd C (e2 :: es) ρ M1
                    | .bl false => .ok (.bl false) M1
                    | _ => .bad := by
                    funext ρ M
                    rw [evAnd]
                    all_goals first | rfl | simp
                  rw [q]
                  exact e_and (ihE e v h2.1).2 (ih (v2 :: vs) h2.2)
        have q : (fun ρ M => evE C (.land es) ρ M) = fun ρ M => evAnd C es ρ M := by funext ρ M; rw [evE]
        rw [q]
        exact go es vs h
      | lor es =>
        cases E <;> try (simp at h; done)
        simp only [Bool.and_eq_true, decide_eq_true_eq] at h
        refine ⟨rfl, ?_⟩
        rename_i op vs pos
        obtain ⟨rfl, h⟩ := h
        have go : ∀ (es : List Ex) (vs : List Expr), all2 (chkE n c) es vs = true → PE X (.BoolOp .Or vs pos) (TD X xi (fun ρ M => evOr C es ρ M) W) := by
          intro es
          induction es with
          | nil => intro vs h; have q : (fun ρ M => evOr C [] ρ M) = fun _ _ => Res.bad := by funext ρ M; rw [evOr]
                   rw [q]; exact e_never
          | cons e es ih =>
            intro vs h
            cases vs with
            | nil => simp [all2] at h
            | cons v vs =>
              have h2 : chkE n c e v = true ∧ all2 (chkE n c) es vs = true := by simpa [all2] using h
              cases es with
              | nil =>
                cases vs with
                | nil =>
                  have q : (fun ρ M => evOr C [e] ρ M) = fun ρ M => evE C e ρ M := by funext ρ M; rw [evOr]
                  rw [q]; exact pe_one (ihE e v h2.1).2
                | cons _ _ => simp [all2] at h2
              | cons e2 es =>
                cases vs with
                | nil => simp [all2] at h2
                | cons v2 vs =>
                  have q : (fun ρ M => evOr C (e :: e2 :: es) ρ M) = fun ρ M => (evE C e ρ M).bind fun x M1 => match x with
                    | .bl false => evOr C (e2 :: es) ρ M1
                    | .bl true => .ok (.bl true) M1
                    | _ => .bad := by
                    funext ρ M
                    rw [evOr]
                    all_goals first | rfl | simp
                  rw [q]
                  exact e_or (ihE e v h2.1).2 (ih (v2 :: vs) h2.2)
        have q : (fun ρ M => evE C (.lor es) ρ M) = fun ρ M => evOr C es ρ M := by funext ρ M; rw [evE]
        rw [q]
        exact go es vs h
      | lnot a =>
        cases E <;> try (simp at h; done)
        simp only [Bool.and_eq_true, decide_eq_true_eq] at h
        refine ⟨rfl, ?_⟩
        have q : (fun ρ M => evE C (.lnot a) ρ M) = fun ρ M => (evE C a ρ M).bind fun x M1 => .opt ((blS x).map fun b => D.bl (!b)) M1 := by funext ρ M; rw [evE]
        rw [q, h.1]
        exact e_not (ihE a _ h.2).2
      | ite t a b =>
        cases E <;> try (simp at h; done)
        simp only [Bool.and_eq_true] at h
        refine ⟨rfl, ?_⟩
        have q : (fun ρ M => evE C (.ite t a b) ρ M) = fun ρ M => (evT C t ρ M).bind fun k M1 => if k then evE C a ρ M1 else evE C b ρ M1 := by funext ρ M; rw [evE]
        rw [q]
        exact e_ite (ihT t _ h.1.1) (ihE a _ h.1.2).2 (ihE b _ h.2).2
      | tup es =>
        cases E <;> try (simp at h; done)
        simp only [Bool.and_eq_true, decide_eq_true_eq] at h
        refine ⟨rfl, ?_⟩
        have q : (fun ρ M => evE C (.tup es) ρ M) = fun ρ M => (evEs C es ρ M).bind fun ds M1 => .ok (.tup ds) M1 := by funext ρ M; rw [evE]
        rw [q]
        exact e_tup (snd_es ihE h.1).2 fun ρ M ds M1 e => by rw [evEs_len e]; exact Nat.le_trans h.2 (by decide)
      | lst es =>
        cases E <;> try (simp at h; done)
        simp only [Bool.and_eq_true, decide_eq_true_eq] at h
        refine ⟨rfl, ?_⟩
        have q : (fun ρ M => evE C (.lst es) ρ M) = fun ρ M => (evEs C es ρ M).bind fun ds M1 => .ok (.lst ds) M1 := by funext ρ M; rw [evE]
        rw [q]
        exact e_lst (snd_es ihE h.1).2 fun ρ M ds M1 e => by rw [evEs_len e]; exact Nat.le_trans h.2 (by decide)
      | lstC es =>
        cases E <;> try (simp at h; done)
        simp only [Bool.and_eq_true, decide_eq_true_eq] at h
        refine ⟨rfl, ?_⟩
        have q : (fun ρ M => evE C (.lstC es) ρ M) = fun ρ M => (evEs C es ρ M).bind fun ds M1 => .ok (.loc M1.length) (M1 ++ [.lst ds]) := by funext ρ M; rw [evE]
        rw [q]
        exact e_lstC (snd_es ihE h.1).2 fun ρ M ds M1 e => by rw [evEs_len e]; exact Nat.le_trans h.2 (by decide)
      | idx a i =>
        cases E <;> try (simp at h; done)
        simp only [Bool.and_eq_true] at h
        refine ⟨rfl, ?_⟩
        have q : (fun ρ M => evE C (.idx a i) ρ M) = fun ρ M => (evE C a ρ M).bind fun x M1 => (evE C i ρ M1).bind fun y M2 => .opt (idxS M2 x y) M2 := by funext ρ M; rw [evE]
        rw [q]
        exact e_idx (by have := L.units; omega) (ihE a _ h.1).2 (ihE i _ h.2).2 (ihE i _ h.2).1
      | slc a lo hi =>
        dsimp only at h
        split at h
        · rename_i A Lo Up p2 pos
          simp only [Bool.and_eq_true] at h
          obtain ⟨⟨h1, h2⟩, h3⟩ := h
          refine ⟨rfl, ?_⟩
          have part : ∀ (e : Ex) (O : Option Expr), (match O with | none => e.isNon | some E => !e.isNon && chkE n c e E) = true → PO X O (TP X xi e.isNon (fun ρ M => evE C e ρ M) W) := by
            intro e O h
            cases O with
            | none =>
              have en : e = .cst .non := by
                cases e <;> first | (simp [Ex.isNon] at h; done) | skip
                rename_i d
                cases d <;> first | rfl | (simp [Ex.isNon] at h)
              subst en
              have q : (fun ρ M => evE C (.cst .non) ρ M) = fun _ M => .ok .non M := by funext ρ M; rw [evE]
              rw [q]
              exact part_none
            | some E =>
              have h : (!e.isNon && chkE n c e E) = true := h
              simp only [Bool.and_eq_true, Bool.not_eq_true'] at h
              rw [h.1]
              exact part_some (ihE e E h.2).2
          have q : (fun ρ M => evE C (.slc a lo hi) ρ M) = fun ρ M => (evE C a ρ M).bind fun x M1 => ((evE C lo ρ M1).bind fun l M2 => .opt (partQ lo.isNon l) M2).bind fun l M2 => ((evE C hi ρ M2).bind fun h M3 => .opt (partQ hi.isNon h) M3).bind fun h M3 => .opt (slcS M3 x l h) M3 := by funext ρ M; rw [evE]
          rw [q]
          exact e_slc (ihE a _ h1).2 (part lo _ h2) (part hi _ h3)
        · cases h
      | isi a ts =>
        dsimp only at h
        split at h
        · rename_i x p A T pos
          simp only [Bool.and_eq_true, decide_eq_true_eq] at h
          obtain ⟨⟨⟨⟨h1, h2⟩, h3⟩, h4⟩, h5⟩ := h
          have e1 := strB_eq h1
          subst e1
          refine ⟨rfl, ?_⟩
          obtain ⟨i1, i2⟩ := ihE a A h4
          have q : (fun ρ M => evE C (.isi a ts) ρ M) = fun ρ M => (evE C a ρ M).bind fun x M1 => .opt ((isiS M1 x ts).map D.bl) M1 := by funext ρ M; rw [evE]
          rw [q]
          split at h5
          · split at h5
            · rename_i t
              unfold chkTy at h5
              simp only [Bool.and_eq_true, decide_eq_true_eq] at h5
              obtain ⟨⟨rfl, h6⟩, h7⟩ := h5
              exact e_isi1 t (L.gl h2) (L.free _ h3) (L.gl h6) (L.free _ h7) i2 i1
            · cases h5
          · simp only [Bool.and_eq_true, decide_eq_true_eq] at h5
            obtain ⟨j1, j2⟩ := names_of L h5.1
            exact e_isiN (L.gl h2) (L.free _ h3) j1 (Nat.le_trans h5.2 (by decide)) j2 i2 i1
          · cases h5
        · cases h
      | call f es =>
        dsimp only at h
        split at h
        · rename_i x p as pos
          simp only [Bool.and_eq_true] at h
          obtain ⟨⟨⟨h1, h2⟩, h3⟩, h4⟩ := h
          refine ⟨rfl, ?_⟩
          split at h4
          · rename_i y np nd ef
            simp only [Bool.and_eq_true, decide_eq_true_eq] at h4
            obtain ⟨⟨rfl, h5⟩, h6⟩ := h4
            obtain ⟨fa, fd, ps, dfl, g1, g2, g3, g4, g5, g6⟩ := L.fns f y np nd ef
            obtain ⟨i1, i2⟩ := snd_es ihE h1
            have hl := all2_len h1
            have hj : np - es.length ≤ nd := by omega
            obtain ⟨ds, dvs, b1, b2, b3⟩ := g5 _ hj
            have dl : (dfl.drop (nd - (np - es.length))).length = np - es.length := by rw [List.length_drop, g4]; omega
            have q : (fun ρ M => evE C (.call f es) ρ M) = fun ρ M => (evEs C es ρ M).bind fun ds M1 => C.F f ds M1 := by funext ρ M; rw [evE]
            rw [q]
            have hF : ∀ vs M, vs.length + (dfl.drop (nd - (np - es.length))).length = np → C.F f (vs ++ dfl.drop (nd - (np - es.length))) M = C.F f vs M := fun vs M e => g6 vs M (np - es.length) (by rw [dl] at e; exact e) hj
            cases as with
            | nil =>
              have e0 : es = [] := List.eq_nil_of_length_eq_zero (by simpa using hl)
              subst e0
              have q2 : (fun ρ M => (evEs C [] ρ M).bind fun ds M1 => C.F f ds M1) = fun ρ M => C.F f [] M := by funext ρ M; rw [evEs, Res.bind]
              rw [q2]
              exact e_call0 g3 L.room (L.gl h2) g1 g2 b1 b2 L.tk (notDbg h3) b3 (by rw [dl]; simp) hF
            | cons A as =>
              exact e_call g3 L.room (L.gl h2) g1 g2 b1 b2 L.tk i2 (notDbg h3) i1 b3 (fun ρ M ds M1 e => by rw [evEs_len e, dl]; omega) hF
          · cases h4
        · cases h
      | blt b es =>
        dsimp only at h
        split at h
        · rename_i s eb
          split at h
          · rename_i a d x p A y G kp pos
            simp only [Bool.and_eq_true, decide_eq_true_eq] at h
            obtain ⟨⟨⟨⟨⟨h1, h2⟩, h3⟩, h4⟩, h5⟩, h6⟩ := h
            have e1 := strB_eq h1
            subst e1
            refine ⟨rfl, ?_⟩
            obtain ⟨i1, i2⟩ := ihE a A h5
            obtain ⟨j1, j2⟩ := ihE d G h6
            obtain ⟨⟨n1, n2⟩, srv, bt⟩ := bltK_ok (xi := xi) L.calm eb
            have q : (fun ρ M => evE C (.blt b [a, d]) ρ M) = fun ρ M => (evE C a ρ M).bind fun x M1 => (evE C d ρ M1).bind fun y M2 => .opt (bltS M2 b [x, y]) M2 := by
              funext ρ M
              rw [evE, evEs]
              cases evE C a ρ M with
              | ok x M1 =>
                simp only [Res.bind]
                rw [evEs]
                try
                  cases evE C d ρ M1 with
                  | ok y M2 =>
                    simp only [Res.bind]
                    rw [evEs]
                  | exc _ _ _ => rfl
                  | bad => rfl
              | exc _ _ _ => rfl
              | bad => rfl
            rw [q]
            exact e_bltK srv (strB_eq h2) (L.gl h3) (L.free _ h4) bt i2 j2 n1 n2 i1
          · cases h
        · split at h
          · rename_i x p as pos
            simp only [Bool.and_eq_true, decide_eq_true_eq] at h
            obtain ⟨⟨⟨⟨h1, h2⟩, h3⟩, h4⟩, h5⟩ := h
            refine ⟨rfl, ?_⟩
            split at h5
            · rename_i s kb eb
              have e1 := strB_eq h5
              subst e1
              obtain ⟨i1, i2⟩ := snd_es ihE h1
              obtain ⟨⟨n1, n2⟩, srv⟩ := blt_ok (xi := xi) L.calm eb
              have q : (fun ρ M => evE C (.blt b es) ρ M) = fun ρ M => (evEs C es ρ M).bind fun ds M1 => .opt (bltS M1 b ds) M1 := by funext ρ M; rw [evE]
              rw [q]
              cases as with
              | nil => simp at h4
              | cons A as =>
                cases kb with
                | true =>
                  rw [if_pos rfl] at srv
                  exact e_ty srv.1 (L.gl h2) (L.free _ h3) srv.2 i2 n1 n2 i1
                | false =>
                  rw [if_neg Bool.false_ne_true] at srv
                  exact e_blt srv.1 (L.gl h2) (L.free _ h3) srv.2 i2 n1 n2 i1
            · cases h5
          · cases h
      | meth m o es =>
        dsimp only at h
        split at h
        · rename_i O x apos as cpos
          simp only [Bool.and_eq_true] at h
          obtain ⟨⟨⟨⟨h1, h2⟩, h3⟩, h4⟩, h5⟩ := h
          refine ⟨rfl, ?_⟩
          obtain ⟨i1, i2⟩ := snd_es ihE h1
          obtain ⟨j1, j2⟩ := ihE o O h2
          have hl := all2_len h1
          have q : (fun ρ M => evE C (.meth m o es) ρ M) = fun ρ M => (evE C o ρ M).bind fun x M1 => if recv m x M1 then (evEs C es ρ M1).bind fun ds M2 => mthS m x ds M2 else .bad := by funext ρ M; rw [evE]
          rw [q]
          cases m <;> simp only [Mth.nm] at h5 <;> try (cases h5; done)
          · simp only [Bool.and_eq_true, decide_eq_true_eq] at h5
            have e1 := strB_eq h5.1
            subst e1
            match as, i1, i2, h5.2 with
            | [A], i1, i2, _ => exact e_meth mth_append srv_append j2 i2 h3 h4 i1 (by simp)
          · simp only [Bool.and_eq_true, decide_eq_true_eq] at h5
            have e1 := strB_eq h5.1
            subst e1
            match as, h5.2 with
            | [], _ =>
              have e0 : es = [] := List.eq_nil_of_length_eq_zero (by simpa using hl)
              subst e0
              have q2 : (fun ρ M => (evE C o ρ M).bind fun x M1 => if recv .pop0 x M1 then (evEs C [] ρ M1).bind fun ds M2 => mthS .pop0 x ds M2 else .bad) = fun ρ M => (evE C o ρ M).bind fun x M1 => if recv .pop0 x M1 then (Res.ok [] M1).bind fun ds M2 => mthS .pop0 x ds M2 else .bad := by
                have q3 : ∀ ρ M1, evEs C [] ρ M1 = .ok [] M1 := fun ρ M1 => by rw [evEs]
                simp only [q3]
              rw [q2]
              exact e_meth0 mth_pop0 srv_pop0 j2 h3 h4
        · cases h
      | comp own tg kk es ts elt =>
        have h : chkC (chkE n) (chkT n) c own tg kk es ts elt E = true := h
        have hp : plainE E = true := by
          unfold chkC at h
          split at h
          · rfl
          · cases h
        refine ⟨hp, ?_⟩
        have q : (fun ρ M => evE C (.comp own tg kk es ts elt) ρ M) = fun ρ M => (evEs C es ρ M).bind fun ds M1 => match itS M1 kk ds with
          | some it => if it.ds.length ≤ line then (evC it.gd (cTurn own tg (fun ρ M => evTs C ts ρ M) (fun ρ M => evE C elt ρ M) ρ) it.ds [] M1).bind (fun ys M => .ok (.lst ys) M) else .bad
          | none => .bad := by funext ρ M; rw [evE]; rfl
        rw [q]
        exact snd_c post_lst L allE allT h
      | cell e =>
        cases e <;> try (simp at h; done)
        rename_i own tg kk es ts elt
        have h : chkC (chkE n) (chkT n) c own tg kk es ts elt E = true := h
        have hp : plainE E = true := by
          unfold chkC at h
          split at h
          · rfl
          · cases h
        refine ⟨hp, ?_⟩
        have q : (fun ρ M => evE C (.cell (.comp own tg kk es ts elt)) ρ M) = fun ρ M => (evEs C es ρ M).bind fun ds M1 => match itS M1 kk ds with
          | some it => if it.ds.length ≤ line then (evC it.gd (cTurn own tg (fun ρ M => evTs C ts ρ M) (fun ρ M => evE C elt ρ M) ρ) it.ds [] M1).bind (fun ys M => .ok (.loc M.length) (M ++ [.lst ys])) else .bad
          | none => .bad := by
          funext ρ M
          rw [evE, evE]
          exact cell_map (evEs C es ρ M) (fun it M1 => evC it.gd (cTurn own tg (fun ρ M => evTs C ts ρ M) (fun ρ M => evE C elt ρ M) ρ) it.ds [] M1)
        rw [q]
        exact snd_c post_cell L allE allT h
      | _ => simp at h
    refine ⟨main, fun e E h => ?_⟩
    have hm := (main e E h).2
    have truth : (∀ whole, isTrue E X.env whole = (do let v ← whole; standAt E.pos; holding [v] (truthy v))) → (∀ ρ M, evT C e ρ M = ((evE C e ρ M).bind fun x M1 => .opt (truS M1 x) M1) ∨ evT C e ρ M = .bad) → PT X E (TB X xi (fun ρ M => evT C e ρ M) W) := fun h1 h2 =>
      PT.weak (t_truth hm h1) fun σ H Q ⟨S, ρ, M, e1, er, mr, hr⟩ => ⟨S, ρ, M, e1, er, mr, by
        dsimp only at hr
        rcases h2 ρ M with z | z
        · rw [z] at hr; exact hr
        · rw [z] at hr; exact hr.elim⟩
    have nev : (∀ ρ M, evT C e ρ M = .bad) → PT X E (TB X xi (fun ρ M => evT C e ρ M) W) := fun hz => by
      have q : (fun ρ M => evT C e ρ M) = fun _ _ => Res.bad := by funext ρ M; exact hz ρ M
      rw [q]
      exact t_never
    unfold chkE at h
    cases e with
    | land es =>
      cases E <;> try (simp at h; done)
      simp only [Bool.and_eq_true, decide_eq_true_eq] at h
      rename_i op vs pos
      obtain ⟨rfl, h⟩ := h
      have go : ∀ (es : List Ex) (vs : List Expr), all2 (chkE n c) es vs = true → PW X (.BoolOp .And vs pos) (TB X xi (fun ρ M => evTAnd C es ρ M) W) := by
        intro es
        induction es with
        | nil =>
          intro vs h
          have q : (fun ρ M => evTAnd C [] ρ M) = fun _ _ => Res.bad := by funext ρ M; rw [evTAnd]
          rw [q]
          exact ⟨fun _ _ _ _ _ _ _ ⟨_, _, _, _, _, _, h⟩ => h.elim⟩
        | cons e es ih =>
          intro vs h
          cases vs with
          | nil => simp [all2] at h
          | cons v vs =>
            have h2 : chkE n c e v = true ∧ all2 (chkE n c) es vs = true := by simpa [all2] using h
            cases es with
            | nil =>
              cases vs with
              | nil =>
                have q : (fun ρ M => evTAnd C [e] ρ M) = fun ρ M => evT C e ρ M := by funext ρ M; rw [evTAnd]
                rw [q]; exact w_and1 (ihT e v h2.1)
              | cons _ _ => simp [all2] at h2
            | cons e2 es =>
              cases vs with
              | nil => simp [all2] at h2
              | cons v2 vs =>
                have q : (fun ρ M => evTAnd C (e :: e2 :: es) ρ M) = fun ρ M => (evT C e ρ M).bind fun x M1 => if x then evTAnd C (e2 :: es) ρ M1 else .ok false M1 := by
                  funext ρ M
                  rw [evTAnd]
                  simp
                rw [q]
                exact w_and (ihT e v h2.1) (ih (v2 :: vs) h2.2)
      have q : (fun ρ M => evT C (.land es) ρ M) = fun ρ M => evTAnd C es ρ M := by funext ρ M; rw [evT]
      rw [q]
      exact (go es vs h).pt
    | lor es =>
      cases E <;> try (simp at h; done)
      simp only [Bool.and_eq_true, decide_eq_true_eq] at h
      rename_i op vs pos
      obtain ⟨rfl, h⟩ := h
      have go : ∀ (es : List Ex) (vs : List Expr), all2 (chkE n c) es vs = true → PW X (.BoolOp .Or vs pos) (TB X xi (fun ρ M => evTOr C es ρ M) W) := by
        intro es
        induction es with
        | nil =>
          intro vs h
          have q : (fun ρ M => evTOr C [] ρ M) = fun _ _ => Res.bad := by funext ρ M; rw [evTOr]
          rw [q]
          exact ⟨fun _ _ _ _ _ _ _ ⟨_, _, _, _, _, _, h⟩ => h.elim⟩
        | cons e es ih =>
          intro vs h
          cases vs with
          | nil => simp [all2] at h
          | cons v vs =>
            have h2 : chkE n c e v = true ∧ all2 (chkE n c) es vs = true := by simpa [all2] using h
            cases es with
            | nil =>
              cases vs with
              | nil =>
                have q : (fun ρ M => evTOr C [e] ρ M) = fun ρ M => evT C e ρ M := by funext ρ M; rw [evTOr]
                rw [q]; exact w_or1 (ihT e v h2.1)
              | cons _ _ => simp [all2] at h2
            | cons e2 es =>
              cases vs with
              | nil => simp [all2] at h2
              | cons v2 vs =>
                have q : (fun ρ M => evTOr C (e :: e2 :: es) ρ M) = fun ρ M => (evT C e ρ M).bind fun x M1 => if x then .ok true M1 else evTOr C (e2 :: es) ρ M1 := by
                  funext ρ M
                  rw [evTOr]
                  simp
                rw [q]
                exact w_or (ihT e v h2.1) (ih (v2 :: vs) h2.2)
      have q : (fun ρ M => evT C (.lor es) ρ M) = fun ρ M => evTOr C es ρ M := by funext ρ M; rw [evT]
      rw [q]
      exact (go es vs h).pt
    | lnot a =>
      cases E <;> try (simp at h; done)
      simp only [Bool.and_eq_true, decide_eq_true_eq] at h
      have q : (fun ρ M => evT C (.lnot a) ρ M) = fun ρ M => (evT C a ρ M).bind fun x M1 => .ok (!x) M1 := by funext ρ M; rw [evT]
      rw [q, h.1]
      exact t_not (ihT a _ h.2)
    | cmp o a b =>
      dsimp only at h
      split at h
      · rename_i A op B pos
        simp only [Bool.and_eq_true, decide_eq_true_eq] at h
        obtain ⟨⟨⟨rfl, h2⟩, h3⟩, h4⟩ := h
        have q : (fun ρ M => evT C (.cmp o a b) ρ M) = fun ρ M => (evE C a ρ M).bind fun x M1 => (evE C b ρ M1).bind fun y M2 => .opt (cmpS M2 o x y) M2 := by funext ρ M; rw [evT]
        rw [q]
        exact t_cmp L.units o (ihE a _ h2).2 (ihE b _ h3).2 (by simpa using h4)
      · cases h
    | cmp2 o o' a b d =>
      dsimp only at h
      split at h
      · rename_i A op op' B G pos
        simp only [Bool.and_eq_true, decide_eq_true_eq] at h
        obtain ⟨⟨⟨⟨⟨rfl, rfl⟩, h2⟩, h3⟩, h4⟩, h5⟩ := h
        have q : (fun ρ M => evT C (.cmp2 o o' a b d) ρ M) = chE (fun ρ M => evE C a ρ M) (fun ρ M => evE C b ρ M) (fun ρ M => evE C d ρ M) o o' := by
          funext ρ M
          rw [evT]
          try rfl
        rw [q]
        exact t_chain L.units o o' (ihE a _ h2).2 (ihE b _ h3).2 (ihE d _ h4).2 (by simpa using h5)
      · cases h
    | var i =>
      cases E <;> try (simp at h; done)
      refine truth (fun _ => rfl) fun ρ M => .inl ?_
      rw [evT, evE]
      cases ρ[i]? with
      | none => rfl
      | some o => cases o <;> rfl
    | isi a ts =>
      dsimp only at h
      split at h
      · refine truth (fun _ => rfl) fun ρ M => .inl ?_
        rw [evT, evE]
        exact tru_map (evE C a ρ M) fun x M1 => isiS M1 x ts
      · cases h
    | call f es =>
      dsimp only at h
      split at h
      · refine truth (fun _ => rfl) fun ρ M => .inl ?_
        rw [evT, evE]
        exact (bind_assoc _ _ _).symm
      · cases h
    | blt b es =>
      dsimp only at h
      have hq : ∀ ρ M, evT C (.blt b es) ρ M = ((evE C (.blt b es) ρ M).bind fun x M1 => .opt (truS M1 x) M1) := fun ρ M => by
        rw [evT, evE]
        exact tru_opt (evEs C es ρ M) fun ds M1 => bltS M1 b ds
      split at h
      · split at h
        · exact truth (fun _ => rfl) fun ρ M => .inl (hq ρ M)
        · cases h
      · split at h
        · exact truth (fun _ => rfl) fun ρ M => .inl (hq ρ M)
        · cases h
    | idx a i =>
      cases E <;> try (simp at h; done)
      refine truth (fun _ => rfl) fun ρ M => .inl ?_
      rw [evT, evE, bind_assoc]
      congr 1
      funext x M1
      exact tru_opt (evE C i ρ M1) fun y M2 => idxS M2 x y
    | op o a b =>
      cases E <;> try (simp at h; done)
      refine truth (fun _ => rfl) fun ρ M => .inl ?_
      rw [evT, evE, bind_assoc]
      congr 1
      funext x M1
      exact tru_opt (evE C b ρ M1) fun y M2 => opS M2 o x y
    | cst d =>
      cases E <;> try (simp at h; done)
      cases d with
      | bl b => exact truth (fun _ => rfl) fun ρ M => .inl (by rw [evT, evE]; rfl)
      | _ => exact nev fun ρ M => by simp [evT]
    | _ => exact nev fun ρ M => by simp [evT]
end
end Pv

set_option Elab.async false
set_option linter.all false
set_option maxRecDepth 100000
set_option maxHeartbeats 4000000
/-! Pv, part P: the check of statements suffices. -/
namespace Pv
open PySem PySem.Spec PyProof.Rows L2
def samePos (a b : Pos) : Bool := a.line == b.line
/-- a, b = x, y whose stores are exchanged -/
def swapB (x y : Str) (px py : Pos) (A B : Expr) : Bool := (px.line == py.line) && !decide (x = y) && !([A, B].all (foldedForSure 8)) && !([A, B].all (constantsAlone 8))
def chkLcS (p : Cc → Ex → Expr → Bool) (g : Cc → Tg → Expr → Bool) (c : Cc) (i : Nat) (own : List Nat) (tg : Tg) (k : ItK) (es ts : List Ex) (elt : Ex) (TG E : Expr) : Bool := match TG, E with
  | .Name y py, .ListComp ELT gs scope pos => decide (c.N[i]? = some y) && kindIs (c.sc.names.lookup y) .local && (py.line == pos.line) && !(scope.names.any fun (n, k) => n == y && (k == .local || k == .cell)) && chkC p g c own tg k es ts elt (.ListComp ELT gs scope pos)
  | _, _ => false
/-- a tuple of targets that holds a name of a cell -/
def cellT (sc : Scope) : Expr → Bool
  | .Tuple ts _ _ => ts.any fun t => match t with
    | .Name x _ => kindIs (sc.names.lookup x) .cell
    | _ => false
  | _ => false
def aOp : Op2 → Option Operator
  | .add => some .Add
  | .sub => some .Sub
  | _ => none
/-- what may stand in an except suite -/
def chkH (c : Cc) (s : Stm) (S : Stmt) : Bool := match s with
  | .pass => match S with
    | .Pass _ => true
    | _ => false
  | .cnt => match S with
    | .Continue _ => true
    | _ => false
  | .brk => match S with
    | .Break _ => true
    | _ => false
  | .ret (.cst d) => match S with
    | .Return (some (.Constant k _ _)) _ => cstB d k
    | _ => false
  | _ => false
def chkS (m : Nat) : Nat → Cc → Stm → Stmt → Bool
  | 0, _, _, _ => false
  | n + 1, c, s, S => match s with
    | .never => true
    | .pass => match S with
      | .Pass _ => true
      | .Expr (.Constant (.str _) _ _) _ => true
      | _ => false
    | .brk => match S with
      | .Break _ => true
      | _ => false
    | .cnt => match S with
      | .Continue _ => true
      | _ => false
    | .expr e => match S with
      | .Expr E _ => chkE m c e E && !isLcE E
      | _ => false
    | .ret e => match S with
      | .Return (some E) _ => chkE m c e E
      | _ => false
    | .ite t a b => match S with
      | .If T A B _ => chkE m c t T && all2 (chkS m n c) a A && all2 (chkS m n c) b B
      | _ => false
    | .asg t e => match S with
      | .Assign [TG] E _ => (match t, e with
        | .name i, .comp own tg k es ts elt => chkLcS (chkE m) (chkT m) c i own tg k es ts elt TG E
        | .name i, .cell (.comp own tg k es ts elt) => chkLcS (chkE m) (chkT m) c i own tg k es ts elt TG E
        | _, _ => chkT m c t TG && chkE m c e E && !isLcE E && (!(isTupE TG && isTupE E) || cellT c.sc TG))
      | _ => false
    | .par i j a b => match S with
      | .Assign [.Tuple [.Name x px, .Name y py] _ _] (.Tuple [A, B] _ _) _ => decide (c.N[i]? = some x) && decide (c.N[j]? = some y) && !decide (i = j) && kindIs (c.sc.names.lookup x) .local && kindIs (c.sc.names.lookup y) .local && chkE m c a A && chkE m c b B && swapB x y px py A B
      | _ => false
    | .aug i o e => match S with
      | .AugAssign (.Name x _) op E _ => decide (c.N[i]? = some x) && decide (aOp o = some op) && chkE m c e E && ((kindIs (c.sc.names.lookup x) .local) || (kindIs (c.sc.names.lookup x) .cell && c.fnB x))
      | _ => false
    | .setI o i e => match S with
      | .Assign [.Subscript O I _] E _ => chkE m c o O && chkE m c i I && chkE m c e E && !isLcE E
      | _ => false
    | .for_ tg k es body => match S with
      | .For TG ITER B [] _ => chkIt (chkE m c) c k es TG ITER && chkT m c tg TG && all2 (chkS m n c) body B
      | _ => false
    | .whl _ t body => match S with
      | .While T B [] _ => chkE m c t T && all2 (chkS m n c) body B
      | _ => false
    | .raise x es => match S with
      | .Raise (some (.Call (.Name y _) [] [] _)) none _ => decide (c.exs x = some y) && glB c.sc y && dbgB y && decide (es.length = 0)
      | _ => false
    | .try_ body x h => match S with
      | .Try B [.ExceptHandler (some (.Name y _)) none (H0 :: Hs) _] [] [] _ => decide (c.exs x = some y) && glB c.sc y && dbgB y && all2 (chkS m n c) body B && all2 (chkH c) h (H0 :: Hs)
      | _ => false
theorem sw_plain {E : Expr} (h : isLcE E = false) (hp : plainE E = true) (t : Option Expr) (l : Nat) (env : PySem.Env) : swapsWith E t l env = pure false := by
  cases E <;> first | rfl | (simp [plainE] at hp; done) | (simp [isLcE] at h)
theorem swS_plain {E T : Expr} (h : isLcE E = false) (hp : plainE E = true) (l : Nat) (env : PySem.Env) : swapsWithSole [T] E l env = pure false := sw_plain h hp _ _ _
def tgOk : Expr → Bool
  | .Name .. => true
  | .Tuple .. => true
  | .Subscript .. => true
  | _ => false
theorem chkT_tg {n : Nat} {c : Cc} {t : Tg} {E : Expr} (h : chkT n c t E = true) : tgOk E = true := by
  cases n with
  | zero => simp [chkT] at h
  | succ n =>
    unfold chkT at h
    cases t <;> cases E <;> first | rfl | (simp at h)
theorem stores_plain {E T : Expr} (h : (isTupE T && isTupE E) = false) (hp : plainE E = true) (hT : tgOk T = true) (env : PySem.Env) : swappedStores [T] E env = pure none := by
  cases T <;> first | (simp [tgOk] at hT; done) | skip
  all_goals (cases E <;> first | rfl | (simp [isTupE] at h; done) | (simp [plainE] at hp; done))
theorem filt_lt {α β : Type} {f : α → Option β} : ∀ {l : List α}, (∃ a ∈ l, f a = none) → (l.filterMap f).length < l.length
  | [], h => by obtain ⟨a, h, _⟩ := h; cases h
  | b :: l, h => by
    rw [List.filterMap_cons]
    have le : (l.filterMap f).length ≤ l.length := List.length_filterMap_le f l
    cases e : f b with
    | none => simp only [List.length_cons]; omega
    | some c =>
      obtain ⟨a, ha, e2⟩ := h
      rcases List.mem_cons.mp ha with q | q
      · rw [q, e] at e2; cases e2
      · have := filt_lt ⟨a, q, e2⟩
        simp only [List.length_cons]
        omega
theorem stores_cell {E T : Expr} {env : PySem.Env} (h : cellT env.scope T = true) (hp : plainE E = true) : swappedStores [T] E env = pure none := by
  cases T <;> try (simp [cellT] at h; done)
  rename_i ts kt pt
  cases E <;> first | rfl | (simp [plainE] at hp; done) | skip
  rename_i vs kv pv
  simp only [cellT, List.any_eq_true] at h
  obtain ⟨t, ht, hk⟩ := h
  unfold swappedStores
  simp only []
  split
  · rfl
  · split
    · rfl
    · have lt : (ts.filterMap fun
          | .Name id pos => if env.kindOf id == some .local && pos.line == (ts.head?.map (·.pos.line)).getD 0 then some id else none
          | _ => none).length < ts.length := by
        refine filt_lt ⟨t, ht, ?_⟩
        split at hk
        · rename_i x px
          have q : env.kindOf x = some .cell := kindIs_eq hk
          simp [q]
        · cases hk
      rw [if_pos (by simp only [Bool.or_eq_true, bne_iff_ne]; exact .inl (Nat.ne_of_lt lt))]
theorem stores_two {x y : Str} {px py pt pt2 : Pos} {kt k2 : Nat} {A B : Expr} {env : PySem.Env} (hk : env.scope.kind = .function) (hx : env.scope.names.lookup x = some .local) (hy : env.scope.names.lookup y = some .local) (h : swapB x y px py A B = true) (hp : plainE A = true ∧ plainE B = true) :
    swappedStores [.Tuple [.Name x px, .Name y py] kt pt] (.Tuple [A, B] k2 pt2) env = pure (some [x, y]) := by
  unfold swapB at h
  simp only [Bool.and_eq_true, Bool.not_eq_true', decide_eq_false_iff_not] at h
  obtain ⟨⟨⟨h1, h2⟩, h3⟩, h4⟩ := h
  have bk : env.blockKind = .function := by unfold Env.blockKind; rw [hk]; rfl
  have kx : env.kindOf x = some .local := hx
  have ky : env.kindOf y = some .local := hy
  unfold swappedStores
  have h1' : (py.line == px.line) = true := by rw [beq_iff_eq] at h1 ⊢; exact h1.symm
  have ed : ([x, y] : List Str).eraseDups.length = 2 := by
    have : (y == x) = false := by simpa using fun e : y = x => h2 e.symm
    simp [List.eraseDups_cons, this]
  simp only [bk, List.filterMap_cons, List.filterMap_nil, kx, ky, List.head?_cons, Option.map_some, Option.getD_some, Expr.pos, h1', beq_self_eq_true, Bool.and_self, if_true, List.length_cons, List.length_nil, ed, h3, h4, bne_self_eq_false]
  clear h3 h4
  obtain ⟨p1, p2⟩ := hp
  cases A <;> first | (simp [plainE] at p1; done) | skip
  all_goals (cases B <;> first | (simp [plainE] at p2; done) | rfl)
section
variable {c : Cc} {C : Ctx} {k : Nat} {xi : XTab} {X : Cx} {W : L2.WX}
theorem snd_lcS {m i : Nat} {own : List Nat} {tg : Tg} {kk : ItK} {es ts : List Ex} {elt : Ex} {TG E : Expr} {spos : Pos} {post : List D → Mem → Res D} (hpost : Post X.K xi post) (L : Lk c C k xi X W) (h : chkLcS (chkE m) (chkT m) c i own tg kk es ts elt TG E = true) :
    PS X (.Assign [TG] E spos) (TSt X xi (fun ρ M => ((evEs C es ρ M).bind fun ds M1 => match itS M1 kk ds with
      | some it => if it.ds.length ≤ line then (evC it.gd (cTurn own tg (fun ρ M => evTs C ts ρ M) (fun ρ M => evE C elt ρ M) ρ) it.ds [] M1).bind post else .bad
      | none => .bad).toRS ρ fun d M1 => match asgT (.name i) d ρ with | some ρ' => .nx ρ' M1 | none => .bad) W) := by
  unfold chkLcS at h
  split at h
  · rename_i y py ELT gs scope pos
    simp only [Bool.and_eq_true, decide_eq_true_eq, Bool.not_eq_true'] at h
    obtain ⟨⟨⟨⟨g1, g2⟩, g3⟩, g4⟩, h⟩ := h
    unfold chkC at h
    split at h
    · rename_i ELT2 TG2 ITER IFS z scope2 pos2 heq
      cases heq
      simp only [Bool.and_eq_true, decide_eq_true_eq] at h
      obtain ⟨⟨⟨⟨⟨⟨⟨h1, h2⟩, h3⟩, h4⟩, h5⟩, h6⟩, h7⟩, h8⟩ := h
      subst h1
      have ok := blkOk_by h2
      obtain ⟨i1, i2⟩ := snd_it L (fun e E q => (sndE m c X W L).1 e E q) h3
      have eo : (ownN c own).map (·.2) = own := by unfold ownN; rw [List.map_map]; exact List.map_id' _
      have okX : BlkOk X.N X.env.scope scope (ownN c own) := by rw [L.N, L.sc]; exact ok
      have hyl : X.env.scope.names.lookup y = some .local := by rw [L.sc]; exact kindIs_eq g2
      have q := s_setLc (ifs := IFS) (fe := fun ρ M => evE C elt ρ M) (ft := fun ρ M => evTs C ts ρ M) (pos := pos) (spos := spos) (py := py) (i := i) (y := y) L.calm L.nd (by rw [L.N]; exact g1) hyl (sw_true L.kind hyl g3 g4) i2 okX (fun s H A cl fp => (snd_t m (L.blk ok.kind s H A cl fp) h4).2) (fun s H A cl fp => ?_) (fun s H A cl fp => ((sndE m _ _ _ (L.blk ok.kind s H A cl fp)).1 elt ELT h7).2) i1 (fun i hi => by
        rw [eo]
        have := List.all_eq_true.mp h8 i hi
        simpa using this) hpost
      · rw [eo] at q
        exact q
      · have LB := L.blk ok.kind s H A cl fp
        match ts, IFS, h5, h6 with
        | [], [], _, _ =>
          have e : (fun ρ M => evTs C [] ρ M) = fun _ M => Res.ok true M := by funext ρ M; rw [evTs]
          rw [e]
          refine ⟨fun pins s σ H Q I hw => pts_nil.run pins s σ H Q I ?_⟩
          obtain ⟨S, ρ, M, rfl, er, mr, hr⟩ := hw
          exact hr.ok mr rfl
        | [t], [T], _, h6 =>
          have h7 : chkE m (c.blk scope) t T = true := by simpa [all2] using h6
          have e : (fun ρ M => evTs C [t] ρ M) = fun ρ M => evT C t ρ M := by funext ρ M; rw [evTs]
          rw [e]
          exact pts_one ((sndE m _ _ _ LB).2 t T h7)
        | _ :: _ :: _, _, h5, _ => simp at h5
        | [], _ :: _, _, h6 => simp [all2] at h6
        | [_], [], _, h6 => simp [all2] at h6
        | [_], _ :: _ :: _, _, h6 => simp [all2] at h6
    · cases h
  · cases h
theorem snd_ss {n m : Nat} (hp : ∀ s S, chkS m n c s S = true → PS X S (TSt X xi (fun ρ M => evS C s ρ M) W)) : ∀ {ss : List Stm} {Ss : List Stmt}, all2 (chkS m n c) ss Ss = true → PSs X Ss (TSt X xi (fun ρ M => evSs C ss ρ M) W)
  | [], [], _ => by
    have e : (fun ρ M => evSs C [] ρ M) = fun ρ M => RS.nx ρ M := by funext ρ M; rw [evSs]
    rw [e]; exact ss_nil
  | s :: ss, S :: Ss, h => by
    have h2 : chkS m n c s S = true ∧ all2 (chkS m n c) ss Ss = true := by simpa [all2] using h
    have q : (fun ρ M => evSs C (s :: ss) ρ M) = fun ρ M => match evS C s ρ M with | .nx ρ' M' => evSs C ss ρ' M' | r => r := by
      funext ρ M
      rw [evSs]
      try (cases evS C s ρ M <;> rfl)
    rw [q]
    exact ss_cons (hp s S h2.1) (snd_ss hp h2.2)
  | [], _ :: _, h => by simp [all2] at h
  | _ :: _, [], h => by simp [all2] at h
theorem s_aug {i : Nat} {x : Str} {e : Expr} {f : Env → Mem → Res D} {op : Operator} {o : Op2} {pos pos' : Pos} (hN : X.N.Nodup) (hi : X.N[i]? = some x) (hx : L2.Loc X.env.scope x) (he : PE X e (TD X xi f W)) (ho : aOp o = some op) (hf : X.fn x = true ∨ X.env.scope.names.lookup x = some .local) :
    PS X (.AugAssign (.Name x pos') op e pos) (TSt X xi (fun ρ M => match ρ[i]? with
    | some (some x) => (f ρ M).toRS ρ fun y M1 => match x, y with
      | .int a, .int b => match opI o a b with
        | some c => .nx (ρ.set i (some (.int c))) M1
        | none => .bad
      | _, _ => .bad
    | _ => .bad) W) := by
  have ip : ∃ g : Int → Int → Int, PIp X op (ipI g) ∧ ∀ a b, opI o a b = some (g a b) := by
    cases o <;> simp only [aOp, Option.some.injEq] at ho <;> try (cases ho; done)
    · subst ho; exact ⟨_, ip_add, fun _ _ => rfl⟩
    · subst ho; exact ⟨_, ip_sub, fun _ _ => rfl⟩
  obtain ⟨g, pg, eg⟩ := ip
  refine PS.weak (ps_aug hN hi hx he pg hf) ?_
  rintro D σ H ⟨S, ρ, M, rfl, er, mr, hr⟩
  dsimp only at hr
  split at hr
  · rename_i d e
    obtain ⟨v, e1, r⟩ := er.at_ i d e
    refine ⟨v, e1, sS_step er mr hr fun S1 y M1 w e2 x1 m1 er1 r1 h1 => ?_⟩
    split at h1
    · rename_i a b
      rw [eg] at h1
      cases r
      cases r1
      exact ⟨a, b, rfl, rfl, h1 S1 _ (Ext.refl S1) (er1.set i (.int _)) m1⟩
    · exact h1.elim
  · exact hr.elim
/-- X(), X an error's class without an __init__ of its own -/
theorem pmk0 {A : Addr} {bmB : List Value} {B newId initId : String} {x : Str} {p pos : Pos} (F : ExcBaseFacts B newId initId bmB) (q : PySem.W.excIn X.K A bmB newId = true) (gC : X.mg x = some (.ref A)) (kC : PySem.W.keepIn X.K (.ref A) = true) (r : Raises X (.ref A)) (hg : Gl X x)
    (hdb : (x == ("__debug__" : Str)) = false) : PMk X (.Call (.Name x p) [] [] pos) (fun _ H Q => Q (.ref A) none H) := by
  intro pins s σ H Q I h
  refine wpAny_Call_Name_kw (ld_glob I hg gC ?_ hdb)
  refine PySem.W.callWith_K0 I.kIn kC ?_
  show wpAny _ _ (call (.ref A) []) _ _ _
  obtain ⟨bm, N, nm, qn, bs, hdct, sn, sub, ab, col, dd, k0, k1, k2, k3, k5, mN, hC, hN, hni, T⟩ := exc_obj I.kIn q
  refine wpAny_call_exc_subT F T hC hN hni (fun h' e hm => ?_) (Nat.zero_le _)
  exact mk_of I hm r h (I.hok.gone hm.new)
theorem s_raise {A : Addr} {n : Nat} {x : Str} {p p2 pos : Pos} (hc : X.calm = true) (tk : Takes X W) (hx : xi n = some (A, none)) (gC : X.mg x = some (.ref A)) (kC : PySem.W.keepIn X.K (.ref A) = true) (q : PySem.W.excIn X.K A exBase "Exception.__new__" = true)
    (s1 : PySem.W.subIn X.K (.ref A) (.type "BaseException") = some true) (s2 : PySem.W.typeIn X.K (.ref A) = some (.type "type")) (hg : Gl X x) (hdb : (x == ("__debug__" : Str)) = false) :
    PS X (.Raise (some (.Call (.Name x p) [] [] p2)) none pos) (TSt X xi (fun ρ M => .exc n [] ρ M) W) := by
  refine PS.weak (ps_raise hc tk (pmk0 PySem.F.excBase_Exception q gC kC (raises_own s1 s2) hg hdb)) ?_
  rintro D σ H ⟨S, ρ, M, rfl, er, mr, hr⟩
  exact hr S σ (.ref A) none (Ext.refl S) er mr (.plain hx)
theorem snd_h {X : Cx} {W : L2.WX} {C : Ctx} : ∀ {ss : List Stm} {Ss : List Stmt}, all2 (chkH c) ss Ss = true → PSs X Ss (TSt X xi (fun ρ M => evSs C ss ρ M) W)
  | [], [], _ => by
    have e : (fun ρ M => evSs C [] ρ M) = fun ρ M => RS.nx ρ M := by funext ρ M; rw [evSs]
    rw [e]; exact ss_nil
  | s :: ss, S :: Ss, h => by
    have h2 : chkH c s S = true ∧ all2 (chkH c) ss Ss = true := by simpa [all2] using h
    have q : (fun ρ M => evSs C (s :: ss) ρ M) = fun ρ M => match evS C s ρ M with | .nx ρ' M' => evSs C ss ρ' M' | r => r := by
      funext ρ M
      rw [evSs]
      try (cases evS C s ρ M <;> rfl)
    rw [q]
    refine ss_cons (f := fun ρ M => evS C s ρ M) ?_ (snd_h h2.2)
    have h3 := h2.1
    unfold chkH at h3
    split at h3
    · cases S <;> try (simp at h3; done)
      have q : (fun ρ M => evS C .pass ρ M) = fun ρ M => RS.nx ρ M := by funext ρ M; rw [evS]
      rw [q]; exact s_pass
    · cases S <;> try (simp at h3; done)
      have q : (fun ρ M => evS C .cnt ρ M) = fun ρ M => RS.cnt ρ M := by funext ρ M; rw [evS]
      rw [q]; exact s_cnt
    · cases S <;> try (simp at h3; done)
      have q : (fun ρ M => evS C .brk ρ M) = fun ρ M => RS.brk ρ M := by funext ρ M; rw [evS]
      rw [q]; exact s_brk
    · rename_i d
      split at h3
      · rename_i k kn p1 p2
        have q : (fun ρ M => evS C (.ret (.cst d)) ρ M) = fun ρ M => (Res.ok d M : Res D).toRS ρ fun d M1 => .ret d M1 := by funext ρ M; rw [evS, evE]
        rw [q]
        refine s_ret (f := fun ρ M => .ok d M) ?_
        cases d <;> cases k <;> simp [cstB] at h3
        · exact e_cst pe_non fun _ => .non
        · subst h3; exact e_cst pe_bl fun _ => .bl _
        · subst h3; exact e_cst pe_int fun _ => .int _
        · subst h3
          refine e_cst pe_str fun _ => ?_
          exact .str _
      · cases h3
    · cases h3
  | [], _ :: _, h => by simp [all2] at h
  | _ :: _, [], h => by simp [all2] at h
theorem Lk.tr (L : Lk c C k xi X W) {pn : List (Addr × Obj)} {xe : Value → Shared → Prop} {W' : L2.WX} (tk : Takes (X.tr pn xe) W') (po : PassesOwn (model X.prog X.w) X.A X.env xe) : Lk c C k xi (X.tr pn xe) W' where
  N := L.N
  nd := L.nd
  sc := L.sc
  kind := L.kind
  fn := L.fn
  calm := L.calm
  room := L.room
  tk := tk
  po := fun _ => po
  fns := L.fns
  con := L.con
  free := L.free
  st := L.st
  exs := L.exs
  exm := L.exm
theorem s_try {n : Nat} {x : Str} {np pos pos' : Pos} {body : List Stmt} {b0 : Stmt} {suite : List Stmt} {f g : Env → Mem → RS} {A : Addr} (hs : X.stack = X.env :: X.outer) (hf : X.env.frame = some X.env.locals) (hc : Names X x (.ref A)) (tk : Takes X W)
    (hm : ∀ y B fl, xi y = some (B, fl) → PySem.W.exmOne X.K (.ref B) (.ref A) = some (decide (y = n)))
    (hb : ∀ (W : L2.WX) (pn : List (Addr × Obj)) (xe : Value → Shared → Prop), Takes (X.tr pn xe) W → PassesOwn (model X.prog X.w) X.A X.env xe → PSs (X.tr pn xe) body (TSt X xi f W))
    (hsu : ∀ (a : Addr) (pn : List (Addr × Obj)), PSs (X.suite a pn) (b0 :: suite) (TSt X xi g W)) :
    PS X (.Try body [.ExceptHandler (some (.Name x np)) none (b0 :: suite) pos'] [] [] pos) (TSt X xi (fun ρ M => match f ρ M with
      | .exc y vs ρ' M' => if y = n then g ρ' M' else .exc y vs ρ' M'
      | r => r) W) := by
  refine PS.weak (ps_try_only hs hf hc tk hb (ts := fun _ _ _ => TSt X xi g W) fun a oe cls d pn _ _ => hsu a _) ?_
  rintro D σ H ⟨S, ρ, M, rfl, er, mr, hr⟩
  refine ⟨S, ρ, M, rfl, er, mr, ?_⟩
  dsimp only at hr
  cases e : f ρ M with
  | exc y vs ρ' M' =>
    rw [e] at hr
    intro S' σ' cls dx x1 er1 m1 hx
    have key : ∃ B fl, xi y = some (B, fl) ∧ cls = .ref B := by
      cases hx with
      | plain h => exact ⟨_, _, h, rfl⟩
      | field h _ _ => exact ⟨_, _, h, rfl⟩
    obtain ⟨B, fl, hB, rfl⟩ := key
    refine ⟨decide (y = n), hm y B fl hB, fun hy a ha => ?_, fun hy => ?_⟩
    · dsimp only at hr
      rw [if_pos (of_decide_eq_true hy)] at hr
      exact ⟨S', ρ', M', rfl, er1, m1, RunS.mo x1 hr⟩
    · dsimp only at hr
      rw [if_neg (of_decide_eq_false hy)] at hr
      exact hr S' σ' _ dx x1 er1 m1 hx
  | nx ρ' M' => rw [e] at hr; exact hr
  | brk ρ' M' => rw [e] at hr; exact hr
  | cnt ρ' M' => rw [e] at hr; exact hr
  | ret d M' => rw [e] at hr; exact hr
  | bad => rw [e] at hr; exact hr
theorem sndS {m : Nat} : ∀ (n : Nat) (c : Cc) (X : Cx) (W : L2.WX), Lk c C k xi X W → c.top = true → ∀ s S, chkS m n c s S = true → PS X S (TSt X xi (fun ρ M => evS C s ρ M) W)
  | 0, _, _, _, _, _, _, _, h => by simp [chkS] at h
  | n + 1, c, X, W, L, hT, s, S, h => by
    have ih := sndS (m := m) n c X W L hT
    have hE := (sndE m c X W L).1
    have hTs := (sndE m c X W L).2
    unfold chkS at h
    cases s with
    | never =>
      have q : (fun ρ M => evS C .never ρ M) = fun _ _ => RS.bad := by funext ρ M; rw [evS]
      rw [q]; exact s_never
    | pass =>
      have q : (fun ρ M => evS C .pass ρ M) = fun ρ M => RS.nx ρ M := by funext ρ M; rw [evS]
      rw [q]
      dsimp only at h
      split at h
      · exact s_pass
      · refine PS.weak ps_doc ?_
        rintro D σ H ⟨S, ρ, M, rfl, er, mr, hr⟩
        exact hr S σ (Ext.refl S) er mr
      · cases h
    | brk =>
      cases S <;> try (simp at h; done)
      have q : (fun ρ M => evS C .brk ρ M) = fun ρ M => RS.brk ρ M := by funext ρ M; rw [evS]
      rw [q]; exact s_brk
    | cnt =>
      cases S <;> try (simp at h; done)
      have q : (fun ρ M => evS C .cnt ρ M) = fun ρ M => RS.cnt ρ M := by funext ρ M; rw [evS]
      rw [q]; exact s_cnt
    | expr e =>
      cases S <;> try (simp at h; done)
      simp only [Bool.and_eq_true, Bool.not_eq_true'] at h
      have q : (fun ρ M => evS C (.expr e) ρ M) = fun ρ M => (evE C e ρ M).toRS ρ fun _ M1 => .nx ρ M1 := by funext ρ M; rw [evS]
      rw [q]
      exact s_expr (hE e _ h.1).2 (sw_plain h.2 (hE e _ h.1).1 _ _ _)
    | ret e =>
      dsimp only at h
      split at h
      · have q : (fun ρ M => evS C (.ret e) ρ M) = fun ρ M => (evE C e ρ M).toRS ρ fun d M1 => .ret d M1 := by funext ρ M; rw [evS]
        rw [q]
        exact s_ret (hE e _ h).2
      · cases h
    | ite t a b =>
      cases S <;> try (simp at h; done)
      simp only [Bool.and_eq_true] at h
      have q : (fun ρ M => evS C (.ite t a b) ρ M) = fun ρ M => (evT C t ρ M).toRS ρ fun k M1 => if k then evSs C a ρ M1 else evSs C b ρ M1 := by funext ρ M; rw [evS]
      rw [q]
      exact s_if (hTs t _ h.1.1) (snd_ss ih h.1.2) (snd_ss ih h.2)
    | asg t e =>
      have q : (fun ρ M => evS C (.asg t e) ρ M) = fun ρ M => (evE C e ρ M).toRS ρ fun d M1 => match asgT t d ρ with | some ρ' => .nx ρ' M1 | none => .bad := by
        funext ρ M
        rw [evS]
        try rfl
      rw [q]
      dsimp only at h
      split at h
      · rename_i TG E pos
        split at h
        · rename_i i own tg kk es ts elt
          have q : (fun ρ M => evE C (.comp own tg kk es ts elt) ρ M) = fun ρ M => (evEs C es ρ M).bind fun ds M1 => match itS M1 kk ds with
            | some it => if it.ds.length ≤ line then (evC it.gd (cTurn own tg (fun ρ M => evTs C ts ρ M) (fun ρ M => evE C elt ρ M) ρ) it.ds [] M1).bind (fun ys M => .ok (.lst ys) M) else .bad
            | none => .bad := by funext ρ M; rw [evE]; rfl
          have q2 : ∀ ρ M, evE C (.comp own tg kk es ts elt) ρ M = _ := fun ρ M => congrFun (congrFun q ρ) M
          simp only [q2]
          exact snd_lcS post_lst L h
        · rename_i i own tg kk es ts elt
          have q2 : ∀ ρ M, evE C (.cell (.comp own tg kk es ts elt)) ρ M = ((evEs C es ρ M).bind fun ds M1 => match itS M1 kk ds with
            | some it => if it.ds.length ≤ line then (evC it.gd (cTurn own tg (fun ρ M => evTs C ts ρ M) (fun ρ M => evE C elt ρ M) ρ) it.ds [] M1).bind (fun ys M => .ok (.loc M.length) (M ++ [.lst ys])) else .bad
            | none => .bad) := by
            intro ρ M
            rw [evE, evE]
            exact cell_map (evEs C es ρ M) (fun it M1 => evC it.gd (cTurn own tg (fun ρ M => evTs C ts ρ M) (fun ρ M => evE C elt ρ M) ρ) it.ds [] M1)
          simp only [q2]
          exact snd_lcS post_cell L h
        · simp only [Bool.and_eq_true, Bool.not_eq_true'] at h
          obtain ⟨⟨⟨h1, h2⟩, h3⟩, h4⟩ := h
          obtain ⟨i1, i2⟩ := snd_t m L h1
          obtain ⟨j1, j2⟩ := hE e E h2
          refine s_asg j2 i2 (swS_plain h3 j1 _ _) ?_ i1
          simp only [Bool.or_eq_true, Bool.not_eq_true'] at h4
          rcases h4 with h4 | h4
          · exact stores_plain h4 j1 (chkT_tg h1) _
          · exact stores_cell (by rw [L.sc]; exact h4) j1
      · cases h
    | par i j a b =>
      dsimp only at h
      split at h
      · rename_i x px y py kt pt A B k2 pt2 pos
        simp only [Bool.and_eq_true, decide_eq_true_eq, Bool.not_eq_true', decide_eq_false_iff_not] at h
        obtain ⟨⟨⟨⟨⟨⟨⟨h1, h2⟩, h3⟩, h4⟩, h5⟩, h6⟩, h7⟩, h8⟩ := h
        obtain ⟨i1, i2⟩ := hE a A h6
        obtain ⟨j1, j2⟩ := hE b B h7
        have lx : X.env.scope.names.lookup x = some .local := by rw [L.sc]; exact kindIs_eq h4
        have ly : X.env.scope.names.lookup y = some .local := by rw [L.sc]; exact kindIs_eq h5
        have q : (fun ρ M => evS C (.par i j a b) ρ M) = fun ρ M => (evE C a ρ M).toRS ρ fun u M1 => (evE C b ρ M1).toRS ρ fun v M2 => .nx ((ρ.set i (some u)).set j (some v)) M2 := by funext ρ M; rw [evS]
        rw [q]
        exact s_par L.calm L.nd (by rw [L.N]; exact h1) (by rw [L.N]; exact h2) h3 lx ly i2 j2 (by simp [i1, j1]) (stores_two L.kind lx ly h8 ⟨i1, j1⟩)
      · cases h
    | aug i o e =>
      dsimp only at h
      split at h
      · rename_i x p2 op E pos
        simp only [Bool.and_eq_true, decide_eq_true_eq, Bool.or_eq_true] at h
        obtain ⟨⟨⟨h1, h2⟩, h3⟩, h4⟩ := h
        have q : (fun ρ M => evS C (.aug i o e) ρ M) = fun ρ M => match ρ[i]? with
          | some (some x) => (evE C e ρ M).toRS ρ fun y M1 => match x, y with
            | .int a, .int b => match opI o a b with
              | some c => .nx (ρ.set i (some (.int c))) M1
              | none => .bad
            | _, _ => .bad
          | _ => .bad := by
          funext ρ M
          rw [evS]
          try rfl
        rw [q]
        refine s_aug L.nd (by rw [L.N]; exact h1) ?_ (hE e E h3).2 h2 ?_
        · unfold L2.Loc
          rw [L.sc]
          rcases h4 with h4 | h4
          · exact .inl (kindIs_eq h4)
          · exact .inr (kindIs_eq h4.1)
        · rw [L.sc]
          rcases h4 with h4 | h4
          · exact .inr (kindIs_eq h4)
          · exact .inl (L.fn _ h4.2)
      · cases h
    | setI o i e =>
      dsimp only at h
      split at h
      · rename_i O I p2 E pos
        simp only [Bool.and_eq_true, Bool.not_eq_true'] at h
        obtain ⟨⟨⟨h1, h2⟩, h3⟩, h4⟩ := h
        obtain ⟨i1, i2⟩ := hE o O h1
        obtain ⟨j1, j2⟩ := hE i I h2
        obtain ⟨k1, k2⟩ := hE e E h3
        have q : (fun ρ M => evS C (.setI o i e) ρ M) = fun ρ M => (evE C e ρ M).toRS ρ fun v M1 => (evE C o ρ M1).toRS ρ fun x M2 => (evE C i ρ M2).toRS ρ fun y M3 => match setS x y v M3 with | some M4 => .nx ρ M4 | none => .bad := by
          funext ρ M
          rw [evS]
          try rfl
        rw [q]
        exact s_setI (by have := L.units; omega) k2 i2 j2 j1 (swS_plain h4 k1 _ _) (stores_plain (by simp [isTupE]) k1 rfl _)
      · cases h
    | for_ tg kk es body =>
      dsimp only at h
      split at h
      · rename_i TG ITER B pos
        simp only [Bool.and_eq_true] at h
        obtain ⟨⟨h1, h2⟩, h3⟩ := h
        obtain ⟨i1, i2⟩ := snd_it L hE h1
        have q : (fun ρ M => evS C (.for_ tg kk es body) ρ M) = fun ρ M => (evEs C es ρ M).toRS ρ fun ds M1 => match itS M1 kk ds with
          | some it => evF it.gd (asgT tg) (fun ρ M => evSs C body ρ M) it.ds ρ M1
          | none => .bad := by
          funext ρ M
          rw [evS]
          try rfl
        rw [q]
        exact s_for (L.po hT) L.calm i2 (snd_t m L h2).2 (snd_ss ih h3) i1
      · cases h
    | whl w t body =>
      dsimp only at h
      split at h
      · rename_i T B pos
        simp only [Bool.and_eq_true] at h
        have q : (fun ρ M => evS C (.whl w t body) ρ M) = fun ρ M => evW (fun ρ M => evT C t ρ M) (fun ρ M => evSs C body ρ M) w ρ M := by
          funext ρ M
          rw [evS]
        rw [q]
        exact s_while (L.po hT) (hTs t _ h.1) (snd_ss ih h.2)
      · cases h
    | raise x es =>
      dsimp only at h
      split at h
      · rename_i y p p2 pos
        simp only [Bool.and_eq_true, decide_eq_true_eq] at h
        obtain ⟨⟨⟨h1, h2⟩, h3⟩, h4⟩ := h
        obtain ⟨A, g1, g2, g3, g4, g5, g6⟩ := L.exs x y h1
        have e0 : es = [] := List.eq_nil_of_length_eq_zero h4
        subst e0
        have q : (fun ρ M => evS C (.raise x []) ρ M) = fun ρ M => RS.exc x [] ρ M := by funext ρ M; rw [evS, evEs]; rfl
        rw [q]
        exact s_raise L.calm L.tk g2 g1 g3 g4 g5 g6 (L.gl h2) (notDbg h3)
      · cases h
    | try_ body x hb =>
      dsimp only at h
      split at h
      · rename_i B y np H0 Hs p1 pos
        simp only [Bool.and_eq_true, decide_eq_true_eq] at h
        obtain ⟨⟨⟨⟨h1, h2⟩, h3⟩, h4⟩, h5⟩ := h
        obtain ⟨A, g1, g2, g3, g4, g5, g6⟩ := L.exs x y h1
        obtain ⟨st1, st2⟩ := L.st hT
        have q : (fun ρ M => evS C (.try_ body x hb) ρ M) = fun ρ M => match evSs C body ρ M with
          | .exc y vs ρ' M' => if y = x then evSs C hb ρ' M' else .exc y vs ρ' M'
          | r => r := by
          funext ρ M
          rw [evS]
          try (cases evSs C body ρ M <;> rfl)
        rw [q]
        exact s_try st1 st2 ⟨L.gl h2, notDbg h3, .inl g1⟩ L.tk (fun y' B' fl hB => L.exm y' B' fl hB x y A h1 g1) (fun W' pn xe tk po => snd_ss (sndS (m := m) n c _ W' (L.tr tk po) hT) h4) fun a pn => snd_h h5
      · cases h
end
end Pv

set_option Elab.async false
set_option linter.all false
set_option maxRecDepth 100000
set_option maxHeartbeats 4000000
/-! Pv, part Q: a def's entry and end; all defs keep their promise. -/
namespace Pv
open PySem PySem.Spec PyProof.Rows L2
section
variable {K : PySem.W.Frag} {xi : XTab} {S S' : Sw}
mutual
theorem Rep.under (hm : n = S.m.length) : ∀ (d : D) {v : V}, Rep K S d v → D.under n d = true
  | .non, _, h => rfl
  | .bl _, _, h => rfl
  | .int _, _, h => rfl
  | .str _, _, h => rfl
  | .tup ds, _, h => by
    cases h with
    | tup h1 h2 => rw [D.under]; exact Reps.under hm ds h2
  | .lst ds, _, h => by
    cases h with
    | lst h1 h2 => rw [D.under]; exact Reps.under hm ds h2
  | .loc k, _, h => by
    cases h with
    | loc h1 => rw [D.under]; have := (List.getElem?_eq_some_iff.mp h1).1; simpa [hm] using this
  | .ro l ds, _, h => by
    cases h with
    | ro h1 h2 => rw [D.under]; exact Reps.under hm ds h2
theorem Reps.under (hm : n = S.m.length) : ∀ (ds : List D) {vs : List V}, Reps K S ds vs → D.unders n ds = true
  | [], _, _ => rfl
  | d :: ds, _, h => by
    cases h with
    | cons h1 h2 => rw [D.unders, Rep.under hm d h1, Reps.under hm ds h2]; rfl
end
theorem kv_under {κ κ' : Type} {f : κ → κ'} {n : Nat} (hm : n = S.m.length) : ∀ {a : List (κ × D)} {b : List (κ' × V)}, KReps f K S a b → (a.all fun p => D.under n p.2) = true := by
  intro a b h
  unfold KReps at h
  induction h with
  | nil => rfl
  | cons q _ ih =>
    rw [List.all_cons, ih, Rep.under hm _ q.2]
    rfl
theorem CRep.under {c : Cell} {a : Addr} {n : Nat} (hm : n = S.m.length) (h : CRep K S c a) : Cell.under n c = true := by
  cases h with
  | lst _ r => exact Reps.under hm _ r
  | dK _ r => exact kv_under hm r
  | dT _ r => exact kv_under hm r
theorem kvBeq_eq {κ : Type} [DecidableEq κ] : ∀ {a b : List (κ × D)}, kvBeq a b = true → a = b
  | [], [], _ => rfl
  | (k, v) :: r, (l, w) :: q, h => by
    have h2 : (k = l ∧ D.beq v w = true) ∧ kvBeq r q = true := by simpa [kvBeq] using h
    rw [h2.1.1, D.beq_eq v w h2.1.2, kvBeq_eq h2.2]
  | [], _ :: _, h => by simp [kvBeq] at h
  | _ :: _, [], h => by simp [kvBeq] at h
theorem Cell.beq_eq {a b : Cell} (h : Cell.beq a b = true) : a = b := by
  cases a <;> cases b <;> simp only [Cell.beq] at h <;> first | (cases h; done) | skip
  · rw [D.beqs_eq _ _ h]
  · rw [kvBeq_eq h]
  · rw [kvBeq_eq h]
theorem tidy_at {n : Nat} : ∀ {M M' : Mem} {i : Nat} {c c' : Cell}, tidy n M M' = true → M[i]? = some c → M'[i]? = some c' → c' = c ∨ Cell.under n c' = true
  | [], _, _, _, _, _, h, _ => by simp at h
  | _ :: _, [], _, _, _, h, _, _ => by simp [tidy] at h
  | c0 :: M, c0' :: M', i, c, c', h, h1, h2 => by
    have h3 : (Cell.beq c0' c0 = true ∨ Cell.under n c0' = true) ∧ tidy n M M' = true := by simpa [tidy] using h
    cases i with
    | zero =>
      simp at h1 h2
      subst h1 h2
      exact h3.1.imp Cell.beq_eq id
    | succ i => exact tidy_at h3.2 (by simpa using h1) (by simpa using h2)
theorem tidy_len {n : Nat} : ∀ {M M' : Mem}, tidy n M M' = true → M.length ≤ M'.length
  | [], _, _ => Nat.zero_le _
  | _ :: _, [], h => by simp [tidy] at h
  | _ :: M, _ :: M', h => by
    have h3 : tidy n M M' = true := by
      simp [tidy] at h
      exact h.2
    simpa using tidy_len h3
mutual
/-- back to fewer cells, all of them of the old ones -/
theorem Rep.bk {n : Nat} (h1 : ∀ k, k < n → S'.m[k]? = S.m[k]?) (h2 : ∀ b ∈ S'.m, b ∈ S.m) (hz : S'.z = S.z) (hH : S'.H = S.H) : ∀ (d : D) {v : V}, D.under n d = true → Rep K S d v → Rep K S' d v
  | .non, _, _, h => by cases h; exact .non
  | .bl _, _, _, h => by cases h; exact .bl _
  | .int _, _, _, h => by cases h; exact .int _
  | .str _, _, _, h => by cases h; exact .str _
  | .tup ds, _, u, h => by
    cases h with
    | tup r1 r2 => exact .tup ⟨by rw [hH]; exact r1.1, fun q => r1.2.1 (h2 _ q), by rw [hz]; exact r1.2.2⟩ (Reps.bk h1 h2 hz hH ds (by simpa [D.under] using u) r2)
  | .lst ds, _, u, h => by
    cases h with
    | lst r1 r2 => exact .lst ⟨by rw [hH]; exact r1.1, fun q => r1.2.1 (h2 _ q), by rw [hz]; exact r1.2.2⟩ (Reps.bk h1 h2 hz hH ds (by simpa [D.under] using u) r2)
  | .loc k, _, u, h => by
    cases h with
    | loc r1 =>
      have hk : k < n := by simpa [D.under] using u
      exact .loc (by rw [h1 k hk]; exact r1)
  | .ro l ds, _, u, h => by
    cases h with
    | ro r1 r2 =>
      refine .ro ?_ (Reps.bk h1 h2 hz hH ds (by simpa [D.under] using u) r2)
      rcases r1 with ⟨e, o, a, b, c⟩ | r1
      · exact .inl ⟨e, o, by rw [hH]; exact a, fun q => b (h2 _ q), by rw [hz]; exact c⟩
      · exact .inr r1
theorem Reps.bk {n : Nat} (h1 : ∀ k, k < n → S'.m[k]? = S.m[k]?) (h2 : ∀ b ∈ S'.m, b ∈ S.m) (hz : S'.z = S.z) (hH : S'.H = S.H) : ∀ (ds : List D) {vs : List V}, D.unders n ds = true → Reps K S ds vs → Reps K S' ds vs
  | [], _, _, h => by cases h; exact .nil
  | d :: ds, _, u, h => by
    have u2 : D.under n d = true ∧ D.unders n ds = true := by simpa [D.unders] using u
    cases h with
    | cons r1 r2 => exact .cons (Rep.bk h1 h2 hz hH d u2.1 r1) (Reps.bk h1 h2 hz hH ds u2.2 r2)
end
theorem KReps.bk {κ κ' : Type} {f : κ → κ'} {n : Nat} (h1 : ∀ k, k < n → S'.m[k]? = S.m[k]?) (h2 : ∀ b ∈ S'.m, b ∈ S.m) (hz : S'.z = S.z) (hH : S'.H = S.H) {a : List (κ × D)} {b : List (κ' × V)} (u : (a.all fun p => D.under n p.2) = true) (h : KReps f K S a b) : KReps f K S' a b := by
  unfold KReps at h ⊢
  induction h with
  | nil => exact .nil
  | cons q _ ih =>
    rw [List.all_cons, Bool.and_eq_true] at u
    exact .cons ⟨q.1, Rep.bk h1 h2 hz hH _ u.1 q.2⟩ (ih u.2)
theorem CRep.bk {c : Cell} {a : Addr} {n : Nat} (h1 : ∀ k, k < n → S'.m[k]? = S.m[k]?) (h2 : ∀ b ∈ S'.m, b ∈ S.m) (hz : S'.z = S.z) (hH : S'.H = S.H) (u : Cell.under n c = true) (h : CRep K S c a) : CRep K S' c a := by
  cases h with
  | lst e r => exact .lst (by rw [hH]; exact e) (Reps.bk h1 h2 hz hH _ u r)
  | dK e r => exact .dK (by rw [hH]; exact e) (r.bk h1 h2 hz hH u)
  | dT e r => exact .dT (by rw [hH]; exact e) (r.bk h1 h2 hz hH u)
theorem KReps.back {κ κ' : Type} {f : κ → κ'} {n : Nat} (hm : S'.m = S.m.take n) (hz : S'.z = S.z) (hH : S'.H = S.H) {a : List (κ × D)} {b : List (κ' × V)} (u : (a.all fun p => D.under n p.2) = true) (h : KReps f K S a b) : KReps f K S' a b := by
  unfold KReps at h ⊢
  induction h with
  | nil => exact .nil
  | cons q _ ih =>
    rw [List.all_cons, Bool.and_eq_true] at u
    exact .cons ⟨q.1, Rep.back hm hz hH _ u.1 q.2⟩ (ih u.2)
theorem CRep.back {c : Cell} {a : Addr} {n : Nat} (hm : S'.m = S.m.take n) (hz : S'.z = S.z) (hH : S'.H = S.H) (u : Cell.under n c = true) (h : CRep K S c a) : CRep K S' c a := by
  cases h with
  | lst e r => exact .lst (by rw [hH]; exact e) (Reps.back hm hz hH _ u r)
  | dK e r => exact .dK (by rw [hH]; exact e) (r.back hm hz hH u)
  | dT e r => exact .dT (by rw [hH]; exact e) (r.back hm hz hH u)
/-- back to the cells that stood at the begin -/
theorem back_mem {M M' : Mem} (x : Ext S S') (m : MemRel K S M) (m' : MemRel K S' M') (ht : tidy M.length M M' = true) : MemRel K { S' with m := S'.m.take M.length } (M'.take M.length) := by
  have hl := tidy_len ht
  refine ⟨by simp [m'.len], m'.nd.sublist (List.take_sublist _ _), fun b hb => ⟨fun q => (m'.zd b hb).1 (List.mem_of_mem_take q), (m'.zd b hb).2⟩, fun i c e => ?_⟩
  have hi : i < M.length := by
    have := (List.getElem?_eq_some_iff.mp e).1
    rw [List.length_take] at this
    omega
  rw [List.getElem?_take_of_lt hi] at e
  obtain ⟨a, e1, c1⟩ := m'.at_ i c e
  refine ⟨a, by show (S'.m.take M.length)[i]? = _; rw [List.getElem?_take_of_lt hi]; exact e1, ?_⟩
  have hc : M[i]? = some M[i] := List.getElem?_eq_getElem hi
  have u : Cell.under M.length c = true := by
    rcases tidy_at ht hc e with q | q
    · obtain ⟨b, _, cb⟩ := m.at_ i _ hc
      rw [q]
      exact cb.under m.len.symm
    · exact q
  exact CRep.back (S' := { S' with m := S'.m.take M.length }) rfl rfl rfl u c1
theorem back_ext {M M' : Mem} (x : Ext S S') (m : MemRel K S M) : Ext S { S' with m := S'.m.take M.length } := by
  obtain ⟨t, ht⟩ := x.m
  refine ⟨⟨[], ?_⟩, x.z, fun b o e n => ⟨(x.keep b o e n).1, fun q => (x.keep b o e n).2 (List.mem_of_mem_take q)⟩⟩
  show S'.m.take M.length = _
  rw [ht, ← m.len, List.take_left, List.append_nil]
theorem take_not {a : Addr} {n k : Nat} (nd : S.m.Nodup) (h : S.m[k]? = some a) (hk : n ≤ k) : a ∉ S.m.take n := fun q => by
  obtain ⟨i, hi, e⟩ := List.getElem_of_mem q
  rw [List.length_take] at hi
  rw [List.getElem_take] at e
  obtain ⟨h1, h2⟩ := List.getElem?_eq_some_iff.mp h
  have := (List.getElem_inj nd).mp (e.trans h2.symm)
  omega
mutual
theorem frz_rep {M' : Mem} {n : Nat} (m' : MemRel K S' M') : ∀ (d : D) {d' : D} {v : V} (g : Nat), frz n M' g d = some d' → Rep K S' d v → Rep K { S' with m := S'.m.take n } d' v
  | .non, _, _, _, h, r => by
    simp only [frz, Option.some.injEq] at h; subst h; cases r; exact .non
  | .bl _, _, _, _, h, r => by
    simp only [frz, Option.some.injEq] at h; subst h; cases r; exact .bl _
  | .int _, _, _, _, h, r => by
    simp only [frz, Option.some.injEq] at h; subst h; cases r; exact .int _
  | .str _, _, _, _, h, r => by
    simp only [frz, Option.some.injEq] at h; subst h; cases r; exact .str _
  | .tup ds, _, _, g, h, r => by
    simp only [frz, Option.map_eq_some_iff] at h
    obtain ⟨es, h1, rfl⟩ := h
    cases r with
    | tup r1 r2 => exact .tup ⟨r1.1, fun q => r1.2.1 (List.mem_of_mem_take q), r1.2.2⟩ (frzs_rep m' ds g h1 r2)
  | .lst ds, _, _, g, h, r => by
    simp only [frz, Option.map_eq_some_iff] at h
    obtain ⟨es, h1, rfl⟩ := h
    cases r with
    | lst r1 r2 => exact .lst ⟨r1.1, fun q => r1.2.1 (List.mem_of_mem_take q), r1.2.2⟩ (frzs_rep m' ds g h1 r2)
  | .ro l ds, _, v, g, h, r => by
    simp only [frz] at h
    split at h
    · rename_i u
      cases h
      exact Rep.back (S' := { S' with m := S'.m.take n }) rfl rfl rfl (.ro l ds) (by rw [D.under]; exact u) r
    · cases h
  | .loc k, _, _, g, h, r => by
    cases r with
    | loc r1 =>
      simp only [frz] at h
      split at h
      · rename_i hk
        cases h
        exact .loc (by show (S'.m.take n)[k]? = _; rw [List.getElem?_take_of_lt hk]; exact r1)
      · rename_i hk
        split at h
        · rename_i ds e
          split at h
          · rename_i u
            cases h
            obtain ⟨a, e1, c1⟩ := m'.at_ k _ e
            rw [r1] at e1
            cases e1
            cases c1 with
            | lst e2 r2 =>
              refine .lst ⟨e2, take_not m'.nd r1 (by omega), fun q => (m'.zd _ q).1 (List.mem_of_getElem? r1)⟩ (Reps.back (S' := { S' with m := S'.m.take n }) rfl rfl rfl ds u r2)
          · cases h
        · cases h
theorem frzs_rep {M' : Mem} {n : Nat} (m' : MemRel K S' M') : ∀ (ds : List D) {ds' : List D} {vs : List V} (g : Nat), frzs n M' g ds = some ds' → Reps K S' ds vs → Reps K { S' with m := S'.m.take n } ds' vs
  | [], _, _, _, h, r => by
    simp only [frzs, Option.some.injEq] at h; subst h; cases r; exact .nil
  | d :: ds, _, _, g, h, r => by
    cases r with
    | cons r1 r2 =>
      simp only [frzs] at h
      split at h
      · rename_i x xs e1 e2
        cases h
        exact .cons (frz_rep m' d g e1 r1) (frzs_rep m' ds g e2 r2)
      · cases h
end
theorem leave_at {md : Mode} {M M' : Mem} {d : D} {v : V} {Q : VK} {Wx : Sw → XW} (x : Ext S S') (m : MemRel K S M) (m' : MemRel K S' M') (r : Rep K S' d v) (h : Run K xi (Rep K) S (leave md M d M') Q Wx) : Q v S'.H := by
  cases md with
  | keep => exact h.ok' x m' r
  | drop =>
    simp only [leave] at h
    split at h
    · rename_i ht
      split at h
      · rename_i d' e
        exact h.ok' (S' := { S' with m := S'.m.take M.length }) (back_ext (M' := M') x m) (back_mem x m m' ht) (frz_rep m' d 0 e r)
      · exact h.elim
    · exact h.elim
  | own =>
    simp only [leave] at h
    split at h
    · rename_i k
      split at h
      · rename_i hc
        rw [Bool.and_eq_true, decide_eq_true_eq] at hc
        obtain ⟨ht, hk⟩ := hc
        split at h
        · rename_i c e
          split at h
          · rename_i u
            cases r with
            | loc r1 =>
              rename_i a
              obtain ⟨b, e1, c1⟩ := m'.at_ k c e
              rw [r1] at e1
              cases e1
              have hn : a ∉ S'.m.take M.length := take_not m'.nd r1 hk
              have hl := tidy_len ht
              have lt : (S'.m.take M.length).length = M.length := by rw [List.length_take, m'.len]; omega
              have ham : a ∈ S'.m := List.mem_of_getElem? r1
              have k1 : ∀ i, i < M.length → (S'.m.take M.length ++ [a])[i]? = S'.m[i]? := fun i hi => by
                rw [List.getElem?_append_left (by rw [lt]; exact hi), List.getElem?_take_of_lt hi]
              have k2 : ∀ b ∈ S'.m.take M.length ++ [a], b ∈ S'.m := fun b hb => by
                rcases List.mem_append.mp hb with q | q
                · exact List.mem_of_mem_take q
                · rw [List.mem_singleton.mp q]; exact ham
              have hlast : (S'.m.take M.length ++ [a])[M.length]? = some a := by
                rw [List.getElem?_append_right (by rw [lt]; exact Nat.le_refl _), lt]
                simp
              have m2 : MemRel K { S' with m := S'.m.take M.length ++ [a] } (M'.take M.length ++ [c]) := by
                refine ⟨by simp [m'.len], ?_, fun b hb => ⟨fun q => (m'.zd b hb).1 (k2 b q), (m'.zd b hb).2⟩, fun i c0 e0 => ?_⟩
                · show (S'.m.take M.length ++ [a]).Nodup
                  rw [List.nodup_append]
                  exact ⟨m'.nd.sublist (List.take_sublist _ _), by simp, fun x hx y hy => by
                    rw [List.mem_singleton.mp hy]
                    exact fun q => hn (by rw [← q]; exact hx)⟩
                · have lM : (M'.take M.length).length = M.length := by rw [List.length_take]; omega
                  by_cases hi : i < M.length
                  · rw [List.getElem?_append_left (by rw [lM]; exact hi), List.getElem?_take_of_lt hi] at e0
                    obtain ⟨b, e1, cb⟩ := m'.at_ i c0 e0
                    have hc0 : M[i]? = some M[i] := List.getElem?_eq_getElem hi
                    have u0 : Cell.under M.length c0 = true := by
                      rcases tidy_at ht hc0 e0 with q | q
                      · obtain ⟨b, _, cb⟩ := m.at_ i _ hc0
                        rw [q]
                        exact cb.under m.len.symm
                      · exact q
                    exact ⟨b, by show (S'.m.take M.length ++ [a])[i]? = _; rw [k1 i hi]; exact e1, CRep.bk (S' := { S' with m := S'.m.take M.length ++ [a] }) k1 k2 rfl rfl u0 cb⟩
                  · have hi2 : i = M.length := by
                      have := (List.getElem?_eq_some_iff.mp e0).1
                      rw [List.length_append, lM] at this
                      simp at this
                      omega
                    subst hi2
                    rw [List.getElem?_append_right (by rw [lM]; exact Nat.le_refl _), lM] at e0
                    have e3 : c = c0 := by simpa using e0
                    subst e3
                    exact ⟨a, hlast, CRep.bk (S' := { S' with m := S'.m.take M.length ++ [a] }) k1 k2 rfl rfl u c1⟩
              have x2 : Ext S { S' with m := S'.m.take M.length ++ [a] } := by
                obtain ⟨t, htk⟩ := x.m
                refine ⟨⟨[a], ?_⟩, x.z, fun b o e n => ⟨(x.keep b o e n).1, fun q => (x.keep b o e n).2 (k2 b q)⟩⟩
                show S'.m.take M.length ++ [a] = _
                rw [htk, ← m.len, List.take_left]
              exact h.ok' (S' := { S' with m := S'.m.take M.length ++ [a] }) x2 m2 (.loc hlast)
          · exact h.elim
        · exact h.elim
      · exact h.elim
    · exact h.elim
theorem env_start {ds : List D} {vs : List V} (h : Reps K S ds vs) (a : Nat) : EnvRel K S (ds.map some ++ List.replicate a none) (vs.map some ++ List.replicate a none) := by
  refine ⟨by simp [h.length], fun i d e => ?_⟩
  by_cases hi : i < ds.length
  · rw [List.getElem?_append_left (by simpa using hi), List.getElem?_map] at e
    obtain ⟨d', e1, e2⟩ := Option.map_eq_some_iff.mp e
    cases e2
    obtain ⟨v, e3, r⟩ := h.get e1
    exact ⟨v, by rw [List.getElem?_append_left (by rw [List.length_map, ← h.length]; exact hi), List.getElem?_map, e3]; rfl, r⟩
  · rw [List.getElem?_append_right (by simpa using hi), List.getElem?_replicate] at e
    split at e <;> cases e
end
/-- the module as the defs see it -/
structure Md where
  P : Program
  w : World
  K : PySem.W.Frag
  mg : Str → Option Value
  base : Heap
  xi : XTab
  T : Nat → Option Def
  G : Nat → Option D
  fnm : Nat → Option (Str × Nat × Nat)
  con : Nat → Option Str
  free : List Str
  exs : Nat → Option Str
def Md.cc (m : Md) (N : List Str) (sc : Scope) : Cc := ⟨N, sc, fun _ => true, true, m.fnm, m.con, m.free, m.exs⟩
/-- a def of the module, checked -/
def Md.Fd (m : Md) (f : Nat) (x : Str) (np nd : Nat) : Prop := ∃ (d : Def) (fa : Addr) (fd : FuncData) (y qual : Str) (params : Arguments) (body : List Stmt) (scope : Scope) (N ps : List Str) (dvs : List V) (kws : List (Str × V)),
  m.T f = some d ∧ m.mg x = some (.ref fa) ∧ FunD m.K y qual params body scope dvs kws fa fd ∧ FnScope N ps scope ∧ ps.length = np ∧ d.np = np ∧ N.length = d.n ∧ d.dfl.length = nd ∧ d.np ≤ d.n ∧
  (∀ j, j ≤ nd → ∃ (ds : List Value) (dvs : List V), L2.Binds m.K fd ps ds ∧ Vals dvs ds ∧ ∀ S, Reps m.K S (d.dfl.drop (nd - j)) dvs) ∧
  all2 (chkS 40 40 (m.cc N scope)) d.body body = true
structure Md.Ok (m : Md) : Prop where
  fns : ∀ f x np nd, m.fnm f = some (x, np, nd) → m.Fd f x np nd
  con : ∀ n x, m.con n = some x → ∃ (d : D) (u : Value) (v : V), m.G n = some d ∧ m.mg x = some u ∧ RelV v u ∧ ∀ S, Rep m.K S d v
  free : ∀ x ∈ m.free, m.mg x = none
  exs : ∀ x nm, m.exs x = some nm → ∃ A, m.mg nm = some (.ref A) ∧ m.xi x = some (A, none) ∧ PySem.W.keepIn m.K (.ref A) = true ∧ PySem.W.excIn m.K A exBase "Exception.__new__" = true ∧ PySem.W.subIn m.K (.ref A) (.type "BaseException") = some true ∧ PySem.W.typeIn m.K (.ref A) = some (.type "type")
  exm : ∀ y B f, m.xi y = some (B, f) → ∀ x nm A, m.exs x = some nm → m.mg nm = some (.ref A) → PySem.W.exmOne m.K (.ref B) (.ref A) = some (decide (y = x))
theorem runD_dfl {C : Ctx} {d : Def} {vs : List D} {M : Mem} {j : Nat} (h : vs.length + j = d.np) (hj : j ≤ d.dfl.length) : runD C d (vs ++ d.dfl.drop (d.dfl.length - j)) M = runD C d vs M := by
  have l : (d.dfl.drop (d.dfl.length - j)).length = j := by rw [List.length_drop]; omega
  have e1 : d.np - vs.length = j := by omega
  have e2 : (vs ++ d.dfl.drop (d.dfl.length - j)).length = d.np := by rw [List.length_append, l]; exact h
  unfold runD
  rw [e2, e1, Nat.sub_self, Nat.sub_zero, List.drop_length, List.append_nil]
  by_cases hn : d.np ≤ d.n
  · rw [if_pos ⟨Nat.le_refl _, by omega, hn⟩, if_pos ⟨by omega, by omega, hn⟩]
  · rw [if_neg (fun q => hn q.2.2), if_neg (fun q => hn q.2.2)]
/-- one def keeps its promise, if those that it calls do -/
theorem fn_one {m : Md} {k : Nat} (hfns : ∀ (f : Nat) (x : Str) (np nd : Nat), m.fnm f = some (x, np, nd) → ∃ (fa : Addr) (fd : FuncData) (ps : List Str) (dfl : List D), m.mg x = some (.ref fa) ∧ PySem.W.keepIn m.K (.ref fa) = true ∧
    FnOk m.P m.w m.K m.mg m.base (L2.CX m.P m.w) k fa fd ps (spF m.K m.xi (callF m.T m.G k) f np) ∧ dfl.length = nd ∧
    (∀ j, j ≤ nd → ∃ (ds : List Value) (dvs : List V), L2.Binds m.K fd ps ds ∧ Vals dvs ds ∧ ∀ S, Reps m.K S (dfl.drop (nd - j)) dvs) ∧
    ∀ vs M j, vs.length + j = np → j ≤ nd → callF m.T m.G k f (vs ++ dfl.drop (nd - j)) M = callF m.T m.G k f vs M) (ok : m.Ok)
    {f np : Nat} {d : Def} {fa : Addr} {fd : FuncData} {y qual : Str} {params : Arguments} {body : List Stmt} {scope : Scope} {N ps : List Str} {dvs : List V} {kws : List (Str × V)}
    (e1 : m.T f = some d) (F : FunD m.K y qual params body scope dvs kws fa fd) (Sc : FnScope N ps scope) (e3 : ps.length = np) (e4 : d.np = np) (e5 : N.length = d.n) (e7 : d.np ≤ d.n) (hc : all2 (chkS 40 40 (m.cc N scope)) d.body body = true) :
    FnOk m.P m.w m.K m.mg m.base (L2.CX m.P m.w) (k + 1) fa fd ps (spF m.K m.xi (callF m.T m.G (k + 1)) f np) := by
  refine F.ok (N := N) Sc (fun vs H Q E ⟨S, ds, M, _, _, r, l, _⟩ => by rw [← r.length, l, e3]) fun cdv A outer s H vs Q E hroom hsp => ?_
  obtain ⟨S, ds, M, rfl, mr, rs, l, hr⟩ := hsp
  have L : Lk (m.cc N scope) ⟨callF m.T m.G k, m.G⟩ k m.xi (cxOf (L2.CX m.P m.w) m.P m.w m.K m.mg m.base N qual scope fa cdv A outer s S.H E) (fun cls d _ H => E cls d H) :=
    { N := rfl
      nd := Sc.nd
      sc := rfl
      kind := Sc.kind
      fn := fun _ _ => rfl
      calm := rfl
      room := hroom
      tk := takes_of rfl rfl rfl rfl
      po := fun _ => passes_of rfl
      fns := hfns
      con := ok.con
      free := ok.free
      st := fun _ => ⟨rfl, rfl⟩
      exs := ok.exs
      exm := ok.exm }
  refine ⟨_, snd_ss (fun s S hs => sndS (m := 40) 40 _ _ _ L rfl s S hs) hc, S, ds.map some ++ List.replicate (d.n - d.np) none, M, rfl, ?_, mr, ?_⟩
  · have q := env_start rs (d.n - d.np)
    have e : N.length - vs.length = d.n - d.np := by rw [e5, ← rs.length, l, e4]
    unfold L2.start
    rw [e]
    exact q
  · have hr2 : Run m.K m.xi (Rep m.K) S (runD ⟨callF m.T m.G k, m.G⟩ d ds M) Q fun _ c d H => E c d H := by
      have q : callF m.T m.G (k + 1) f ds M = runD ⟨callF m.T m.G k, m.G⟩ d ds M := by rw [callF, e1]
      rw [← q]
      exact hr
    have hl : ds.length = d.np := by rw [l, e4]
    unfold runD at hr2
    rw [hl, if_pos ⟨Nat.le_refl _, by omega, e7⟩, Nat.sub_self, Nat.sub_zero, List.drop_length, List.append_nil] at hr2
    show RunS m.K m.xi S (evSs ⟨callF m.T m.G k, m.G⟩ d.body (ds.map some ++ List.replicate (d.n - d.np) none) M) _ _
    cases ev : evSs ⟨callF m.T m.G k, m.G⟩ d.body (ds.map some ++ List.replicate (d.n - d.np) none) M with
    | nx ρ M' =>
      rw [ev] at hr2
      exact fun S' σ' x1 _ m1 => leave_at x1 mr m1 .non hr2
    | ret v M' =>
      rw [ev] at hr2
      exact fun S' v x1 m1 r1 => leave_at x1 mr m1 r1 hr2
    | exc y vs ρ M' =>
      rw [ev] at hr2
      exact fun S' σ' cls dx x1 _ m1 hx => hr2 S' cls dx x1 m1 hx
    | brk ρ M' => rw [ev] at hr2; exact hr2.elim
    | cnt ρ M' => rw [ev] at hr2; exact hr2.elim
    | bad => rw [ev] at hr2; exact hr2.elim
theorem fns_ok {m : Md} (ok : m.Ok) : ∀ (k : Nat) (f : Nat) (x : Str) (np nd : Nat), m.fnm f = some (x, np, nd) → ∃ (fa : Addr) (fd : FuncData) (ps : List Str) (dfl : List D), m.mg x = some (.ref fa) ∧ PySem.W.keepIn m.K (.ref fa) = true ∧
    FnOk m.P m.w m.K m.mg m.base (L2.CX m.P m.w) k fa fd ps (spF m.K m.xi (callF m.T m.G k) f np) ∧ dfl.length = nd ∧
    (∀ j, j ≤ nd → ∃ (ds : List Value) (dvs : List V), L2.Binds m.K fd ps ds ∧ Vals dvs ds ∧ ∀ S, Reps m.K S (dfl.drop (nd - j)) dvs) ∧
    ∀ vs M j, vs.length + j = np → j ≤ nd → callF m.T m.G k f (vs ++ dfl.drop (nd - j)) M = callF m.T m.G k f vs M
  | 0, f, x, np, nd, h => by
    obtain ⟨d, fa, fd, y, qual, params, body, scope, N, ps, dvs, kws, e1, e2, F, Sc, e3, e4, e5, e6, e7, hb, hc⟩ := ok.fns f x np nd h
    refine ⟨fa, fd, ps, d.dfl, e2, F.kp, ⟨fun vs H Q E ⟨S, ds, M, _, _, r, l, _⟩ => by rw [← r.length, l, e3], fun A outer s H args us vs Q E _ _ _ _ ⟨S, ds, M, _, _, _, _, hr⟩ => hr.elim⟩, e6, hb, fun vs M j _ _ => rfl⟩
  | k + 1, f, x, np, nd, h => by
    obtain ⟨d, fa, fd, y, qual, params, body, scope, N, ps, dvs, kws, e1, e2, F, Sc, e3, e4, e5, e6, e7, hb, hc⟩ := ok.fns f x np nd h
    refine ⟨fa, fd, ps, d.dfl, e2, F.kp, fn_one (fns_ok ok k) ok e1 F Sc e3 e4 e5 e7 hc, e6, hb, fun vs M j h1 h2 => ?_⟩
    have q : ∀ vs, callF m.T m.G (k + 1) f vs M = runD ⟨callF m.T m.G k, m.G⟩ d vs M := fun vs => by rw [callF, e1]
    rw [q, q, ← e6]
    exact runD_dfl (by rw [h1, e4]) (by rw [e6]; exact h2)
end Pv

set_option Elab.async false
set_option linter.all false
set_option maxRecDepth 100000
set_option maxHeartbeats 4000000
/-! Pv, part R: from the head's facts to the law's promise. -/
namespace Pv
open PySem PySem.Spec PyProof.Rows L2
/-- exceptions of some world -/
def CXe (P : Program) : CXT := fun outer H s E u s' => ∃ w, L2.CX P w outer H s E u s'
theorem FnOk.cx {P : Program} {w : World} {K : PySem.W.Frag} {mg : Str → Option Value} {base : Heap} {CX CX' : CXT} {k : Nat} {f : Addr} {fd : FuncData} {ps : List Str} {sp : Sp} (F : FnOk P w K mg base CX k f fd ps sp)
    (h : ∀ outer H s E u s', CX outer H s E u s' → CX' outer H s E u s') : FnOk P w K mg base CX' k f fd ps sp :=
  ⟨F.len, fun A outer s H args us vs Q E hr he hb hv hs => codeAny_mono (F.run A outer s H args us vs Q E hr he hb hv hs) fun r s' q => by
    cases r with
    | error e => exact h _ _ _ _ _ _ q
    | ok fl => cases fl <;> exact q⟩
theorem cxe_none {P : Program} (H : Hp) (s : Shared) (e : Value) (s' : Shared) (h : CXe P [] H s (fun _ _ _ => False) e s') : False := by
  obtain ⟨w, a, B, H', cls, d, _, _, _, _, _, _, _, z⟩ := h
  exact z
/-- the script at the law's call -/
theorem script_rep {K : PySem.W.Frag} {H : Hp} {a : Addr} {ns : List Int} (hO : Only H) (hS : SqL K H a (ns.map V.int)) : Rep K ⟨[], [], H⟩ (.ro true (ns.map D.int)) (.ref a) := by
  refine .ro (vs := ns.map V.int) ?_ ?_
  · rcases hS with (h | ⟨o, h⟩) | h
    · rcases hO a with z | ⟨o, xs, z⟩
      · rw [h] at z; cases z
      · rw [h] at z; cases z
    · exact .inl ⟨rfl, o, h, by simp, by simp⟩
    · exact .inr (.inl ⟨rfl, fun _ => .inr h⟩)
  · clear hS
    induction ns with
    | nil => exact .nil
    | cons n ns ih => exact .cons (.int n) ih
/-- the law's promise, from what the plain language computes -/
theorem law_sp {m : Md} {k f : Nat} (h : ∀ ns : List Int, ns.length ≤ 63 → ∃ M', callF m.T m.G k f [.ro true (ns.map D.int)] [] = .ok (.bl true) M') (H : Hp) (a : Addr) (ns : List Int) (hl : ns.length ≤ 63) (hO : Only H) (hS : SqL m.K H a (ns.map V.int)) :
    spF m.K m.xi (callF m.T m.G k) f 1 [.ref a] H (fun v _ => v = .bl true) fun _ _ _ => False := by
  obtain ⟨M', e⟩ := h ns hl
  refine ⟨⟨[], [], H⟩, [.ro true (ns.map D.int)], [], rfl, ⟨rfl, List.nodup_nil, (fun b hb => by cases hb), (fun i c e => by simp at e)⟩, .cons (script_rep hO hS) .nil, rfl, ?_⟩
  rw [e]
  intro S' v _ _ r
  cases r
  rfl
/-! ### the head's facts: the kit's, and one more -/
def obsX (n : Nat) (fa : List He.Fa) (fn : List He.DefD) (fx : PySem.W.Frag → Bool) (g : Addr → Option Obj) : He.AlD × Bool := (He.obsD fa fn (He.frG g (He.asD g n)), fx (He.frG g (He.asD g n)))
def hookX (n : Nat) (fa : List He.Fa) (fn : List He.DefD) (fx : PySem.W.Frag → Bool) : PySem.W.Hook where
  α := He.AlD × Bool
  obs := fun s => obsX n fa fn fx s.heap.get?
  val := fun _ => (He.valD fn, true)
  says := fun _ h => ∃ K : PySem.W.Frag, K.In h ∧ He.SaysD fa fn K ∧ fx K = true
  of := fun _ _ e => ⟨_, He.frG_in, congrArg Prod.fst e, congrArg Prod.snd e⟩
  keeps := fun _ _ _ ⟨K, hK, c⟩ k => ⟨K, PySem.W.Frag.In.keeps hK k, c⟩
theorem obsX_eq {n : Nat} {fa : List He.Fa} {fn : List He.DefD} {fx : PySem.W.Frag → Bool} {g : Addr → Option Obj} {s : Shared} (h : ∀ a, g a = s.heap.get? a) : obsX n fa fn fx g = (hookX n fa fn fx).obs s := by
  have e : g = s.heap.get? := funext h
  rw [e] <;> rfl
/-- an error's class over Exception -/
def excB (K : PySem.W.Frag) (x : Str) : Bool := PySem.W.excIn K (He.ga K x) exBase "Exception.__new__" && (PySem.W.keepIn K (.ref (He.ga K x)) && (decide (PySem.W.subIn K (.ref (He.ga K x)) (.type "BaseException") = some true) && (decide (PySem.W.typeIn K (.ref (He.ga K x)) = some (.type "type")) && decide (PySem.W.nsIn K mainGlobals x = some (some (.ref (He.ga K x)))))))
theorem excB_ok {K : PySem.W.Frag} {h : Heap} {mg : Str → Option Value} {x : Str} (X : K.In h) (G : h.Ns mainGlobals mg) (c : excB K x = true) : mg x = some (.ref (He.ga K x)) ∧ PySem.W.keepIn K (.ref (He.ga K x)) = true ∧ PySem.W.excIn K (He.ga K x) exBase "Exception.__new__" = true ∧
    PySem.W.subIn K (.ref (He.ga K x)) (.type "BaseException") = some true ∧ PySem.W.typeIn K (.ref (He.ga K x)) = some (.type "type") := by
  unfold excB at c
  simp only [Bool.and_eq_true, decide_eq_true_eq] at c
  exact ⟨PySem.W.mg_of X G c.2.2.2.2, c.2.1, c.1, c.2.2.1, c.2.2.2.1⟩
def exmB (K : PySem.W.Frag) (y x : Str) (b : Bool) : Bool := decide (PySem.W.exmOne K (.ref (He.ga K y)) (.ref (He.ga K x)) = some b)
end Pv

set_option Elab.async false
set_option linter.all false
set_option maxRecDepth 100000
set_option maxHeartbeats 4000000
/-! Pv, part X: how one computes with the plain language. -/
namespace Pv
/-- a mark: what it stands behind is not looked into -/
structure Fx {α : Sort u} (a : α) : Type where
def Res.bnd {α β : Type} (r : Res α) (f : α → Mem → Res β) (_ : Fx f := ⟨⟩) : Res β := r.bind f
def Res.toR {α : Type} (r : Res α) (ρ : Env) (f : α → Mem → RS) (_ : Fx f := ⟨⟩) : RS := r.toRS ρ f
def RS.sq (r : RS) (f : Env → Mem → RS) (_ : Fx f := ⟨⟩) : RS := r.seq f
theorem evE_var (C : Ctx) {i} (ρ : Env) (M : Mem) : evE C (.var i) ρ M = (match ρ[i]? with
    | some (some d) => .ok d M
    | _ => .bad) := by
  first
    | (rw [evE]; done)
    | (rw [evE]; rfl)
    | (simp only [evE]; rfl)
theorem evE_cst (C : Ctx) {d} (ρ : Env) (M : Mem) : evE C (.cst d) ρ M = (.ok d M) := by
  first
    | (rw [evE]; done)
    | (rw [evE]; rfl)
    | (simp only [evE]; rfl)
theorem evE_glob (C : Ctx) {n} (ρ : Env) (M : Mem) : evE C (.glob n) ρ M = (.opt (C.G n) M) := by
  first
    | (rw [evE]; done)
    | (rw [evE]; rfl)
    | (simp only [evE]; rfl)
theorem evE_op (C : Ctx) {o a b} (ρ : Env) (M : Mem) : evE C (.op o a b) ρ M = ((evE C a ρ M).bnd fun x M1 => (evE C b ρ M1).bnd fun y M2 => .opt (opS M2 o x y) M2) := by
  first
    | (rw [evE]; done)
    | (rw [evE]; rfl)
    | (simp only [evE]; rfl)
theorem evE_neg (C : Ctx) {a} (ρ : Env) (M : Mem) : evE C (.neg a) ρ M = ((evE C a ρ M).bnd fun x M1 => match x with
    | .int i => .ok (.int (-i)) M1
    | _ => .bad) := by
  first
    | (rw [evE]; done)
    | (rw [evE]; rfl)
    | (simp only [evE]; rfl)
theorem evE_cmp (C : Ctx) {o a b} (ρ : Env) (M : Mem) : evE C (.cmp o a b) ρ M = ((evE C a ρ M).bnd fun x M1 => (evE C b ρ M1).bnd fun y M2 => .opt ((cmpS M2 o x y).map D.bl) M2) := by
  first
    | (rw [evE]; done)
    | (rw [evE]; rfl)
    | (simp only [evE]; rfl)
theorem evE_cmp2 (C : Ctx) {o o' a b c} (ρ : Env) (M : Mem) : evE C (.cmp2 o o' a b c) ρ M = ((evE C a ρ M).bnd fun x M1 => (evE C b ρ M1).bnd fun y M2 => match cmpS M2 o x y with
    | some true => (evE C c ρ M2).bnd fun z M3 => .opt ((cmpS M3 o' y z).map D.bl) M3
    | some false => .ok (.bl false) M2
    | none => .bad) := by
  first
    | (rw [evE]; done)
    | (rw [evE]; rfl)
    | (simp only [evE]; rfl)
theorem evE_land (C : Ctx) {es} (ρ : Env) (M : Mem) : evE C (.land es) ρ M = (evAnd C es ρ M) := by
  first
    | (rw [evE]; done)
    | (rw [evE]; rfl)
    | (simp only [evE]; rfl)
theorem evE_lor (C : Ctx) {es} (ρ : Env) (M : Mem) : evE C (.lor es) ρ M = (evOr C es ρ M) := by
  first
    | (rw [evE]; done)
    | (rw [evE]; rfl)
    | (simp only [evE]; rfl)
theorem evE_lnot (C : Ctx) {a} (ρ : Env) (M : Mem) : evE C (.lnot a) ρ M = ((evE C a ρ M).bnd fun x M1 => .opt ((blS x).map fun b => D.bl (!b)) M1) := by
  first
    | (rw [evE]; done)
    | (rw [evE]; rfl)
    | (simp only [evE]; rfl)
theorem evE_ite (C : Ctx) {t a b} (ρ : Env) (M : Mem) : evE C (.ite t a b) ρ M = ((evT C t ρ M).bnd fun k M1 => if k then evE C a ρ M1 else evE C b ρ M1) := by
  first
    | (rw [evE]; done)
    | (rw [evE]; rfl)
    | (simp only [evE]; rfl)
theorem evE_tup (C : Ctx) {es} (ρ : Env) (M : Mem) : evE C (.tup es) ρ M = ((evEs C es ρ M).bnd fun ds M1 => .ok (.tup ds) M1) := by
  first
    | (rw [evE]; done)
    | (rw [evE]; rfl)
    | (simp only [evE]; rfl)
theorem evE_lst (C : Ctx) {es} (ρ : Env) (M : Mem) : evE C (.lst es) ρ M = ((evEs C es ρ M).bnd fun ds M1 => .ok (.lst ds) M1) := by
  first
    | (rw [evE]; done)
    | (rw [evE]; rfl)
    | (simp only [evE]; rfl)
theorem evE_lstC (C : Ctx) {es} (ρ : Env) (M : Mem) : evE C (.lstC es) ρ M = ((evEs C es ρ M).bnd fun ds M1 => .ok (.loc M1.length) (M1 ++ [.lst ds])) := by
  first
    | (rw [evE]; done)
    | (rw [evE]; rfl)
    | (simp only [evE]; rfl)
theorem evE_dictK (C : Ctx)  (ρ : Env) (M : Mem) : evE C (.dictK) ρ M = (.ok (.loc M.length) (M ++ [.dK []])) := by
  first
    | (rw [evE]; done)
    | (rw [evE]; rfl)
    | (simp only [evE]; rfl)
theorem evE_dictT (C : Ctx)  (ρ : Env) (M : Mem) : evE C (.dictT) ρ M = (.ok (.loc M.length) (M ++ [.dT []])) := by
  first
    | (rw [evE]; done)
    | (rw [evE]; rfl)
    | (simp only [evE]; rfl)
theorem evE_idx (C : Ctx) {a i} (ρ : Env) (M : Mem) : evE C (.idx a i) ρ M = ((evE C a ρ M).bnd fun x M1 => (evE C i ρ M1).bnd fun y M2 => .opt (idxS M2 x y) M2) := by
  first
    | (rw [evE]; done)
    | (rw [evE]; rfl)
    | (simp only [evE]; rfl)
theorem evE_slc (C : Ctx) {a lo hi} (ρ : Env) (M : Mem) : evE C (.slc a lo hi) ρ M = ((evE C a ρ M).bnd fun x M1 => ((evE C lo ρ M1).bnd fun l M2 => .opt (partQ lo.isNon l) M2).bnd fun l M2 => ((evE C hi ρ M2).bnd fun h M3 => .opt (partQ hi.isNon h) M3).bnd fun h M3 => .opt (slcS M3 x l h) M3) := by
  first
    | (rw [evE]; done)
    | (rw [evE]; rfl)
    | (simp only [evE]; rfl)
theorem evE_isi (C : Ctx) {a ts} (ρ : Env) (M : Mem) : evE C (.isi a ts) ρ M = ((evE C a ρ M).bnd fun x M1 => .opt ((isiS M1 x ts).map D.bl) M1) := by
  first
    | (rw [evE]; done)
    | (rw [evE]; rfl)
    | (simp only [evE]; rfl)
theorem evE_call (C : Ctx) {f es} (ρ : Env) (M : Mem) : evE C (.call f es) ρ M = ((evEs C es ρ M).bnd fun ds M1 => C.F f ds M1) := by
  first
    | (rw [evE]; done)
    | (rw [evE]; rfl)
    | (simp only [evE]; rfl)
theorem evE_blt (C : Ctx) {b es} (ρ : Env) (M : Mem) : evE C (.blt b es) ρ M = ((evEs C es ρ M).bnd fun ds M1 => .opt (bltS M1 b ds) M1) := by
  first
    | (rw [evE]; done)
    | (rw [evE]; rfl)
    | (simp only [evE]; rfl)
theorem evE_cell (C : Ctx) {e} (ρ : Env) (M : Mem) : evE C (.cell e) ρ M = ((evE C e ρ M).bnd fun d M1 => match d with
    | .lst ds => .ok (.loc M1.length) (M1 ++ [.lst ds])
    | _ => .bad) := by
  first
    | (rw [evE]; done)
    | (rw [evE]; rfl)
    | (simp only [evE]; rfl)
theorem evE_meth (C : Ctx) {m o es} (ρ : Env) (M : Mem) : evE C (.meth m o es) ρ M = ((evE C o ρ M).bnd fun x M1 => if recv m x M1 then (evEs C es ρ M1).bnd fun ds M2 => mthS m x ds M2 else .bad) := by
  first
    | (rw [evE]; done)
    | (rw [evE]; rfl)
    | (simp only [evE]; rfl)
theorem evE_comp (C : Ctx) {own tg k es ts elt} (ρ : Env) (M : Mem) : evE C (.comp own tg k es ts elt) ρ M = ((evEs C es ρ M).bnd fun ds M1 => match itS M1 k ds with
    | some it => if it.ds.length ≤ line then (evC it.gd (fun d M => match asgT tg d (wipeD ρ own) with
      | some ρ1 => (evTs C ts ρ1 M).bnd fun b M2 => if b then (evE C elt ρ1 M2).bnd fun y M3 => .ok (some y) M3 else .ok none M2
      | none => .bad) it.ds [] M1).bnd fun ys M2 => .ok (.lst ys) M2 else .bad
    | none => .bad) := by
  first
    | (rw [evE]; done)
    | (rw [evE]; rfl)
    | (simp only [evE]; rfl)
theorem evE_never (C : Ctx)  (ρ : Env) (M : Mem) : evE C (.never) ρ M = (.bad) := by
  first
    | (rw [evE]; done)
    | (rw [evE]; rfl)
    | (simp only [evE]; rfl)
theorem evT_land (C : Ctx) {es} (ρ : Env) (M : Mem) : evT C (.land es) ρ M = (evTAnd C es ρ M) := by
  first
    | (rw [evT]; done)
    | (rw [evT]; rfl)
    | (simp only [evT]; rfl)
theorem evT_lor (C : Ctx) {es} (ρ : Env) (M : Mem) : evT C (.lor es) ρ M = (evTOr C es ρ M) := by
  first
    | (rw [evT]; done)
    | (rw [evT]; rfl)
    | (simp only [evT]; rfl)
theorem evT_lnot (C : Ctx) {a} (ρ : Env) (M : Mem) : evT C (.lnot a) ρ M = ((evT C a ρ M).bnd fun x M1 => .ok (!x) M1) := by
  first
    | (rw [evT]; done)
    | (rw [evT]; rfl)
    | (simp only [evT]; rfl)
theorem evT_var (C : Ctx) {i} (ρ : Env) (M : Mem) : evT C (.var i) ρ M = (match ρ[i]? with
    | some (some d) => .opt (truS M d) M
    | _ => .bad) := by
  first
    | (rw [evT]; done)
    | (rw [evT]; rfl)
    | (simp only [evT]; rfl)
theorem evT_cmp (C : Ctx) {o a b} (ρ : Env) (M : Mem) : evT C (.cmp o a b) ρ M = ((evE C a ρ M).bnd fun x M1 => (evE C b ρ M1).bnd fun y M2 => .opt (cmpS M2 o x y) M2) := by
  first
    | (rw [evT]; done)
    | (rw [evT]; rfl)
    | (simp only [evT]; rfl)
theorem evT_cmp2 (C : Ctx) {o o' a b c} (ρ : Env) (M : Mem) : evT C (.cmp2 o o' a b c) ρ M = ((evE C a ρ M).bnd fun x M1 => (evE C b ρ M1).bnd fun y M2 => match cmpS M2 o x y with
    | some true => (evE C c ρ M2).bnd fun z M3 => .opt (cmpS M3 o' y z) M3
    | some false => .ok false M2
    | none => .bad) := by
  first
    | (rw [evT]; done)
    | (rw [evT]; rfl)
    | (simp only [evT]; rfl)
theorem evT_isi (C : Ctx) {a ts} (ρ : Env) (M : Mem) : evT C (.isi a ts) ρ M = ((evE C a ρ M).bnd fun x M1 => .opt (isiS M1 x ts) M1) := by
  first
    | (rw [evT]; done)
    | (rw [evT]; rfl)
    | (simp only [evT]; rfl)
theorem evT_call (C : Ctx) {f es} (ρ : Env) (M : Mem) : evT C (.call f es) ρ M = ((evEs C es ρ M).bnd fun ds M1 => (C.F f ds M1).bnd fun x M2 => .opt (truS M2 x) M2) := by
  first
    | (rw [evT]; done)
    | (rw [evT]; rfl)
    | (simp only [evT]; rfl)
theorem evT_blt (C : Ctx) {b es} (ρ : Env) (M : Mem) : evT C (.blt b es) ρ M = ((evEs C es ρ M).bnd fun ds M1 => .opt ((bltS M1 b ds).bind (truS M1)) M1) := by
  first
    | (rw [evT]; done)
    | (rw [evT]; rfl)
    | (simp only [evT]; rfl)
theorem evT_idx (C : Ctx) {a i} (ρ : Env) (M : Mem) : evT C (.idx a i) ρ M = ((evE C a ρ M).bnd fun x M1 => (evE C i ρ M1).bnd fun y M2 => .opt ((idxS M2 x y).bind (truS M2)) M2) := by
  first
    | (rw [evT]; done)
    | (rw [evT]; rfl)
    | (simp only [evT]; rfl)
theorem evT_cst (C : Ctx) {b} (ρ : Env) (M : Mem) : evT C (.cst (.bl b)) ρ M = (.ok b M) := by
  first
    | (rw [evT]; done)
    | (rw [evT]; rfl)
    | (simp only [evT]; rfl)
theorem evT_op (C : Ctx) {o a b} (ρ : Env) (M : Mem) : evT C (.op o a b) ρ M = ((evE C a ρ M).bnd fun x M1 => (evE C b ρ M1).bnd fun y M2 => .opt ((opS M2 o x y).bind (truS M2)) M2) := by
  first
    | (rw [evT]; done)
    | (rw [evT]; rfl)
    | (simp only [evT]; rfl)
theorem evS_asg (C : Ctx) {t e} (ρ : Env) (M : Mem) : evS C (.asg t e) ρ M = ((evE C e ρ M).toR ρ fun d M1 => match asgT t d ρ with
    | some ρ' => .nx ρ' M1
    | none => .bad) := by
  first
    | (rw [evS]; done)
    | (rw [evS]; rfl)
    | (simp only [evS]; rfl)
theorem evS_par (C : Ctx) {i j a b} (ρ : Env) (M : Mem) : evS C (.par i j a b) ρ M = ((evE C a ρ M).toR ρ fun x M1 => (evE C b ρ M1).toR ρ fun y M2 => .nx ((ρ.set i (some x)).set j (some y)) M2) := by
  first
    | (rw [evS]; done)
    | (rw [evS]; rfl)
    | (simp only [evS]; rfl)
theorem evS_aug (C : Ctx) {i o e} (ρ : Env) (M : Mem) : evS C (.aug i o e) ρ M = (match ρ[i]? with
    | some (some x) => (evE C e ρ M).toR ρ fun y M1 => match x, y with
      | .int a, .int b => match opI o a b with
        | some c => .nx (ρ.set i (some (.int c))) M1
        | none => .bad
      | _, _ => .bad
    | _ => .bad) := by
  first
    | (rw [evS]; done)
    | (rw [evS]; rfl)
    | (simp only [evS]; rfl)
theorem evS_setI (C : Ctx) {o i e} (ρ : Env) (M : Mem) : evS C (.setI o i e) ρ M = ((evE C e ρ M).toR ρ fun v M1 => (evE C o ρ M1).toR ρ fun x M2 => (evE C i ρ M2).toR ρ fun y M3 => match setS x y v M3 with
    | some M4 => .nx ρ M4
    | none => .bad) := by
  first
    | (rw [evS]; done)
    | (rw [evS]; rfl)
    | (simp only [evS]; rfl)
theorem evS_expr (C : Ctx) {e} (ρ : Env) (M : Mem) : evS C (.expr e) ρ M = ((evE C e ρ M).toR ρ fun _ M1 => .nx ρ M1) := by
  first
    | (rw [evS]; done)
    | (rw [evS]; rfl)
    | (simp only [evS]; rfl)
theorem evS_ret (C : Ctx) {e} (ρ : Env) (M : Mem) : evS C (.ret e) ρ M = ((evE C e ρ M).toR ρ fun d M1 => .ret d M1) := by
  first
    | (rw [evS]; done)
    | (rw [evS]; rfl)
    | (simp only [evS]; rfl)
theorem evS_ite (C : Ctx) {t a b} (ρ : Env) (M : Mem) : evS C (.ite t a b) ρ M = ((evT C t ρ M).toR ρ fun k M1 => if k then evSs C a ρ M1 else evSs C b ρ M1) := by
  first
    | (rw [evS]; done)
    | (rw [evS]; rfl)
    | (simp only [evS]; rfl)
theorem evS_for_ (C : Ctx) {tg k es body} (ρ : Env) (M : Mem) : evS C (.for_ tg k es body) ρ M = ((evEs C es ρ M).toR ρ fun ds M1 => match itS M1 k ds with
    | some it => evF it.gd (asgT tg) (fun ρ M => evSs C body ρ M) it.ds ρ M1
    | none => .bad) := by
  first
    | (rw [evS]; done)
    | (rw [evS]; rfl)
    | (simp only [evS]; rfl)
theorem evS_whl (C : Ctx) {n t body} (ρ : Env) (M : Mem) : evS C (.whl n t body) ρ M = (evW (fun ρ M => evT C t ρ M) (fun ρ M => evSs C body ρ M) n ρ M) := by
  first
    | (rw [evS]; done)
    | (rw [evS]; rfl)
    | (simp only [evS]; rfl)
theorem evS_brk (C : Ctx)  (ρ : Env) (M : Mem) : evS C (.brk) ρ M = (.brk ρ M) := by
  first
    | (rw [evS]; done)
    | (rw [evS]; rfl)
    | (simp only [evS]; rfl)
theorem evS_cnt (C : Ctx)  (ρ : Env) (M : Mem) : evS C (.cnt) ρ M = (.cnt ρ M) := by
  first
    | (rw [evS]; done)
    | (rw [evS]; rfl)
    | (simp only [evS]; rfl)
theorem evS_pass (C : Ctx)  (ρ : Env) (M : Mem) : evS C (.pass) ρ M = (.nx ρ M) := by
  first
    | (rw [evS]; done)
    | (rw [evS]; rfl)
    | (simp only [evS]; rfl)
theorem evS_raise (C : Ctx) {x es} (ρ : Env) (M : Mem) : evS C (.raise x es) ρ M = ((evEs C es ρ M).toR ρ fun ds M1 => .exc x ds ρ M1) := by
  first
    | (rw [evS]; done)
    | (rw [evS]; rfl)
    | (simp only [evS]; rfl)
theorem evS_try_ (C : Ctx) {body x h} (ρ : Env) (M : Mem) : evS C (.try_ body x h) ρ M = (match evSs C body ρ M with
    | .exc y vs ρ' M' => if y = x then evSs C h ρ' M' else .exc y vs ρ' M'
    | r => r) := by
  first
    | (rw [evS]; done)
    | (rw [evS]; rfl)
    | (simp only [evS]; rfl)
theorem evS_never (C : Ctx)  (ρ : Env) (M : Mem) : evS C (.never) ρ M = (.bad) := by
  first
    | (rw [evS]; done)
    | (rw [evS]; rfl)
    | (simp only [evS]; rfl)
theorem evEs_nil (C : Ctx) (ρ : Env) (M : Mem) : evEs C [] ρ M = .ok [] M := by rw [evEs]
theorem evEs_cons (C : Ctx) {e : Ex} {es : List Ex} (ρ : Env) (M : Mem) : evEs C (e :: es) ρ M = (evE C e ρ M).bnd fun d M1 => (evEs C es ρ M1).bnd fun ds M2 => .ok (d :: ds) M2 := by rw [evEs]; rfl
theorem evTs_nil (C : Ctx) (ρ : Env) (M : Mem) : evTs C [] ρ M = .ok true M := by rw [evTs]
theorem evTs_one (C : Ctx) {e : Ex} (ρ : Env) (M : Mem) : evTs C [e] ρ M = evT C e ρ M := by rw [evTs]
theorem evAnd_one (C : Ctx) {e : Ex} (ρ : Env) (M : Mem) : evAnd C [e] ρ M = evE C e ρ M := by rw [evAnd]
theorem evOr_one (C : Ctx) {e : Ex} (ρ : Env) (M : Mem) : evOr C [e] ρ M = evE C e ρ M := by rw [evOr]
theorem evTAnd_one (C : Ctx) {e : Ex} (ρ : Env) (M : Mem) : evTAnd C [e] ρ M = evT C e ρ M := by rw [evTAnd]
theorem evTOr_one (C : Ctx) {e : Ex} (ρ : Env) (M : Mem) : evTOr C [e] ρ M = evT C e ρ M := by rw [evTOr]
theorem evSs_nil (C : Ctx) (ρ : Env) (M : Mem) : evSs C [] ρ M = .nx ρ M := by rw [evSs]
theorem evAnd_cons (C : Ctx) {e e2 : Ex} {es : List Ex} (ρ : Env) (M : Mem) : evAnd C (e :: e2 :: es) ρ M = (evE C e ρ M).bnd fun x M1 => match x with
    | .bl true => evAnd C (e2 :: es) ρ M1
    | .bl false => .ok (.bl false) M1
    | _ => .bad := by
  rw [evAnd]
  all_goals first | rfl | simp
theorem evOr_cons (C : Ctx) {e e2 : Ex} {es : List Ex} (ρ : Env) (M : Mem) : evOr C (e :: e2 :: es) ρ M = (evE C e ρ M).bnd fun x M1 => match x with
    | .bl false => evOr C (e2 :: es) ρ M1
    | .bl true => .ok (.bl true) M1
    | _ => .bad := by
  rw [evOr]
  all_goals first | rfl | simp
theorem evTAnd_cons (C : Ctx) {e e2 : Ex} {es : List Ex} (ρ : Env) (M : Mem) : evTAnd C (e :: e2 :: es) ρ M = (evT C e ρ M).bnd fun x M1 => if x then evTAnd C (e2 :: es) ρ M1 else .ok false M1 := by
  rw [evTAnd]
  all_goals first | rfl | simp
theorem evTOr_cons (C : Ctx) {e e2 : Ex} {es : List Ex} (ρ : Env) (M : Mem) : evTOr C (e :: e2 :: es) ρ M = (evT C e ρ M).bnd fun x M1 => if x then .ok true M1 else evTOr C (e2 :: es) ρ M1 := by
  rw [evTOr]
  all_goals first | rfl | simp
theorem evSs_cons (C : Ctx) {s : Stm} {ss : List Stm} (ρ : Env) (M : Mem) : evSs C (s :: ss) ρ M = match evS C s ρ M with
    | .nx ρ' M' => evSs C ss ρ' M'
    | r => r := by
  rw [evSs]
  try (cases evS C s ρ M <;> rfl)
theorem callD {T : Nat → Option Def} {G : Nat → Option D} {k f : Nat} {d : Def} (h : T f = some d) (vs : List D) (M : Mem) : callF T G (k + 1) f vs M = runD ⟨callF T G k, G⟩ d vs M := by rw [callF, h]
mutual
theorem D.under_mono {m n : Nat} (h : m ≤ n) : ∀ d : D, D.under m d = true → D.under n d = true
  | .non, _ => rfl
  | .bl _, _ => rfl
  | .int _, _ => rfl
  | .str _, _ => rfl
  | .tup ds, q => by rw [D.under] at q ⊢; exact D.unders_mono h ds q
  | .lst ds, q => by rw [D.under] at q ⊢; exact D.unders_mono h ds q
  | .loc k, q => by rw [D.under] at q ⊢; simp at q ⊢; omega
  | .ro _ ds, q => by rw [D.under] at q ⊢; exact D.unders_mono h ds q
theorem D.unders_mono {m n : Nat} (h : m ≤ n) : ∀ ds : List D, D.unders m ds = true → D.unders n ds = true
  | [], _ => rfl
  | d :: ds, q => by
    rw [D.unders, Bool.and_eq_true] at q ⊢
    exact ⟨D.under_mono h d q.1, D.unders_mono h ds q.2⟩
end
theorem kvBeq_refl {κ : Type} [DecidableEq κ] : ∀ a : List (κ × D), kvBeq a a = true
  | [] => rfl
  | (k, v) :: r => by simp [kvBeq, D.beq_refl, kvBeq_refl r]
theorem Cell.beq_refl (c : Cell) : Cell.beq c c = true := by
  cases c with
  | lst ds => exact D.beqs_refl ds
  | dK ds => exact kvBeq_refl ds
  | dT ds => exact kvBeq_refl ds
@[simp] theorem tidy_app {n : Nat} : ∀ (M N : Mem), tidy n M (M ++ N) = true
  | [], _ => rfl
  | c :: M, N => by rw [List.cons_append, tidy, Cell.beq_refl, tidy_app M N]; rfl
@[simp] theorem tidy_self {n : Nat} (M : Mem) : tidy n M M = true := by simpa using tidy_app (n := n) M []
theorem tidy_set {n : Nat} {c : Cell} (hc : Cell.under n c = true) : ∀ (M N : Mem) (i : Nat), tidy n M (M.set i c ++ N) = true
  | [], _, _ => rfl
  | d :: M, N, 0 => by
    show tidy n (d :: M) (c :: (M ++ N)) = true
    rw [tidy, hc, tidy_app]
    simp
  | d :: M, N, i + 1 => by
    show tidy n (d :: M) (d :: (M.set i c ++ N)) = true
    rw [tidy, Cell.beq_refl, tidy_set hc M N i]
    rfl
@[simp] theorem unders_ints (n : Nat) : ∀ ns : List Int, D.unders n (ns.map D.int) = true
  | [] => rfl
  | i :: ns => by
    show (true && D.unders n (ns.map D.int)) = true
    rw [unders_ints n ns]
    rfl
@[simp] theorem intsOf_map : ∀ ns : List Int, intsOf (ns.map D.int) = some ns
  | [] => rfl
  | _ :: ns => by rw [List.map_cons, intsOf, intsOf_map ns]; rfl
@[simp] theorem blsOf_map : ∀ ns : List Bool, blsOf (ns.map D.bl) = some ns
  | [] => rfl
  | _ :: ns => by rw [List.map_cons, blsOf, blsOf_map ns]; rfl
theorem maxL_of : ∀ {ns : List Int} {m : Int}, m ∈ ns → (∀ y ∈ ns, y ≤ m) → maxL ns = some m
  | [], _, h, _ => by cases h
  | [x], m, h, _ => by rw [List.mem_singleton.mp h]; rfl
  | x :: y :: r, m, h, hle => by
    have hx := hle x (by simp)
    have hr : ∀ z ∈ y :: r, z ≤ m := fun z hz => hle z (List.mem_cons_of_mem _ hz)
    by_cases hm : m ∈ y :: r
    · show (maxL (y :: r)).map (fun k => max x k) = _
      rw [maxL_of hm hr]
      simp; omega
    · have hxm : m = x := by
        rcases List.mem_cons.mp h with e | e
        · exact e
        · exact absurd e hm
      show (maxL (y :: r)).map (fun k => max x k) = _
      have : ∃ k, maxL (y :: r) = some k ∧ k ∈ y :: r := by
        clear hm hxm h hle hr
        induction r generalizing y with
        | nil => exact ⟨y, rfl, by simp⟩
        | cons z r ih =>
          obtain ⟨k, e1, e2⟩ := ih z
          refine ⟨max y k, by show (maxL (z :: r)).map _ = _; rw [e1]; rfl, ?_⟩
          by_cases c : y ≤ k
          · rw [Int.max_eq_right c]; exact List.mem_cons_of_mem _ e2
          · rw [Int.max_eq_left (by omega)]; simp
      obtain ⟨k, e1, e2⟩ := this
      have := hr k e2
      rw [e1, hxm]
      simp; omega
theorem opI_add (i j : Int) : opI .add i j = some (i + j) := rfl
theorem opI_sub (i j : Int) : opI .sub i j = some (i - j) := rfl
theorem opI_mul {i j : Int} (h : mulOk i j) : opI .mul i j = some (i * j) := if_pos h
theorem opI_mod {i j : Int} (h : 0 < j) : opI .mod i j = some (i % j) := if_pos h
theorem opI_fdiv {i j : Int} (h : 0 < j ∧ j < 1073741824) : opI .fdiv i j = some (i / j) := if_pos h
theorem opS_int (M : Mem) (o : Op2) (i j : Int) : opS M o (.int i) (.int j) = (opI o i j).map D.int := rfl
theorem mulOk_r {a : Int} (h : -(2 ^ 64) < a ∧ a < 2 ^ 64) (x : Int) : mulOk x a := .inr h
theorem mulOk_l {a : Int} (h : -(2 ^ 64) < a ∧ a < 2 ^ 64) (x : Int) : mulOk a x := .inl h
theorem evSs_nx {C : Ctx} {s : Stm} {ss : List Stm} {ρ ρ' : Env} {M M' : Mem} (h : evS C s ρ M = .nx ρ' M') : evSs C (s :: ss) ρ M = evSs C ss ρ' M' := by rw [evSs_cons, h]
theorem evSs_ret {C : Ctx} {s : Stm} {ss : List Stm} {ρ : Env} {M M' : Mem} {d : D} (h : evS C s ρ M = .ret d M') : evSs C (s :: ss) ρ M = .ret d M' := by rw [evSs_cons, h]
theorem evSs_brk {C : Ctx} {s : Stm} {ss : List Stm} {ρ ρ' : Env} {M M' : Mem} (h : evS C s ρ M = .brk ρ' M') : evSs C (s :: ss) ρ M = .brk ρ' M' := by rw [evSs_cons, h]
theorem evF_nil0 {b : D → Env → Option Env} {f : Env → Mem → RS} {ρ : Env} {M : Mem} : evF [] b f [] ρ M = .nx ρ M := by rw [evF, if_pos (show holds M [] = true from rfl)]
theorem evF_nx0 {b : D → Env → Option Env} {f : Env → Mem → RS} {ρ ρ1 ρ' : Env} {M M' : Mem} {d : D} {ds : List D} (hb : b d ρ = some ρ1) (hf : f ρ1 M = .nx ρ' M') : evF [] b f (d :: ds) ρ M = evF [] b f ds ρ' M' := by
  rw [evF, if_pos (show holds M [] = true from rfl), hb]
  simp only [hf]
theorem evF_ret0 {b : D → Env → Option Env} {f : Env → Mem → RS} {ρ ρ1 : Env} {M M' : Mem} {d v : D} {ds : List D} (hb : b d ρ = some ρ1) (hf : f ρ1 M = .ret v M') : evF [] b f (d :: ds) ρ M = .ret v M' := by
  rw [evF, if_pos (show holds M [] = true from rfl), hb]
  simp only [hf]
theorem for_of {C : Ctx} {tg : Tg} {k : ItK} {es : List Ex} {body : List Stm} {ρ : Env} {M M1 : Mem} {ds : List D} {it : Itm} (he : evEs C es ρ M = .ok ds M1) (hi : itS M1 k ds = some it) :
    evS C (.for_ tg k es body) ρ M = evF it.gd (asgT tg) (fun ρ M => evSs C body ρ M) it.ds ρ M1 := by
  rw [evS_for_, he]
  simp only [Res.toR, Res.toRS, hi]
theorem comp_of {C : Ctx} {own : List Nat} {tg : Tg} {k : ItK} {es ts : List Ex} {elt : Ex} {ρ : Env} {M M1 M2 : Mem} {ds ys : List D} {it : Itm} (he : evEs C es ρ M = .ok ds M1) (hi : itS M1 k ds = some it) (hl : it.ds.length ≤ line)
    (hc : evC it.gd (fun d M => match asgT tg d (wipeD ρ own) with
      | some ρ1 => (evTs C ts ρ1 M).bind fun b M2 => if b then (evE C elt ρ1 M2).bind fun y M3 => .ok (some y) M3 else .ok none M2
      | none => .bad) it.ds [] M1 = .ok ys M2) : evE C (.comp own tg k es ts elt) ρ M = .ok (.lst ys) M2 := by
  rw [evE_comp, he]
  simp only [Res.bnd, Res.bind, hi, hl, if_true]
  simp only [Res.bind] at hc
  rw [hc]
/-! ### loops -/
/-- how a statement may end: on, with a value -/
def RS.ends (r : RS) (N : Env → Mem → Prop) (R : D → Mem → Prop) : Prop := match r with
  | .nx ρ M => N ρ M
  | .ret d M => R d M
  | _ => False
theorem evF_ends {gd : List (Nat × List D)} {b : D → Env → Option Env} {f : Env → Mem → RS} (I : Nat → Env → Mem → Prop) {N : Env → Mem → Prop} {R : D → Mem → Prop} :
    ∀ (ds : List D) (i : Nat) (ρ : Env) (M : Mem), I i ρ M →
      (∀ j ρ M d, ds[j]? = some d → I (i + j) ρ M → holds M gd = true ∧ ∃ ρ1, b d ρ = some ρ1 ∧ match f ρ1 M with
        | .nx ρ' M' => I (i + j + 1) ρ' M'
        | .cnt ρ' M' => I (i + j + 1) ρ' M'
        | .brk ρ' M' => N ρ' M'
        | .ret d M' => R d M'
        | _ => False) → (∀ ρ M, I (i + ds.length) ρ M → holds M gd = true ∧ N ρ M) → (evF gd b f ds ρ M).ends N R
  | [], i, ρ, M, h, _, he => by
    obtain ⟨h1, h2⟩ := he ρ M (by simpa using h)
    rw [evF, if_pos h1]
    exact h2
  | d :: ds, i, ρ, M, h, hs, he => by
    obtain ⟨h1, ρ1, e1, h2⟩ := hs 0 ρ M d rfl (by simpa using h)
    rw [evF, if_pos h1, e1]
    have hs' : ∀ j ρ M d', ds[j]? = some d' → I (i + 1 + j) ρ M → holds M gd = true ∧ ∃ ρ1, b d' ρ = some ρ1 ∧ match f ρ1 M with
        | .nx ρ' M' => I (i + 1 + j + 1) ρ' M'
        | .cnt ρ' M' => I (i + 1 + j + 1) ρ' M'
        | .brk ρ' M' => N ρ' M'
        | .ret d M' => R d M'
        | _ => False := fun j ρ M d' hd hi => by
      have q := hs (j + 1) ρ M d' (by simpa using hd) (by rw [show i + (j + 1) = i + 1 + j by omega]; exact hi)
      rw [show i + (j + 1) + 1 = i + 1 + j + 1 by omega] at q
      exact q
    have he' : ∀ ρ M, I (i + 1 + ds.length) ρ M → holds M gd = true ∧ N ρ M := fun ρ M hi => he ρ M (by rw [List.length_cons, show i + (ds.length + 1) = i + 1 + ds.length by omega]; exact hi)
    dsimp only
    cases ef : f ρ1 M with
    | nx ρ' M' => rw [ef] at h2; exact evF_ends I ds (i + 1) ρ' M' h2 hs' he'
    | cnt ρ' M' => rw [ef] at h2; exact evF_ends I ds (i + 1) ρ' M' h2 hs' he'
    | brk ρ' M' => rw [ef] at h2; exact h2
    | ret d M' => rw [ef] at h2; exact h2
    | exc x vs ρ' M' => rw [ef] at h2; exact h2.elim
    | bad => rw [ef] at h2; exact h2.elim
/-- a loop that runs through: its state by the turn -/
theorem evF_run {gd : List (Nat × List D)} {b : D → Env → Option Env} {f : Env → Mem → RS} (st : Nat → Env × Mem) : ∀ (ds : List D) (i : Nat), (∀ j d, ds[j]? = some d → holds (st (i + j)).2 gd = true ∧ ∃ ρ1, b d (st (i + j)).1 = some ρ1 ∧ f ρ1 (st (i + j)).2 = .nx (st (i + j + 1)).1 (st (i + j + 1)).2) → holds (st (i + ds.length)).2 gd = true →
      evF gd b f ds (st i).1 (st i).2 = .nx (st (i + ds.length)).1 (st (i + ds.length)).2
  | [], i, _, he => by rw [evF, if_pos (by simpa using he)]; rfl
  | d :: ds, i, hs, he => by
    obtain ⟨h1, ρ1, e1, h2⟩ := hs 0 d rfl
    have h1 : holds (st i).2 gd = true := h1
    have e1 : b d (st i).1 = some ρ1 := e1
    have h2 : f ρ1 (st i).2 = .nx (st (i + 1)).1 (st (i + 1)).2 := h2
    rw [evF, if_pos h1, e1]
    dsimp only
    rw [h2]
    dsimp only
    rw [evF_run st ds (i + 1) (fun j d' hd => by
      have q := hs (j + 1) d' (by simpa using hd)
      rw [show i + (j + 1) = i + 1 + j by omega] at q
      exact q) (by rw [List.length_cons, show i + (ds.length + 1) = i + 1 + ds.length by omega] at he; exact he)]
    rw [List.length_cons, show i + (ds.length + 1) = i + 1 + ds.length by omega]
/-- a comprehension whose items leave the memory as it is -/
theorem evC_map {gd : List (Nat × List D)} {f : D → Mem → Res (Option D)} {M : Mem} (g : D → Option D) (hg : holds M gd = true) : ∀ (ds : List D) (acc : List D), (∀ d ∈ ds, f d M = .ok (g d) M) → evC gd f ds acc M = .ok (acc ++ ds.filterMap g) M
  | [], acc, _ => by rw [evC, if_pos hg]; simp
  | d :: ds, acc, h => by
    rw [evC, if_pos hg, h d (by simp)]
    cases e : g d with
    | none =>
      dsimp only
      rw [evC_map g hg ds acc fun x hx => h x (by simp [hx])]
      rw [List.filterMap_cons, e]
    | some y =>
      dsimp only
      rw [evC_map g hg ds (acc ++ [y]) fun x hx => h x (by simp [hx])]
      rw [List.filterMap_cons, e]
      simp
/-- a comprehension by the turn: what is gathered and the memory -/
theorem evC_ends {gd : List (Nat × List D)} {f : D → Mem → Res (Option D)} (I : Nat → List D → Mem → Prop) : ∀ (ds : List D) (i : Nat) (acc : List D) (M : Mem), I i acc M →
    (∀ j acc M d, ds[j]? = some d → I (i + j) acc M → holds M gd = true ∧ ∃ y M', f d M = .ok (some y) M' ∧ I (i + j + 1) (acc ++ [y]) M') → (∀ acc M, I (i + ds.length) acc M → holds M gd = true) → ∃ ys M', evC gd f ds acc M = .ok ys M' ∧ I (i + ds.length) ys M'
  | [], i, acc, M, h, _, he => ⟨acc, M, by rw [evC, if_pos (he acc M (by simpa using h))], by simpa using h⟩
  | d :: ds, i, acc, M, h, hs, he => by
    obtain ⟨h1, y, M', e1, h2⟩ := hs 0 acc M d rfl (by simpa using h)
    obtain ⟨ys, M2, e2, h3⟩ := evC_ends I ds (i + 1) (acc ++ [y]) M' h2 (fun j acc M d' hd hi => by
      have q := hs (j + 1) acc M d' (by simpa using hd) (by rw [show i + (j + 1) = i + 1 + j by omega]; exact hi)
      rw [show i + (j + 1) + 1 = i + 1 + j + 1 by omega] at q
      exact q) (fun acc M hi => he acc M (by rw [List.length_cons, show i + (ds.length + 1) = i + 1 + ds.length by omega]; exact hi))
    refine ⟨ys, M2, ?_, by rw [List.length_cons, show i + (ds.length + 1) = i + 1 + ds.length by omega]; exact h3⟩
    rw [evC, if_pos h1, e1]
    exact e2
end Pv

set_option Elab.async false
set_option linter.all false
set_option maxRecDepth 100000
set_option maxHeartbeats 4000000
/-! Pv, part Z0: a def's run as one expression. -/
namespace Pv
/-- what a block's end makes of a def -/
def RS.fin (r : RS) (m : Mode) (M : Mem) : Res D := match r with
  | .nx _ M' => leave m M .non M'
  | .ret v M' => leave m M v M'
  | .exc x es _ M' => .exc x es M'
  | _ => .bad
theorem run_of {T : Nat → Option Def} {G : Nat → Option D} {k f : Nat} {d : Def} {vs : List D} {ρ : Env} {b : List Stm} {m : Mode} {M : Mem} (h : T f = some d) (e : d.body = b ∧ d.mode = m ∧ d.np = vs.length ∧ vs.map some ++ List.replicate (d.n - d.np) none = ρ) (hl : vs.length ≤ d.n) :
    callF T G (k + 1) f vs M = (evSs ⟨callF T G k, G⟩ b ρ M).fin m M := by
  obtain ⟨e1, e2, e3, e4⟩ := e
  rw [callD h]
  unfold runD
  rw [e3, if_pos ⟨Nat.le_refl _, Nat.le_add_right _ _, hl⟩]
  have : (vs ++ d.dfl.drop (d.dfl.length - (vs.length - vs.length))) = vs := by
    rw [Nat.sub_self, Nat.sub_zero, List.drop_length, List.append_nil]
  rw [this, ← e3, e4, e1, e2]
  rfl
end Pv

set_option Elab.async false
set_option linter.all false
set_option maxRecDepth 100000
set_option maxHeartbeats 0
namespace Pv
/-! The plain defs by number: b the block, d the def, l a loop, f its block, t its test, c a comprehension. -/
/-- is_integer(value) [] -/
def b19 : List Stm := [.ret (.land [.isi (.var 0) [.int], .lnot (.isi (.var 0) [.bool])])]
def d19 : Def := ⟨1, 1, [], b19, .keep⟩
/-- is_within(value, low, high) [] -/
def b20 : List Stm := [.ret (.land [.call 19 [.var 0], .cmp .le (.var 1) (.var 0), .cmp .le (.var 0) (.var 2)])]
def d20 : Def := ⟨3, 3, [], b20, .keep⟩
/-- is_row(value) [] -/
def b21 : List Stm := [.ret (.isi (.var 0) [.lst, .tup])]
def d21 : Def := ⟨1, 1, [], b21, .keep⟩
/-- integer_in(value, at, low, high) [] -/
def b30 : List Stm := [.ite (.lnot (.call 20 [.var 0, .var 2, .var 3])) [.never] [],
  .ret (.var 0)]
def d30 : Def := ⟨4, 4, [], b30, .keep⟩
/-- row_in(value, at, least, most) [] -/
def b31 : List Stm := [.ite (.lor [.lnot (.call 21 [.var 0]), .cmp .lt (.blt .len [.var 0]) (.var 2), .cmp .gt (.blt .len [.var 0]) (.var 3)]) [.never] [],
  .ret (.blt .tuple [.var 0])]
def d31 : Def := ⟨4, 4, [], b31, .keep⟩
/-- _law_so(found, meant) [2 k] -/
def f59_1 : List Stm := [.ite (.lnot (.call 59 [.idx (.var 0) (.var 2), .idx (.var 1) (.var 2)])) [.ret (.cst (.bl false))] []]
def l59_1 : Stm := .for_ (.name 2) .rng [.blt .len [.var 1]] f59_1
def b59 : List Stm := [.ite (.cmp .is_ (.var 1) (.cst .non)) [.ret (.cmp .is_ (.var 0) (.cst .non))] [],
  .ite (.isi (.var 1) [.tup]) [.ite (.lor [.lnot (.isi (.var 0) [.tup]), .cmp .ne (.blt .len [.var 0]) (.blt .len [.var 1])]) [.ret (.cst (.bl false))] [], l59_1, .ret (.cst (.bl true))] [],
  .ite (.lor [.isi (.var 1) [.bool], .isi (.var 0) [.bool]]) [.ret (.land [.isi (.var 1) [.bool], .isi (.var 0) [.bool], .cmp .eq (.var 0) (.var 1)])] [],
  .ite (.isi (.var 1) [.int]) [.ret (.land [.isi (.var 0) [.int], .cmp .eq (.var 0) (.var 1)])] [],
  .ret (.land [.isi (.var 1) [.str], .isi (.var 0) [.str], .cmp .eq (.var 0) (.var 1)])]
def d59 : Def := ⟨2, 3, [], b59, .keep⟩
/-- _law_numbers(script) [1 row, 2 cell, 3 rest, 4 k, 5 stirred] -/
def f60_1 : List Stm := [.ite (.cmp .eq (.var 3) (.cst (.int 0))) [.brk] [], .expr (.meth .append (.var 1) [.op .mod (.blt .int [.var 3]) (.cst (.int 997))]), .asg (.name 3) (.op .fdiv (.var 3) (.cst (.int 997)))]
def l60_1 : Stm := .for_ (.name 4) .rng [.cst (.int 60)] f60_1
def f60_2 : List Stm := [.asg (.name 5) (.op .mod (.blt .int [.op .add (.op .add (.op .mul (.var 2) (.cst (.int 48271))) (.op .mul (.var 4) (.cst (.int 69621)))) (.cst (.int 11))]) (.cst (.int 2147483647))), .expr (.meth .append (.var 1) [.op .mod (.blt .int [.op .add (.op .mul (.var 5) (.cst (.int 16807))) (.var 4)]) (.cst (.int 2147483629))])]
def l60_2 : Stm := .for_ (.name 4) .rng [.cst (.int 4)] f60_2
def f60_3 : List Stm := [.ite (.cmp .ge (.var 2) (.op .pow (.cst (.int 10)) (.cst (.int 18)))) [.asg (.name 3) (.var 2), l60_1] [l60_2]]
def l60_3 : Stm := .for_ (.name 2) .seq [.slc (.var 0) (.cst .non) (.cst (.int 63))] f60_3
def b60 : List Stm := [.asg (.name 1) (.lstC []),
  l60_3,
  .ite (.cmp .eq (.blt .len [.var 1]) (.cst (.int 0))) [.expr (.meth .append (.var 1) [.cst (.int 0)])] [],
  .ret (.var 1)]
def d60 : Def := ⟨1, 6, [], b60, .drop⟩
/-- _law_draw(row, at, limit) [3 stirred] -/
def b61 : List Stm := [.ite (.cmp .lt (.var 1) (.blt .len [.var 0])) [.ret (.op .mod (.blt .int [.idx (.var 0) (.var 1)]) (.var 2))] [],
  .asg (.name 3) (.op .mod (.blt .int [.op .add (.op .add (.op .mul (.idx (.var 0) (.op .mod (.blt .int [.var 1]) (.blt .len [.var 0]))) (.cst (.int 40692))) (.op .mul (.var 1) (.cst (.int 7919)))) (.cst (.int 3))]) (.cst (.int 2147483399))),
  .ret (.op .mod (.blt .int [.op .mod (.blt .int [.op .add (.op .mul (.var 3) (.cst (.int 48271))) (.var 1)]) (.cst (.int 2147483647))]) (.var 2))]
def d61 : Def := ⟨3, 4, [], b61, .keep⟩
/-- _law_take(row, spot, limit) [] -/
def b62 : List Stm := [.setI (.var 1) (.cst (.int 0)) (.op .add (.idx (.var 1) (.cst (.int 0))) (.cst (.int 1))),
  .ret (.call 61 [.var 0, .op .sub (.idx (.var 1) (.cst (.int 0))) (.cst (.int 1)), .var 2])]
def d62 : Def := ⟨3, 3, [], b62, .keep⟩
/-- _law_pick(row, spot, things) [] -/
def b63 : List Stm := [.ret (.idx (.var 2) (.call 62 [.var 0, .var 1, .blt .len [.var 2]]))]
def d63 : Def := ⟨3, 3, [], b63, .keep⟩
/-- integers_in(value, at, low, high, least, most) [6 row, 7 one] -/
def c89_1 : Ex := .comp [7] (.name 7) .seq [.var 6] [] (.call 20 [.var 7, .var 2, .var 3])
def b89 : List Stm := [.asg (.name 6) (.call 31 [.var 0, .var 1, .var 4, .var 5]),
  .ite (.lnot (.blt .all [c89_1])) [.never] [],
  .ret (.var 6)]
def d89 : Def := ⟨6, 8, [], b89, .keep⟩
/-- _law_whole(thing) [] -/
def b125 : List Stm := [.ret (.land [.isi (.var 0) [.int], .lnot (.isi (.var 0) [.bool])])]
def d125 : Def := ⟨1, 1, [], b125, .keep⟩
/-- slots_in(value, at) [] -/
def b333 : List Stm := [.ret (.call 89 [.var 0, .var 1, .cst (.int 0), .glob 22, .cst (.int 0), .glob 33])]
def d333 : Def := ⟨2, 2, [], b333, .keep⟩
/-- rounded_up(number, parts) [] -/
def b334 : List Stm := [.ret (.op .fdiv (.op .sub (.op .add (.var 0) (.var 1)) (.cst (.int 1))) (.var 1))]
def d334 : Def := ⟨2, 2, [], b334, .keep⟩
/-- lines_left(slots, n, speed) [3 people, 4 served, 5 lines] -/
def t335_1 : Ex := .land [.cmp .gt (.blt .len [.var 5]) (.cst (.int 0)), .cmp .gt (.idx (.var 5) (.neg (.cst (.int 1)))) (.cst (.int 0))]
def f335_1 : List Stm := [.expr (.meth .append (.var 5) [.blt .max2 [.cst (.int 0), .op .sub (.idx (.var 5) (.neg (.cst (.int 1)))) (.var 4)]])]
def l335_1 : Stm := .whl 100000 t335_1 f335_1
def b335 : List Stm := [.asg (.name 3) (.call 333 [.var 0, .cst (.int 0)]),
  .asg (.name 4) (.op .mul (.call 30 [.var 1, .cst (.int 1), .cst (.int 1), .glob 34]) (.call 30 [.var 2, .cst (.int 2), .cst (.int 1), .glob 35])),
  .asg (.name 5) (.call 339 [.var 3, .var 4]),
  l335_1,
  .ret (.blt .tuple [.var 5])]
def d335 : Def := ⟨3, 6, [], b335, .drop⟩
/-- longest_wait(slots, n, speed) [3 people, 4 served] -/
def b336 : List Stm := [.asg (.name 3) (.call 333 [.var 0, .cst (.int 0)]),
  .asg (.name 4) (.op .mul (.call 30 [.var 1, .cst (.int 1), .cst (.int 1), .glob 34]) (.call 30 [.var 2, .cst (.int 2), .cst (.int 1), .glob 35])),
  .ret (.call 340 [.var 3, .var 4])]
def d336 : Def := ⟨3, 5, [], b336, .keep⟩
/-- fewest_desks(slots, speed, wait) [3 people, 4 each, 5 most, 6 many] -/
def f337_1 : List Stm := [.ite (.cmp .le (.call 340 [.var 3, .op .mul (.var 6) (.var 4)]) (.var 5)) [.ret (.var 6)] []]
def l337_1 : Stm := .for_ (.name 6) .rng [.cst (.int 1), .op .add (.glob 34) (.cst (.int 1))] f337_1
def b337 : List Stm := [.asg (.name 3) (.call 333 [.var 0, .cst (.int 0)]),
  .asg (.name 4) (.call 30 [.var 1, .cst (.int 1), .cst (.int 1), .glob 35]),
  .asg (.name 5) (.call 30 [.var 2, .cst (.int 2), .cst (.int 0), .glob 36]),
  l337_1,
  .raise 0 []]
def d337 : Def := ⟨3, 7, [], b337, .keep⟩
/-- opened(slots, speed) [2 people, 3 each, 4 desks, 5 many] -/
def c338_1 : Ex := .comp [5] (.name 5) .seq [.var 2] [] (.blt .max2 [.cst (.int 1), .call 334 [.var 5, .var 3]])
def c338_2 : Ex := .comp [5] (.name 5) .seq [.var 4] [] (.cmp .gt (.var 5) (.glob 34))
def b338 : List Stm := [.asg (.name 2) (.call 333 [.var 0, .cst (.int 0)]),
  .asg (.name 3) (.call 30 [.var 1, .cst (.int 1), .cst (.int 1), .glob 35]),
  .asg (.name 4) (c338_1),
  .ite (.blt .any [c338_2]) [.raise 0 []] [],
  .ret (.blt .tuple [.var 4])]
def d338 : Def := ⟨2, 6, [], b338, .keep⟩
/-- lines_in(people, served) [2 lines, 3 waiting, 4 many] -/
def f339_1 : List Stm := [.asg (.name 3) (.blt .max2 [.cst (.int 0), .op .sub (.op .add (.var 3) (.var 4)) (.var 1)]), .expr (.meth .append (.var 2) [.var 3])]
def l339_1 : Stm := .for_ (.name 4) .seq [.var 0] f339_1
def b339 : List Stm := [.asg (.name 2) (.lstC []),
  .asg (.name 3) (.cst (.int 0)),
  l339_1,
  .ret (.var 2)]
def d339 : Def := ⟨2, 5, [], b339, .own⟩
/-- longest_in(people, served) [2 lines, 3 many, 4 line] -/
def c340_1 : Ex := .comp [3, 4] (.tup [.name 3, .name 4]) .zip [.var 0, .var 2] [.cmp .gt (.var 3) (.cst (.int 0))] (.call 334 [.var 4, .var 1])
def b340 : List Stm := [.asg (.name 2) (.call 339 [.var 0, .var 1]),
  .ret (.blt .maxd [c340_1, .cst (.int 0)])]
def d340 : Def := ⟨2, 5, [], b340, .drop⟩
/-- _law_told(slots, speed, wait) [] -/
def b341 : List Stm := [.try_ [.ret (.call 337 [.var 0, .var 1, .var 2])] 0 [.ret (.cst .non)]]
def d341 : Def := ⟨3, 3, [], b341, .keep⟩
/-- law k74(script) [1 row, 2 spot, 3 again, 4 slots, 5 k, 6 n, 7 speed, 8 now, 9 more, 10 wait_here, 11 came, 12 wait, 13 least, 14 one] -/
def c342_1 : Ex := .comp [5] (.name 5) .rng [.op .add (.cst (.int 1)) (.call 62 [.var 1, .var 2, .cst (.int 14)])] [] (.call 63 [.var 1, .var 2, .lst [.cst (.int 0), .cst (.int 1), .call 62 [.var 1, .var 2, .cst (.int 30)], .call 62 [.var 1, .var 2, .cst (.int 120)]]])
def f342_1 : List Stm := [.asg (.name 11) (.ite (.cmp .lt (.var 5) (.blt .len [.var 4])) (.idx (.var 4) (.var 5)) (.cst (.int 0))), .asg (.name 10) (.blt .max2 [.cst (.int 0), .op .sub (.op .add (.var 10) (.var 11)) (.op .mul (.var 6) (.var 7))]), .ite (.lor [.lnot (.call 59 [.idx (.var 8) (.var 5), .var 10]), .land [.cmp .lt (.var 5) (.blt .len [.var 9]), .cmp .gt (.idx (.var 9) (.var 5)) (.idx (.var 8) (.var 5))]]) [.ret (.cst (.bl false))] []]
def l342_1 : Stm := .for_ (.name 5) .rng [.blt .len [.var 8]] f342_1
def c342_2 : Ex := .comp [14] (.name 14) .seq [.var 4] [] (.blt .max2 [.cst (.int 1), .op .fdiv (.op .sub (.op .add (.var 14) (.var 7)) (.cst (.int 1))) (.var 7)])
def f342_2 : List Stm := [.asg (.name 4) (.blt .tuple [c342_1]), .asg (.tup [.name 6, .name 7]) (.tup [.op .add (.cst (.int 1)) (.call 62 [.var 1, .var 2, .cst (.int 29)]), .op .add (.cst (.int 1)) (.call 62 [.var 1, .var 2, .cst (.int 30)])]), .par 8 9 (.call 335 [.var 4, .var 6, .var 7]) (.call 335 [.var 4, .op .add (.var 6) (.cst (.int 1)), .var 7]), .asg (.name 10) (.cst (.int 0)), l342_1, .ite (.lor [.cmp .gt (.blt .len [.var 9]) (.blt .len [.var 8]), .cmp .ne (.var 10) (.cst (.int 0)), .cmp .lt (.blt .len [.var 8]) (.blt .len [.var 4])]) [.ret (.cst (.bl false))] [], .ite (.land [.cmp .gt (.blt .len [.var 8]) (.blt .len [.var 4]), .cmp .inn (.cst (.int 0)) (.slc (.var 8) (.op .sub (.blt .len [.var 4]) (.cst (.int 1))) (.op .sub (.blt .len [.var 8]) (.cst (.int 1))))]) [.ret (.cst (.bl false))] [], .ite (.lor [.lnot (.call 59 [.cmp .eq (.call 336 [.var 4, .var 6, .var 7]) (.cst (.int 0)), .cmp .eq (.blt .max1 [.var 8]) (.cst (.int 0))]), .cmp .gt (.call 336 [.var 4, .op .add (.var 6) (.cst (.int 1)), .var 7]) (.call 336 [.var 4, .var 6, .var 7])]) [.ret (.cst (.bl false))] [], .asg (.name 12) (.call 62 [.var 1, .var 2, .cst (.int 11)]), .asg (.name 13) (.call 341 [.var 4, .var 7, .var 12]), .ite (.cmp .is_ (.var 13) (.cst .non)) [.ite (.cmp .le (.call 336 [.var 4, .cst (.int 30), .var 7]) (.var 12)) [.ret (.cst (.bl false))] []] [.ite (.lor [.lnot (.call 125 [.var 13]), .cmp .gt (.call 336 [.var 4, .var 13, .var 7]) (.var 12), .land [.cmp .gt (.var 13) (.cst (.int 1)), .cmp .le (.call 336 [.var 4, .op .sub (.var 13) (.cst (.int 1)), .var 7]) (.var 12)]]) [.ret (.cst (.bl false))] []], .ite (.land [.cmp .le (.blt .max1 [.var 4]) (.op .mul (.cst (.int 30)) (.var 7)), .lnot (.call 59 [.call 338 [.var 4, .var 7], .blt .tuple [c342_2]])]) [.ret (.cst (.bl false))] []]
def l342_2 : Stm := .for_ (.name 3) .rng [.cst (.int 4)] f342_2
def b342 : List Stm := [.asg (.name 1) (.call 60 [.var 0]),
  .asg (.name 2) (.lstC [.cst (.int 0)]),
  l342_2,
  .ret (.cst (.bl true))]
def d342 : Def := ⟨1, 15, [], b342, .drop⟩
def T (f : Nat) : Option Def := bif Nat.blt f 125 then (bif Nat.blt f 59 then (bif Nat.blt f 21 then (bif Nat.blt f 20 then (bif Nat.beq f 19 then some (d19) else none) else (bif Nat.beq f 20 then some (d20) else none)) else (bif Nat.blt f 30 then (bif Nat.beq f 21 then some (d21) else none) else (bif Nat.blt f 31 then (bif Nat.beq f 30 then some (d30) else none) else (bif Nat.beq f 31 then some (d31) else none)))) else (bif Nat.blt f 62 then (bif Nat.blt f 60 then (bif Nat.beq f 59 then some (d59) else none) else (bif Nat.blt f 61 then (bif Nat.beq f 60 then some (d60) else none) else (bif Nat.beq f 61 then some (d61) else none))) else (bif Nat.blt f 63 then (bif Nat.beq f 62 then some (d62) else none) else (bif Nat.blt f 89 then (bif Nat.beq f 63 then some (d63) else none) else (bif Nat.beq f 89 then some (d89) else none))))) else (bif Nat.blt f 337 then (bif Nat.blt f 334 then (bif Nat.blt f 333 then (bif Nat.beq f 125 then some (d125) else none) else (bif Nat.beq f 333 then some (d333) else none)) else (bif Nat.blt f 335 then (bif Nat.beq f 334 then some (d334) else none) else (bif Nat.blt f 336 then (bif Nat.beq f 335 then some (d335) else none) else (bif Nat.beq f 336 then some (d336) else none)))) else (bif Nat.blt f 340 then (bif Nat.blt f 338 then (bif Nat.beq f 337 then some (d337) else none) else (bif Nat.blt f 339 then (bif Nat.beq f 338 then some (d338) else none) else (bif Nat.beq f 339 then some (d339) else none))) else (bif Nat.blt f 341 then (bif Nat.beq f 340 then some (d340) else none) else (bif Nat.blt f 342 then (bif Nat.beq f 341 then some (d341) else none) else (bif Nat.beq f 342 then some (d342) else none)))))
def G (f : Nat) : Option D := bif Nat.blt f 34 then (bif Nat.blt f 33 then (bif Nat.beq f 22 then some (.int 500) else none) else (bif Nat.beq f 33 then some (.int 48) else none)) else (bif Nat.blt f 35 then (bif Nat.beq f 34 then some (.int 30) else none) else (bif Nat.blt f 36 then (bif Nat.beq f 35 then some (.int 30) else none) else (bif Nat.beq f 36 then some (.int 10) else none)))
theorem g22 : G 22 = some (.int 500) := rfl
theorem g33 : G 33 = some (.int 48) := rfl
theorem g34 : G 34 = some (.int 30) := rfl
theorem g35 : G 35 = some (.int 30) := rfl
theorem g36 : G 36 = some (.int 10) := rfl
theorem r19 (k : Nat) (M : Mem) (a0 : D) : callF T G (k + 1) 19 [a0] M = (evSs ⟨callF T G k, G⟩ b19 [some a0] M).fin .keep M := run_of (d := d19) rfl ⟨rfl, rfl, rfl, rfl⟩ (Nat.le_of_ble_eq_true rfl)
theorem r20 (k : Nat) (M : Mem) (a0 a1 a2 : D) : callF T G (k + 1) 20 [a0, a1, a2] M = (evSs ⟨callF T G k, G⟩ b20 [some a0, some a1, some a2] M).fin .keep M := run_of (d := d20) rfl ⟨rfl, rfl, rfl, rfl⟩ (Nat.le_of_ble_eq_true rfl)
theorem r21 (k : Nat) (M : Mem) (a0 : D) : callF T G (k + 1) 21 [a0] M = (evSs ⟨callF T G k, G⟩ b21 [some a0] M).fin .keep M := run_of (d := d21) rfl ⟨rfl, rfl, rfl, rfl⟩ (Nat.le_of_ble_eq_true rfl)
theorem r30 (k : Nat) (M : Mem) (a0 a1 a2 a3 : D) : callF T G (k + 1) 30 [a0, a1, a2, a3] M = (evSs ⟨callF T G k, G⟩ b30 [some a0, some a1, some a2, some a3] M).fin .keep M := run_of (d := d30) rfl ⟨rfl, rfl, rfl, rfl⟩ (Nat.le_of_ble_eq_true rfl)
theorem r31 (k : Nat) (M : Mem) (a0 a1 a2 a3 : D) : callF T G (k + 1) 31 [a0, a1, a2, a3] M = (evSs ⟨callF T G k, G⟩ b31 [some a0, some a1, some a2, some a3] M).fin .keep M := run_of (d := d31) rfl ⟨rfl, rfl, rfl, rfl⟩ (Nat.le_of_ble_eq_true rfl)
theorem r59 (k : Nat) (M : Mem) (a0 a1 : D) : callF T G (k + 1) 59 [a0, a1] M = (evSs ⟨callF T G k, G⟩ b59 [some a0, some a1, none] M).fin .keep M := run_of (d := d59) rfl ⟨rfl, rfl, rfl, rfl⟩ (Nat.le_of_ble_eq_true rfl)
theorem r60 (k : Nat) (M : Mem) (a0 : D) : callF T G (k + 1) 60 [a0] M = (evSs ⟨callF T G k, G⟩ b60 [some a0, none, none, none, none, none] M).fin .drop M := run_of (d := d60) rfl ⟨rfl, rfl, rfl, rfl⟩ (Nat.le_of_ble_eq_true rfl)
theorem r61 (k : Nat) (M : Mem) (a0 a1 a2 : D) : callF T G (k + 1) 61 [a0, a1, a2] M = (evSs ⟨callF T G k, G⟩ b61 [some a0, some a1, some a2, none] M).fin .keep M := run_of (d := d61) rfl ⟨rfl, rfl, rfl, rfl⟩ (Nat.le_of_ble_eq_true rfl)
theorem r62 (k : Nat) (M : Mem) (a0 a1 a2 : D) : callF T G (k + 1) 62 [a0, a1, a2] M = (evSs ⟨callF T G k, G⟩ b62 [some a0, some a1, some a2] M).fin .keep M := run_of (d := d62) rfl ⟨rfl, rfl, rfl, rfl⟩ (Nat.le_of_ble_eq_true rfl)
theorem r63 (k : Nat) (M : Mem) (a0 a1 a2 : D) : callF T G (k + 1) 63 [a0, a1, a2] M = (evSs ⟨callF T G k, G⟩ b63 [some a0, some a1, some a2] M).fin .keep M := run_of (d := d63) rfl ⟨rfl, rfl, rfl, rfl⟩ (Nat.le_of_ble_eq_true rfl)
theorem r89 (k : Nat) (M : Mem) (a0 a1 a2 a3 a4 a5 : D) : callF T G (k + 1) 89 [a0, a1, a2, a3, a4, a5] M = (evSs ⟨callF T G k, G⟩ b89 [some a0, some a1, some a2, some a3, some a4, some a5, none, none] M).fin .keep M := run_of (d := d89) rfl ⟨rfl, rfl, rfl, rfl⟩ (Nat.le_of_ble_eq_true rfl)
theorem r125 (k : Nat) (M : Mem) (a0 : D) : callF T G (k + 1) 125 [a0] M = (evSs ⟨callF T G k, G⟩ b125 [some a0] M).fin .keep M := run_of (d := d125) rfl ⟨rfl, rfl, rfl, rfl⟩ (Nat.le_of_ble_eq_true rfl)
theorem r333 (k : Nat) (M : Mem) (a0 a1 : D) : callF T G (k + 1) 333 [a0, a1] M = (evSs ⟨callF T G k, G⟩ b333 [some a0, some a1] M).fin .keep M := run_of (d := d333) rfl ⟨rfl, rfl, rfl, rfl⟩ (Nat.le_of_ble_eq_true rfl)
theorem r334 (k : Nat) (M : Mem) (a0 a1 : D) : callF T G (k + 1) 334 [a0, a1] M = (evSs ⟨callF T G k, G⟩ b334 [some a0, some a1] M).fin .keep M := run_of (d := d334) rfl ⟨rfl, rfl, rfl, rfl⟩ (Nat.le_of_ble_eq_true rfl)
theorem r335 (k : Nat) (M : Mem) (a0 a1 a2 : D) : callF T G (k + 1) 335 [a0, a1, a2] M = (evSs ⟨callF T G k, G⟩ b335 [some a0, some a1, some a2, none, none, none] M).fin .drop M := run_of (d := d335) rfl ⟨rfl, rfl, rfl, rfl⟩ (Nat.le_of_ble_eq_true rfl)
theorem r336 (k : Nat) (M : Mem) (a0 a1 a2 : D) : callF T G (k + 1) 336 [a0, a1, a2] M = (evSs ⟨callF T G k, G⟩ b336 [some a0, some a1, some a2, none, none] M).fin .keep M := run_of (d := d336) rfl ⟨rfl, rfl, rfl, rfl⟩ (Nat.le_of_ble_eq_true rfl)
theorem r337 (k : Nat) (M : Mem) (a0 a1 a2 : D) : callF T G (k + 1) 337 [a0, a1, a2] M = (evSs ⟨callF T G k, G⟩ b337 [some a0, some a1, some a2, none, none, none, none] M).fin .keep M := run_of (d := d337) rfl ⟨rfl, rfl, rfl, rfl⟩ (Nat.le_of_ble_eq_true rfl)
theorem r338 (k : Nat) (M : Mem) (a0 a1 : D) : callF T G (k + 1) 338 [a0, a1] M = (evSs ⟨callF T G k, G⟩ b338 [some a0, some a1, none, none, none, none] M).fin .keep M := run_of (d := d338) rfl ⟨rfl, rfl, rfl, rfl⟩ (Nat.le_of_ble_eq_true rfl)
theorem r339 (k : Nat) (M : Mem) (a0 a1 : D) : callF T G (k + 1) 339 [a0, a1] M = (evSs ⟨callF T G k, G⟩ b339 [some a0, some a1, none, none, none] M).fin .own M := run_of (d := d339) rfl ⟨rfl, rfl, rfl, rfl⟩ (Nat.le_of_ble_eq_true rfl)
theorem r340 (k : Nat) (M : Mem) (a0 a1 : D) : callF T G (k + 1) 340 [a0, a1] M = (evSs ⟨callF T G k, G⟩ b340 [some a0, some a1, none, none, none] M).fin .drop M := run_of (d := d340) rfl ⟨rfl, rfl, rfl, rfl⟩ (Nat.le_of_ble_eq_true rfl)
theorem r341 (k : Nat) (M : Mem) (a0 a1 a2 : D) : callF T G (k + 1) 341 [a0, a1, a2] M = (evSs ⟨callF T G k, G⟩ b341 [some a0, some a1, some a2] M).fin .keep M := run_of (d := d341) rfl ⟨rfl, rfl, rfl, rfl⟩ (Nat.le_of_ble_eq_true rfl)
theorem r342 (k : Nat) (M : Mem) (a0 : D) : callF T G (k + 1) 342 [a0] M = (evSs ⟨callF T G k, G⟩ b342 [some a0, none, none, none, none, none, none, none, none, none, none, none, none, none, none] M).fin .drop M := run_of (d := d342) rfl ⟨rfl, rfl, rfl, rfl⟩ (Nat.le_of_ble_eq_true rfl)
end Pv

set_option Elab.async false
set_option linter.all false
set_option maxRecDepth 100000
set_option maxHeartbeats 4000000
/-! Pv, part Z: rules that compute. -/
namespace Pv
/-! ### what follows waits for what goes ahead -/
theorem bind_ok {α β : Type} (a : α) (M : Mem) (f : α → Mem → Res β) : (Res.ok a M).bnd f = f a M := (rfl)
theorem bind_exc {α β : Type} (x : Nat) (vs : List D) (M : Mem) (f : α → Mem → Res β) : (Res.exc x vs M : Res α).bnd f = .exc x vs M := (rfl)
theorem toRS_ok {α : Type} (a : α) (M : Mem) (ρ : Env) (f : α → Mem → RS) : (Res.ok a M).toR ρ f = f a M := (rfl)
theorem toRS_exc {α : Type} (x : Nat) (vs : List D) (M : Mem) (ρ : Env) (f : α → Mem → RS) : (Res.exc x vs M : Res α).toR ρ f = .exc x vs ρ M := (rfl)
theorem seq_nx (ρ : Env) (M : Mem) (f : Env → Mem → RS) : (RS.nx ρ M).sq f = f ρ M := (rfl)
theorem seq_ret (d : D) (M : Mem) (f : Env → Mem → RS) : (RS.ret d M).sq f = .ret d M := (rfl)
theorem seq_exc (x : Nat) (vs : List D) (ρ : Env) (M : Mem) (f : Env → Mem → RS) : (RS.exc x vs ρ M).sq f = .exc x vs ρ M := (rfl)
theorem seq_brk (ρ : Env) (M : Mem) (f : Env → Mem → RS) : (RS.brk ρ M).sq f = .brk ρ M := (rfl)
theorem seq_cnt (ρ : Env) (M : Mem) (f : Env → Mem → RS) : (RS.cnt ρ M).sq f = .cnt ρ M := (rfl)
theorem opt_some {α : Type} (a : α) (M : Mem) : Res.opt (some a) M = .ok a M := (rfl)
theorem fin_keep (d : D) (M M' : Mem) : (RS.ret d M').fin .keep M = .ok d M' := (rfl)
theorem fin_nxk (ρ : Env) (M M' : Mem) : (RS.nx ρ M').fin .keep M = .ok .non M' := (rfl)
theorem fin_exc (x : Nat) (vs : List D) (ρ : Env) (m : Mode) (M M' : Mem) : (RS.exc x vs ρ M').fin m M = .exc x vs M' := (rfl)
theorem fin_ret (d : D) (m : Mode) (M M' : Mem) : (RS.ret d M').fin m M = leave m M d M' := (rfl)
theorem fin_nx (ρ : Env) (m : Mode) (M M' : Mem) : (RS.nx ρ M').fin m M = leave m M .non M' := (rfl)
/-! ### steps -/
def Res.get (o : Option (Option D)) (M : Mem) : Res D := match o with
  | some (some d) => .ok d M
  | _ => .bad
theorem get_some (d : D) (M : Mem) : Res.get (some (some d)) M = .ok d M := (rfl)
theorem x_var (C : Ctx) (i : Nat) (ρ : Env) (M : Mem) : evE C (.var i) ρ M = Res.get ρ[i]? M := by
  rw [evE]
  rfl
theorem x_seq (C : Ctx) (s : Stm) (ss : List Stm) (ρ : Env) (M : Mem) : evSs C (s :: ss) ρ M = (evS C s ρ M).sq fun ρ' M' => evSs C ss ρ' M' := by
  rw [evSs_cons]
  rfl
theorem x_asg (C : Ctx) (i : Nat) (e : Ex) (ρ : Env) (M : Mem) (h : i < ρ.length) : evS C (.asg (.name i) e) ρ M = (evE C e ρ M).toR ρ fun d M1 => .nx (ρ.set i (some d)) M1 := by
  rw [evS_asg]
  unfold Res.toR
  cases evE C e ρ M <;> simp [asgT, h]
def RS.opt (o : Option Env) (M : Mem) : RS := match o with
  | some ρ => .nx ρ M
  | none => .bad
theorem rsopt (ρ : Env) (M : Mem) : RS.opt (some ρ) M = .nx ρ M := (rfl)
theorem x_asgt (C : Ctx) (ts : List Tg) (e : Ex) (ρ : Env) (M : Mem) : evS C (.asg (.tup ts) e) ρ M = (evE C e ρ M).toR ρ fun d M1 => RS.opt (asgT (.tup ts) d ρ) M1 := by
  rw [evS_asg]
  rfl
theorem asgT_name (i : Nat) (d : D) (ρ : Env) (h : i < ρ.length) : asgT (.name i) d ρ = some (ρ.set i (some d)) := by rw [asgT, if_pos h]
theorem asgT_tup (ts : List Tg) (ds : List D) (ρ : Env) : asgT (.tup ts) (.tup ds) ρ = asgTs ts ds ρ := by rw [asgT]
theorem asgTs_nil (ρ : Env) : asgTs [] [] ρ = some ρ := by rw [asgTs]
theorem asgTs_cons (t : Tg) (ts : List Tg) (d : D) (ds : List D) (ρ : Env) : asgTs (t :: ts) (d :: ds) ρ = (asgT t d ρ).bind fun ρ' => asgTs ts ds ρ' := by
  rw [asgTs]
  cases asgT t d ρ <;> rfl
theorem x_ite (C : Ctx) (t : Ex) (a b : List Stm) (ρ : Env) (M : Mem) : evS C (.ite t a b) ρ M = (evT C t ρ M).toR ρ fun k M1 => if k = true then evSs C a ρ M1 else evSs C b ρ M1 := evS_ite C ρ M
theorem tru_int (M : Mem) (i : Int) : truS M (.int i) = some (i != 0) := (rfl)
theorem tru_bl (M : Mem) (b : Bool) : truS M (.bl b) = some b := (rfl)
theorem tru_tup (M : Mem) (ds : List D) : truS M (.tup ds) = some (!ds.isEmpty) := (rfl)
theorem tru_lst (M : Mem) (ds : List D) : truS M (.lst ds) = some (!ds.isEmpty) := (rfl)
def Res.tru (M : Mem) (o : Option (Option D)) : Res Bool := match o with
  | some (some d) => .opt (truS M d) M
  | _ => .bad
theorem tru_some (M : Mem) (d : D) : Res.tru M (some (some d)) = .opt (truS M d) M := (rfl)
theorem x_tvar (C : Ctx) (i : Nat) (ρ : Env) (M : Mem) : evT C (.var i) ρ M = Res.tru M ρ[i]? := by
  rw [evT]
  rfl
/-! ### operators -/
theorem op_add (M : Mem) (i j : Int) : opS M .add (.int i) (.int j) = some (.int (i + j)) := (rfl)
theorem op_sub (M : Mem) (i j : Int) : opS M .sub (.int i) (.int j) = some (.int (i - j)) := (rfl)
theorem op_mul (M : Mem) (i j : Int) (h : mulOk i j) : opS M .mul (.int i) (.int j) = some (.int (i * j)) := by rw [opS_int, opI_mul h]; rfl
theorem op_mod (M : Mem) (i j : Int) (h : 0 < j) : opS M .mod (.int i) (.int j) = some (.int (i % j)) := by rw [opS_int, opI_mod h]; rfl
theorem op_fdiv (M : Mem) (i j : Int) (h : 0 < j) (h2 : j < 1073741824) : opS M .fdiv (.int i) (.int j) = some (.int (i / j)) := by rw [opS_int, opI_fdiv ⟨h, h2⟩]; rfl
theorem op_tadd (M : Mem) (xs ys : List D) (h : xs.length + ys.length ≤ line) : opS M .add (.tup xs) (.tup ys) = some (.tup (xs ++ ys)) := if_pos h
theorem op_ladd (M : Mem) (xs ys : List D) (h : xs.length + ys.length ≤ line) : opS M .add (.lst xs) (.lst ys) = some (.lst (xs ++ ys)) := if_pos h
theorem op_sadd (M : Mem) (xs ys : List Nat) (h : xs.length + ys.length ≤ line) : opS M .add (.str xs) (.str ys) = some (.str (xs ++ ys)) := if_pos h
theorem cmp_lt (M : Mem) (i j : Int) : cmpS M .lt (.int i) (.int j) = some (decide (i < j)) := (rfl)
theorem cmp_le (M : Mem) (i j : Int) : cmpS M .le (.int i) (.int j) = some (decide (i ≤ j)) := (rfl)
theorem cmp_gt (M : Mem) (i j : Int) : cmpS M .gt (.int i) (.int j) = some (decide (j < i)) := (rfl)
theorem cmp_ge (M : Mem) (i j : Int) : cmpS M .ge (.int i) (.int j) = some (decide (j ≤ i)) := (rfl)
theorem cmp_eq (M : Mem) (a b : D) : cmpS M .eq a b = eqS M a b := (rfl)
theorem cmp_ne (M : Mem) (a b : D) : cmpS M .ne a b = (eqS M a b).map (!·) := (rfl)
theorem cmp_is (M : Mem) (a : D) : cmpS M .is_ a .non = some a.isNon := (rfl)
theorem cmp_isnt (M : Mem) (a : D) : cmpS M .isnt a .non = some (!a.isNon) := (rfl)
theorem cmp_in (M : Mem) (a b : D) : cmpS M .inn a b = inS M a b := (rfl)
theorem cmp_notin (M : Mem) (a b : D) : cmpS M .notin a b = (inS M a b).map (!·) := (rfl)
theorem eq_int (M : Mem) (i j : Int) : eqS M (.int i) (.int j) = some (decide (i = j)) := by
  show some (D.eqv (.int i) (.int j)) = _
  rw [D.eqv]
theorem eq_str (M : Mem) (i j : List Nat) : eqS M (.str i) (.str j) = some (decide (i = j)) := by
  show some (D.eqv (.str i) (.str j)) = _
  rw [D.eqv]
theorem eq_bl (M : Mem) (i j : Bool) : eqS M (.bl i) (.bl j) = some (i == j) := by
  show some (D.eqv (.bl i) (.bl j)) = _
  rw [D.eqv]
theorem isNon_non : D.isNon .non = true := (rfl)
theorem isNon_int (i : Int) : D.isNon (.int i) = false := (rfl)
theorem isNon_str (i : List Nat) : D.isNon (.str i) = false := (rfl)
theorem isNon_bl (i : Bool) : D.isNon (.bl i) = false := (rfl)
theorem isNon_tup (i : List D) : D.isNon (.tup i) = false := (rfl)
theorem isNon_lst (i : List D) : D.isNon (.lst i) = false := (rfl)
theorem isi_int (M : Mem) (i : Int) (ts : List Ty) : isiS M (.int i) ts = some (ts.any (isTy M (.int i))) := (rfl)
theorem isi_bl (M : Mem) (i : Bool) (ts : List Ty) : isiS M (.bl i) ts = some (ts.any (isTy M (.bl i))) := (rfl)
theorem isi_str (M : Mem) (i : List Nat) (ts : List Ty) : isiS M (.str i) ts = some (ts.any (isTy M (.str i))) := (rfl)
theorem isi_tup (M : Mem) (i : List D) (ts : List Ty) : isiS M (.tup i) ts = some (ts.any (isTy M (.tup i))) := (rfl)
theorem isi_lst (M : Mem) (i : List D) (ts : List Ty) : isiS M (.lst i) ts = some (ts.any (isTy M (.lst i))) := (rfl)
theorem isi_non (M : Mem) (ts : List Ty) : isiS M .non ts = some (ts.any (isTy M .non)) := (rfl)
/-! ### places, built-ins -/
theorem ix_tup (M : Mem) (ds : List D) (i : Int) : idxS M (.tup ds) (.int i) = atI ds i := (rfl)
theorem ix_lst (M : Mem) (ds : List D) (i : Int) : idxS M (.lst ds) (.int i) = atI ds i := (rfl)
theorem ix_ro (M : Mem) (l : Bool) (ds : List D) (i : Int) : idxS M (.ro l ds) (.int i) = atI ds i := (rfl)
theorem ix_str (M : Mem) (s : List Nat) (i : Int) (h : s.length ≤ line) : idxS M (.str s) (.int i) = (atI s i).map fun c => D.str [c] := if_pos h
theorem ix_loc (M : Mem) (n : Nat) (ds : List D) (i : Int) (h : M[n]? = some (.lst ds)) : idxS M (.loc n) (.int i) = atI ds i := by
  simp only [idxS, dictGet, h, idxQ, seqOf]
theorem atI_nat {α : Type} (xs : List α) (n : Nat) : atI xs (n : Int) = xs[n]? := by
  unfold atI ixN
  rw [if_pos (Int.natCast_nonneg n)]
  split
  · simp
  · rename_i h
    rw [List.getElem?_eq_none (by omega)]
    rfl
theorem atI_pos {α : Type} (xs : List α) (i : Int) (h : 0 ≤ i) : atI xs i = xs[i.toNat]? := by
  obtain ⟨n, rfl⟩ := Int.eq_ofNat_of_zero_le h
  exact atI_nat xs n
theorem at0 {α : Type} (a : α) (l : List α) : atI (a :: l) 0 = some a := atI_nat _ 0
theorem at1 {α : Type} (a b : α) (l : List α) : atI (a :: b :: l) 1 = some b := atI_nat _ 1
theorem at2 {α : Type} (a b c : α) (l : List α) : atI (a :: b :: c :: l) 2 = some c := atI_nat _ 2
theorem at3 {α : Type} (a b c d : α) (l : List α) : atI (a :: b :: c :: d :: l) 3 = some d := atI_nat _ 3
theorem at4 {α : Type} (a b c d e : α) (l : List α) : atI (a :: b :: c :: d :: e :: l) 4 = some e := atI_nat _ 4
theorem at5 {α : Type} (a b c d e f : α) (l : List α) : atI (a :: b :: c :: d :: e :: f :: l) 5 = some f := atI_nat _ 5
theorem bl_len (M : Mem) (d : D) : bltS M .len [d] = lenS M d := (rfl)
theorem len_tup (M : Mem) (ds : List D) : lenS M (.tup ds) = some (.int ds.length) := (rfl)
theorem len_lst (M : Mem) (ds : List D) : lenS M (.lst ds) = some (.int ds.length) := (rfl)
theorem len_ro (M : Mem) (l : Bool) (ds : List D) : lenS M (.ro l ds) = some (.int ds.length) := (rfl)
theorem len_str (M : Mem) (s : List Nat) (h : s.length ≤ line) : lenS M (.str s) = some (.int s.length) := if_pos h
theorem len_loc (M : Mem) (n : Nat) (ds : List D) (h : M[n]? = some (.lst ds)) : lenS M (.loc n) = some (.int ds.length) := by simp only [lenS, h]
theorem len_locK (M : Mem) (n : Nat) (ds : List (Ky × D)) (h : M[n]? = some (.dK ds)) : lenS M (.loc n) = some (.int ds.length) := by simp only [lenS, h]
theorem bl_tuple (M : Mem) (d : D) : bltS M .tuple [d] = tupS M d := (rfl)
theorem tup_tup (M : Mem) (ds : List D) : tupS M (.tup ds) = some (.tup ds) := (rfl)
theorem tup_lst (M : Mem) (ds : List D) : tupS M (.lst ds) = some (.tup ds) := (rfl)
theorem tup_loc (M : Mem) (n : Nat) (ds : List D) (h : M[n]? = some (.lst ds)) : tupS M (.loc n) = some (.tup ds) := by simp only [tupS, lstOf, h, Option.map_some]
theorem bl_list (M : Mem) (d : D) : bltS M .list [d] = (seqOf M d).map D.lst := (rfl)
theorem seq_tup (M : Mem) (ds : List D) : seqOf M (.tup ds) = some ds := (rfl)
theorem seq_lst (M : Mem) (ds : List D) : seqOf M (.lst ds) = some ds := (rfl)
theorem seq_ro (M : Mem) (l : Bool) (ds : List D) : seqOf M (.ro l ds) = some ds := (rfl)
theorem seq_loc (M : Mem) (n : Nat) (ds : List D) (h : M[n]? = some (.lst ds)) : seqOf M (.loc n) = some ds := by simp only [seqOf, h]
theorem lstO_lst (M : Mem) (ds : List D) : lstOf M (.lst ds) = some ds := (rfl)
theorem lstO_ro (M : Mem) (ds : List D) : lstOf M (.ro true ds) = some ds := (rfl)
theorem lstO_loc (M : Mem) (n : Nat) (ds : List D) (h : M[n]? = some (.lst ds)) : lstOf M (.loc n) = some ds := by simp only [lstOf, h]
theorem bl_int (M : Mem) (i : Int) : bltS M .int [.int i] = some (.int i) := (rfl)
theorem bl_abs (M : Mem) (i : Int) : bltS M .abs [.int i] = some (.int (if i < 0 then -i else i)) := (rfl)
theorem max_if (i j : Int) : (if j > i then j else i) = max i j := by
  rw [Int.max_def]
  split <;> split <;> omega
theorem min_if (i j : Int) : (if j < i then j else i) = min i j := by
  rw [Int.min_def]
  split <;> split <;> omega
theorem bl_max2 (M : Mem) (i j : Int) : bltS M .max2 [.int i, .int j] = some (.int (max i j)) := by rw [← max_if]; rfl
theorem bl_min2 (M : Mem) (i j : Int) : bltS M .min2 [.int i, .int j] = some (.int (min i j)) := by rw [← min_if]; rfl
theorem bl_max1 (M : Mem) (d : D) : bltS M .max1 [d] = (((seqOf M d).bind intsOf).bind maxL).map D.int := (rfl)
theorem bl_min1 (M : Mem) (d : D) : bltS M .min1 [d] = (((seqOf M d).bind intsOf).bind minL).map D.int := (rfl)
theorem bl_maxd (M : Mem) (d : D) (e : Int) : bltS M .maxd [d, .int e] = ((seqOf M d).bind intsOf).map fun ns => D.int ((maxL ns).getD e) := by
  show ((seqOf M d).bind intsOf).map _ = _
  congr 1
  funext ns
  cases maxL ns <;> rfl
theorem bl_mind (M : Mem) (d : D) (e : Int) : bltS M .mind [d, .int e] = ((seqOf M d).bind intsOf).map fun ns => D.int ((minL ns).getD e) := by
  show ((seqOf M d).bind intsOf).map _ = _
  congr 1
  funext ns
  cases minL ns <;> rfl
theorem bl_sum (M : Mem) (d : D) : bltS M .sum [d] = ((lstOf M d).bind intsOf).map fun ns => D.int ns.sum := (rfl)
theorem bl_all (M : Mem) (d : D) : bltS M .all [d] = ((lstOf M d).bind blsOf).map fun bs => D.bl (bs.all id) := (rfl)
theorem bl_any (M : Mem) (d : D) : bltS M .any [d] = ((lstOf M d).bind blsOf).map fun bs => D.bl (bs.any id) := (rfl)
theorem bl_s (b : Bool) : blS (.bl b) = some b := (rfl)
/-! ### memory -/
theorem get_app (M N : Mem) (i : Nat) : (M ++ N)[M.length + i]? = N[i]? := by
  rw [List.getElem?_append_right (Nat.le_add_right _ _), Nat.add_sub_cancel_left]
theorem get_app0 (M N : Mem) : (M ++ N)[M.length]? = N[0]? := get_app M N 0
theorem set_app (M N : Mem) (i : Nat) (c : Cell) : (M ++ N).set (M.length + i) c = M ++ N.set i c := by
  rw [List.set_append_right _ _ (Nat.le_add_right _ _), Nat.add_sub_cancel_left]
theorem set_app0 (M N : Mem) (c : Cell) : (M ++ N).set M.length c = M ++ N.set 0 c := set_app M N 0 c
theorem m_append (M : Mem) (n : Nat) (xs : List D) (d : D) (h : M[n]? = some (.lst xs)) (hl : xs.length < line) : mthS .append (.loc n) [d] M = .ok .non (M.set n (.lst (xs ++ [d]))) := by
  unfold mthS
  simp only [h, hl, if_true]
theorem rc_append (M : Mem) (n : Nat) (xs : List D) (h : M[n]? = some (.lst xs)) : recv .append (.loc n) M = true := by
  unfold recv
  simp only [h]
theorem set_lst (M : Mem) (n : Nat) (ds : List D) (k : Int) (j : Nat) (v : D) (h : M[n]? = some (.lst ds)) (hk : ixN ds.length k = some j) : setS (.loc n) (.int k) v M = some (M.set n (.lst (ds.set j v))) := by
  simp only [setS, h, hk, Option.map_some]
def RS.mem (ρ : Env) (o : Option Mem) : RS := match o with
  | some M => .nx ρ M
  | none => .bad
theorem rsmem (ρ : Env) (M : Mem) : RS.mem ρ (some M) = .nx ρ M := (rfl)
theorem x_setI (C : Ctx) (o i e : Ex) (ρ : Env) (M : Mem) : evS C (.setI o i e) ρ M = (evE C e ρ M).toR ρ fun v M1 => (evE C o ρ M1).toR ρ fun x M2 => (evE C i ρ M2).toR ρ fun y M3 => RS.mem ρ (setS x y v M3) := by
  rw [evS_setI]
  rfl
/-! ### loops -/
theorem x_for (C : Ctx) (tg : Tg) (k : ItK) (es : List Ex) (body : List Stm) (ρ : Env) (M M1 : Mem) (ds : List D) (it : Itm) (he : evEs C es ρ M = .ok ds M1) (hi : itS M1 k ds = some it) :
    evS C (.for_ tg k es body) ρ M = evF it.gd (asgT tg) (fun ρ M => evSs C body ρ M) it.ds ρ M1 := for_of he hi
/-- a block of a for, from a state to a state; the state's cells are as the walk wants them -/
theorem for_fold {α β : Type} {gd : List (Nat × List D)} {b : D → Env → Option Env} {f : Env → Mem → RS} (enc : β → D) (e : α → Env) (m : α → Mem) (st : α → β → α) (I : α → Prop) :
    ∀ (xs : List β) (a : α), I a → (∀ a x, x ∈ xs → I a → I (st a x) ∧ holds (m a) gd = true ∧ ∃ ρ1, b (enc x) (e a) = some ρ1 ∧ f ρ1 (m a) = .nx (e (st a x)) (m (st a x))) → (∀ a, I a → holds (m a) gd = true) →
      evF gd b f (xs.map enc) (e a) (m a) = .nx (e (xs.foldl st a)) (m (xs.foldl st a)) ∧ I (xs.foldl st a)
  | [], a, h, _, hh => by rw [List.map_nil, evF, if_pos (hh a h)]; exact ⟨rfl, h⟩
  | x :: xs, a, h, hs, hh => by
    obtain ⟨h1, h2, ρ1, h3, h4⟩ := hs a x (by simp) h
    rw [List.map_cons, evF, if_pos h2, h3]
    simp only [h4]
    exact for_fold enc e m st I xs (st a x) h1 (fun a y hy => hs a y (by simp [hy])) hh
theorem comp_pure {β : Type} {C : Ctx} {own : List Nat} {tg : Tg} {k : ItK} {es ts : List Ex} {elt : Ex} {ρ : Env} {M M1 : Mem} {ds : List D} {gd : List (Nat × List D)} {xs : List β} (enc : β → D) (g : β → Option D) (he : evEs C es ρ M = .ok ds M1) (hi : itS M1 k ds = some ⟨xs.map enc, gd⟩) (hl : xs.length ≤ line) (hg : holds M1 gd = true)
    (hc : ∀ x ∈ xs, ∃ ρ1, asgT tg (enc x) (wipeD ρ own) = some ρ1 ∧ ((evTs C ts ρ1 M1).bnd fun b M2 => if b then (evE C elt ρ1 M2).bnd fun y M3 => .ok (some y) M3 else .ok none M2) = .ok (g x) M1) :
    evE C (.comp own tg k es ts elt) ρ M = .ok (.lst (xs.filterMap g)) M1 := by
  refine comp_of he hi (by simpa using hl) ?_
  dsimp only
  have key : ∀ (xs : List β) (acc : List D), (∀ x ∈ xs, ∃ ρ1, asgT tg (enc x) (wipeD ρ own) = some ρ1 ∧ ((evTs C ts ρ1 M1).bnd fun b M2 => if b then (evE C elt ρ1 M2).bnd fun y M3 => .ok (some y) M3 else .ok none M2) = .ok (g x) M1) →
      evC gd (fun d M => match asgT tg d (wipeD ρ own) with
      | some ρ1 => (evTs C ts ρ1 M).bnd fun b M2 => if b then (evE C elt ρ1 M2).bnd fun y M3 => .ok (some y) M3 else .ok none M2
      | none => .bad) (xs.map enc) acc M1 = .ok (acc ++ xs.filterMap g) M1 := by
    intro xs
    induction xs with
    | nil => intro acc _; rw [List.map_nil, evC, if_pos hg]; simp
    | cons x xs ih =>
      intro acc h
      obtain ⟨ρ1, h1, h2⟩ := h x (by simp)
      rw [List.map_cons, evC, if_pos hg]
      simp only [h1, h2]
      cases e : g x with
      | none =>
        simp only [List.filterMap_cons, e]
        exact ih acc fun y hy => h y (by simp [hy])
      | some y =>
        simp only [List.filterMap_cons, e]
        rw [ih _ fun y hy => h y (by simp [hy])]
        simp
  have := key xs [] hc
  rw [List.nil_append] at this
  exact this
/-! ### a def's end -/
mutual
def D.dat : D → Bool
  | .tup ds => D.dats ds
  | .lst ds => D.dats ds
  | .loc _ => false
  | .ro _ _ => false
  | _ => true
def D.dats : List D → Bool
  | [] => true
  | d :: ds => D.dat d && D.dats ds
end
mutual
theorem frz_dat {n : Nat} {M : Mem} : ∀ (d : D) (g : Nat), D.dat d = true → frz n M g d = some d
  | .non, _, _ => by rw [frz] <;> simp
  | .bl _, _, _ => by rw [frz] <;> simp
  | .int _, _, _ => by rw [frz] <;> simp
  | .str _, _, _ => by rw [frz] <;> simp
  | .tup ds, g, h => by rw [frz, frzs_dat ds g (by simpa [D.dat] using h)]; rfl
  | .lst ds, g, h => by rw [frz, frzs_dat ds g (by simpa [D.dat] using h)]; rfl
  | .loc _, _, h => by simp [D.dat] at h
  | .ro _ _, _, h => by simp [D.dat] at h
theorem frzs_dat {n : Nat} {M : Mem} : ∀ (ds : List D) (g : Nat), D.dats ds = true → frzs n M g ds = some ds
  | [], _, _ => by rw [frzs]
  | d :: ds, g, h => by
    have h2 : D.dat d = true ∧ D.dats ds = true := by simpa [D.dats] using h
    rw [frzs, frz_dat d g h2.1, frzs_dat ds g h2.2]
end
theorem dat_non : D.dat .non = true := (rfl)
theorem dat_int (i : Int) : D.dat (.int i) = true := (rfl)
theorem dat_str (i : List Nat) : D.dat (.str i) = true := (rfl)
theorem dat_bl (i : Bool) : D.dat (.bl i) = true := (rfl)
theorem dat_tup (i : List D) : D.dat (.tup i) = D.dats i := by rw [D.dat]
theorem dat_lst (i : List D) : D.dat (.lst i) = D.dats i := by rw [D.dat]
theorem dats_nil : D.dats [] = true := (rfl)
theorem dats_cons (d : D) (ds : List D) : D.dats (d :: ds) = (D.dat d && D.dats ds) := by rw [D.dats]
theorem leave_keep (M M' : Mem) (d : D) : leave .keep M d M' = .ok d M' := (rfl)
theorem leave_dat (M N : Mem) (d : D) (h : D.dat d = true) : leave .drop M d (M ++ N) = .ok d M := by
  simp only [leave, tidy_app, if_true, frz_dat d 0 h, List.take_left]
theorem dats_map {α : Type} (f : α → D) (h : ∀ a, D.dat (f a) = true) : ∀ xs : List α, D.dats (xs.map f) = true
  | [] => rfl
  | x :: xs => by rw [List.map_cons, D.dats, h, dats_map f h xs]; rfl
theorem dats_all : ∀ {ds : List D}, (∀ d ∈ ds, D.dat d = true) → D.dats ds = true
  | [], _ => rfl
  | d :: ds, h => by rw [D.dats, h d (by simp), dats_all fun e he => h e (by simp [he])]; rfl
theorem ite_ok {α : Type} (c : Prop) [Decidable c] (a b : α) (M : Mem) : (if c then Res.ok a M else Res.ok b M) = Res.ok (if c then a else b) M := by split <;> rfl
/-! ### loops by an invariant -/
theorem for_inv {β : Type} {gd : List (Nat × List D)} {b : D → Env → Option Env} {f : Env → Mem → RS} (enc : β → D) (I : Env → Mem → Prop) :
    ∀ (xs : List β) (ρ : Env) (M : Mem), I ρ M → (∀ ρ M x, x ∈ xs → I ρ M → ∃ ρ1, b (enc x) ρ = some ρ1 ∧ ∃ ρ' M', (f ρ1 M = .nx ρ' M' ∨ f ρ1 M = .cnt ρ' M') ∧ I ρ' M') → (∀ ρ M, I ρ M → holds M gd = true) →
      ∃ ρ' M', evF gd b f (xs.map enc) ρ M = .nx ρ' M' ∧ I ρ' M'
  | [], ρ, M, h, _, hh => ⟨ρ, M, by rw [List.map_nil, evF, if_pos (hh ρ M h)], h⟩
  | x :: xs, ρ, M, h, hs, hh => by
    obtain ⟨ρ1, h3, ρ', M', h4, h5⟩ := hs ρ M x (by simp) h
    obtain ⟨ρ2, M2, e, i⟩ := for_inv (gd := gd) (b := b) (f := f) enc I xs ρ' M' h5 (fun ρ M y hy => hs ρ M y (by simp [hy])) hh
    refine ⟨ρ2, M2, ?_, i⟩
    rw [List.map_cons, evF, if_pos (hh ρ M h), h3]
    rcases h4 with h4 | h4 <;> simp only [h4] <;> exact e
/-- .. with the turn's number -/
theorem for_invN {gd : List (Nat × List D)} {b : D → Env → Option Env} {f : Env → Mem → RS} (I : Nat → Env → Mem → Prop) (ds : List D) :
    ∀ (n i : Nat) (ρ : Env) (M : Mem), i + n = ds.length → I i ρ M → (∀ i ρ M d, ds[i]? = some d → I i ρ M → ∃ ρ1, b d ρ = some ρ1 ∧ ∃ ρ' M', (f ρ1 M = .nx ρ' M' ∨ f ρ1 M = .cnt ρ' M') ∧ I (i + 1) ρ' M') → (∀ i ρ M, I i ρ M → holds M gd = true) →
      ∃ ρ' M', evF gd b f (ds.drop i) ρ M = .nx ρ' M' ∧ I ds.length ρ' M'
  | 0, i, ρ, M, hn, h, _, hh => ⟨ρ, M, by rw [List.drop_eq_nil_of_le (by omega), evF, if_pos (hh i ρ M h)], by rw [show ds.length = i by omega]; exact h⟩
  | n + 1, i, ρ, M, hn, h, hs, hh => by
    have hi : i < ds.length := by omega
    obtain ⟨ρ1, h3, ρ', M', h4, h5⟩ := hs i ρ M ds[i] (List.getElem?_eq_getElem hi) h
    obtain ⟨ρ2, M2, e, j⟩ := for_invN (gd := gd) (b := b) (f := f) I ds n (i + 1) ρ' M' (by omega) h5 hs hh
    refine ⟨ρ2, M2, ?_, j⟩
    rw [List.drop_eq_getElem_cons hi, evF, if_pos (hh i ρ M h), h3]
    rcases h4 with h4 | h4 <;> simp only [h4] <;> exact e
theorem for_inv0 {gd : List (Nat × List D)} {b : D → Env → Option Env} {f : Env → Mem → RS} (I : Nat → Env → Mem → Prop) (ds : List D) (ρ : Env) (M : Mem) (h : I 0 ρ M) (hs : ∀ i ρ M d, ds[i]? = some d → I i ρ M → ∃ ρ1, b d ρ = some ρ1 ∧ ∃ ρ' M', (f ρ1 M = .nx ρ' M' ∨ f ρ1 M = .cnt ρ' M') ∧ I (i + 1) ρ' M') (hh : ∀ i ρ M, I i ρ M → holds M gd = true) :
    ∃ ρ' M', evF gd b f ds ρ M = .nx ρ' M' ∧ I ds.length ρ' M' := for_invN I ds ds.length 0 ρ M (by omega) h hs hh
theorem rng_map (lo : Int) (n : Nat) : rngI lo n = (List.range n).map fun (k : Nat) => D.int (lo + (k : Int)) := (rfl)
theorem rng_at {lo : Int} {n j : Nat} {d : D} (h : (rngI lo n)[j]? = some d) : j < n ∧ d = .int (lo + j) := by
  simp only [rngI, List.getElem?_map, Option.map_eq_some_iff] at h
  obtain ⟨k, e, rfl⟩ := h
  obtain ⟨e1, e2⟩ := List.getElem?_eq_some_iff.mp e
  simp at e1 e2
  exact ⟨e1, by rw [e2]⟩
theorem rng_len (lo : Int) (n : Nat) : (rngI lo n).length = n := by simp [rngI]
theorem it_rng1 (M : Mem) (j : Int) (h : inR j) : itS M .rng [.int j] = some ⟨rngI 0 j.toNat, []⟩ := if_pos h
theorem it_rng2 (M : Mem) (i j : Int) (h : inR i) (h2 : inR j) : itS M .rng [.int i, .int j] = some ⟨rngI i (j - i).toNat, []⟩ := if_pos ⟨h, h2⟩
theorem evF_brk0 {b : D → Env → Option Env} {f : Env → Mem → RS} {ρ ρ1 ρ' : Env} {M M' : Mem} {d : D} {ds : List D} (hb : b d ρ = some ρ1) (hf : f ρ1 M = .brk ρ' M') : evF [] b f (d :: ds) ρ M = .nx ρ' M' := by
  rw [evF, if_pos (show holds M [] = true from rfl), hb]
  simp only [hf]
theorem evF_cnt0 {b : D → Env → Option Env} {f : Env → Mem → RS} {ρ ρ1 ρ' : Env} {M M' : Mem} {d : D} {ds : List D} (hb : b d ρ = some ρ1) (hf : f ρ1 M = .cnt ρ' M') : evF [] b f (d :: ds) ρ M = evF [] b f ds ρ' M' := by
  rw [evF, if_pos (show holds M [] = true from rfl), hb]
  simp only [hf]
theorem holds0 (M : Mem) : holds M [] = true := (rfl)
theorem it_tup (M : Mem) (ds : List D) : itS M .seq [.tup ds] = some ⟨ds, []⟩ := (rfl)
theorem it_lst (M : Mem) (ds : List D) : itS M .seq [.lst ds] = some ⟨ds, []⟩ := (rfl)
theorem it_loc (M : Mem) (n : Nat) (ds : List D) (h : M[n]? = some (.lst ds)) : itS M .seq [.loc n] = some ⟨ds, [(n, ds)]⟩ := by simp only [itS, seqOf, gdOf, h, Option.map_some]
theorem holds1 (M : Mem) (n : Nat) (ds : List D) (h : M[n]? = some (.lst ds)) : holds M [(n, ds)] = true := by
  simp only [holds, List.all_cons, List.all_nil, Bool.and_true, hold1, h]
  exact D.beqs_refl _
theorem for_rng1 {C : Ctx} {tg : Tg} {e : Ex} {body : List Stm} {ρ : Env} {M M1 : Mem} (j : Int) (he : evE C e ρ M = .ok (.int j) M1) (h : inR j) : evS C (.for_ tg .rng [e] body) ρ M = evF [] (asgT tg) (fun ρ M => evSs C body ρ M) (rngI 0 j.toNat) ρ M1 :=
  x_for C tg .rng [e] body ρ M M1 [.int j] ⟨rngI 0 j.toNat, []⟩ (by rw [evEs_cons, he, bind_ok, evEs_nil, bind_ok]) (it_rng1 _ _ h)
theorem for_rng2 {C : Ctx} {tg : Tg} {e f : Ex} {body : List Stm} {ρ : Env} {M M1 M2 : Mem} (i j : Int) (he : evE C e ρ M = .ok (.int i) M1) (hf : evE C f ρ M1 = .ok (.int j) M2) (h : inR i) (h2 : inR j) : evS C (.for_ tg .rng [e, f] body) ρ M = evF [] (asgT tg) (fun ρ M => evSs C body ρ M) (rngI i (j - i).toNat) ρ M2 :=
  x_for C tg .rng [e, f] body ρ M M2 [.int i, .int j] ⟨rngI i (j - i).toNat, []⟩ (by rw [evEs_cons, he, bind_ok, evEs_cons, hf, bind_ok, evEs_nil, bind_ok, bind_ok]) (it_rng2 _ _ _ h h2)
theorem for_tup {C : Ctx} {tg : Tg} {e : Ex} {body : List Stm} {ρ : Env} {M M1 : Mem} (ds : List D) (he : evE C e ρ M = .ok (.tup ds) M1) : evS C (.for_ tg .seq [e] body) ρ M = evF [] (asgT tg) (fun ρ M => evSs C body ρ M) ds ρ M1 :=
  x_for C tg .seq [e] body ρ M M1 [.tup ds] ⟨ds, []⟩ (by rw [evEs_cons, he, bind_ok, evEs_nil, bind_ok]) rfl
theorem for_lst {C : Ctx} {tg : Tg} {e : Ex} {body : List Stm} {ρ : Env} {M M1 : Mem} (ds : List D) (he : evE C e ρ M = .ok (.lst ds) M1) : evS C (.for_ tg .seq [e] body) ρ M = evF [] (asgT tg) (fun ρ M => evSs C body ρ M) ds ρ M1 :=
  x_for C tg .seq [e] body ρ M M1 [.lst ds] ⟨ds, []⟩ (by rw [evEs_cons, he, bind_ok, evEs_nil, bind_ok]) rfl
theorem comp_tup {β : Type} {C : Ctx} {own : List Nat} {tg : Tg} {e : Ex} {ts : List Ex} {elt : Ex} {ρ : Env} {M M1 : Mem} (xs : List β) (enc : β → D) (g : β → Option D) (he : evE C e ρ M = .ok (.tup (xs.map enc)) M1) (hl : xs.length ≤ line)
    (hc : ∀ x ∈ xs, ∃ ρ1, asgT tg (enc x) (wipeD ρ own) = some ρ1 ∧ ((evTs C ts ρ1 M1).bnd fun b M2 => if b = true then (evE C elt ρ1 M2).bnd fun y M3 => .ok (some y) M3 else .ok none M2) = .ok (g x) M1) :
    evE C (.comp own tg .seq [e] ts elt) ρ M = .ok (.lst (xs.filterMap g)) M1 :=
  comp_pure (ds := [.tup (xs.map enc)]) (gd := []) enc g (by rw [evEs_cons, he, bind_ok, evEs_nil, bind_ok]) rfl hl rfl hc
theorem comp_lst {β : Type} {C : Ctx} {own : List Nat} {tg : Tg} {e : Ex} {ts : List Ex} {elt : Ex} {ρ : Env} {M M1 : Mem} (xs : List β) (enc : β → D) (g : β → Option D) (he : evE C e ρ M = .ok (.lst (xs.map enc)) M1) (hl : xs.length ≤ line)
    (hc : ∀ x ∈ xs, ∃ ρ1, asgT tg (enc x) (wipeD ρ own) = some ρ1 ∧ ((evTs C ts ρ1 M1).bnd fun b M2 => if b = true then (evE C elt ρ1 M2).bnd fun y M3 => .ok (some y) M3 else .ok none M2) = .ok (g x) M1) :
    evE C (.comp own tg .seq [e] ts elt) ρ M = .ok (.lst (xs.filterMap g)) M1 :=
  comp_pure (ds := [.lst (xs.map enc)]) (gd := []) enc g (by rw [evEs_cons, he, bind_ok, evEs_nil, bind_ok]) rfl hl rfl hc
theorem comp_rng1 {C : Ctx} {own : List Nat} {tg : Tg} {e : Ex} {ts : List Ex} {elt : Ex} {ρ : Env} {M M1 : Mem} (n : Nat) (g : Nat → Option D) (he : evE C e ρ M = .ok (.int n) M1) (hl : n ≤ line)
    (hc : ∀ x, x < n → ∃ ρ1, asgT tg (.int (x : Int)) (wipeD ρ own) = some ρ1 ∧ ((evTs C ts ρ1 M1).bnd fun b M2 => if b = true then (evE C elt ρ1 M2).bnd fun y M3 => .ok (some y) M3 else .ok none M2) = .ok (g x) M1) :
    evE C (.comp own tg .rng [e] ts elt) ρ M = .ok (.lst ((List.range n).filterMap g)) M1 := by
  have hr : inR (n : Int) := by have : n ≤ 16777216 := hl; constructor <;> omega
  refine comp_pure (xs := List.range n) (ds := [.int n]) (gd := []) (fun k => D.int (k : Int)) g (by rw [evEs_cons, he, bind_ok, evEs_nil, bind_ok]) ?_ (by simpa using hl) rfl (fun x hx => hc x (List.mem_range.mp hx))
  rw [it_rng1 _ _ hr, Int.toNat_natCast]
  unfold rngI
  congr 3
  funext k
  rw [Int.zero_add]
theorem for_rngN {C : Ctx} {tg : Tg} {e : Ex} {body : List Stm} {ρ : Env} {M M1 : Mem} (n : Nat) (he : evE C e ρ M = .ok (.int (n : Int)) M1) (h : n ≤ line) : evS C (.for_ tg .rng [e] body) ρ M = evF [] (asgT tg) (fun ρ M => evSs C body ρ M) (rngI 0 n) ρ M1 := by
  have hr : inR (n : Int) := by have : n ≤ 16777216 := h; constructor <;> omega
  rw [for_rng1 _ he hr, Int.toNat_natCast]
/-- the first item that passes a test ends the loop -/
theorem for_find {β : Type} {b : D → Env → Option Env} {f : Env → Mem → RS} {M : Mem} (enc : β → D) (e : Option β → Env) (p : β → Bool) (r : β → D) : ∀ (xs : List β) (o : Option β), (∀ o x, x ∈ xs → b (enc x) (e o) = some (e (some x))) → (∀ x ∈ xs, f (e (some x)) M = if p x = true then .ret (r x) M else .nx (e (some x)) M) →
    (∃ x, x ∈ xs ∧ xs.find? p = some x ∧ p x = true ∧ evF [] b f (xs.map enc) (e o) M = .ret (r x) M) ∨ (xs.find? p = none ∧ ∃ o', evF [] b f (xs.map enc) (e o) M = .nx (e o') M)
  | [], o, _, _ => .inr ⟨rfl, o, by rw [List.map_nil, evF_nil0]⟩
  | x :: xs, o, hb, hf => by
    have h1 := hf x (by simp)
    cases hp : p x with
    | true =>
      rw [hp, if_pos rfl] at h1
      exact .inl ⟨x, by simp, by rw [List.find?_cons, hp], hp, by rw [List.map_cons, evF_ret0 (hb o x (by simp)) h1]⟩
    | false =>
      rw [hp, if_neg (by simp)] at h1
      have hs : (x :: xs).find? p = xs.find? p := by rw [List.find?_cons, hp]
      rw [List.map_cons, evF_nx0 (hb o x (by simp)) h1, hs]
      rcases for_find (M := M) (f := f) enc e p r xs (some x) (fun o y hy => hb o y (by simp [hy])) (fun y hy => hf y (by simp [hy])) with ⟨y, a1, a2, a3, a4⟩ | h
      · exact .inl ⟨y, by simp [a1], a2, a3, a4⟩
      · exact .inr h
theorem dats_ints (ns : List Int) : D.dats (ns.map D.int) = true := dats_map _ (fun _ => rfl) ns
theorem dats_bls (ns : List Bool) : D.dats (ns.map D.bl) = true := dats_map _ (fun _ => rfl) ns
theorem dats_strs (ns : List (List Nat)) : D.dats (ns.map D.str) = true := dats_map _ (fun _ => rfl) ns
def RS.catch_ (r : RS) (x : Nat) (f : Env → Mem → RS) (_ : Fx f := ⟨⟩) : RS := match r with
  | .exc y vs ρ M => if y = x then f ρ M else .exc y vs ρ M
  | r => r
theorem x_try (C : Ctx) (b : List Stm) (x : Nat) (h : List Stm) (ρ : Env) (M : Mem) : evS C (.try_ b x h) ρ M = (evSs C b ρ M).catch_ x fun ρ' M' => evSs C h ρ' M' := by
  rw [evS_try_]
  rfl
theorem catch_ret (d : D) (M : Mem) (x : Nat) (f : Env → Mem → RS) : (RS.ret d M).catch_ x f = .ret d M := (rfl)
theorem catch_nx (ρ : Env) (M : Mem) (x : Nat) (f : Env → Mem → RS) : (RS.nx ρ M).catch_ x f = .nx ρ M := (rfl)
theorem catch_exc (ρ : Env) (vs : List D) (M : Mem) (x : Nat) (f : Env → Mem → RS) : (RS.exc x vs ρ M).catch_ x f = f ρ M := by
  unfold RS.catch_
  exact if_pos rfl
/-! ### draws, gathered -/
def cturn (C : Ctx) (own : List Nat) (tg : Tg) (ts : List Ex) (elt : Ex) (ρ : Env) (d : D) (M : Mem) : Res (Option D) := match asgT tg d (wipeD ρ own) with
  | some ρ1 => (evTs C ts ρ1 M).bnd fun b M2 => if b then (evE C elt ρ1 M2).bnd fun y M3 => .ok (some y) M3 else .ok none M2
  | none => .bad
theorem cturn_at {C : Ctx} {own : List Nat} {tg : Tg} {ts : List Ex} {elt : Ex} {ρ ρ1 : Env} {d : D} {M : Mem} (h : asgT tg d (wipeD ρ own) = some ρ1) : cturn C own tg ts elt ρ d M = (evTs C ts ρ1 M).bnd fun b M2 => if b then (evE C elt ρ1 M2).bnd fun y M3 => .ok (some y) M3 else .ok none M2 := by
  unfold cturn
  rw [h]
theorem comp_of2 {C : Ctx} {own : List Nat} {tg : Tg} {k : ItK} {es ts : List Ex} {elt : Ex} {ρ : Env} {M M1 M2 : Mem} {ds ys : List D} {it : Itm} (he : evEs C es ρ M = .ok ds M1) (hi : itS M1 k ds = some it) (hl : it.ds.length ≤ line) (hc : evC it.gd (cturn C own tg ts elt ρ) it.ds [] M1 = .ok ys M2) : evE C (.comp own tg k es ts elt) ρ M = .ok (.lst ys) M2 := comp_of he hi hl hc
theorem evC_nil (f : D → Mem → Res (Option D)) (acc : List D) (M : Mem) : evC [] f [] acc M = .ok acc M := by rw [evC]; exact if_pos rfl
theorem evC_cons (f : D → Mem → Res (Option D)) (d : D) (ds acc : List D) (M : Mem) : evC [] f (d :: ds) acc M = match f d M with
    | .ok (some y) M' => evC [] f ds (acc ++ [y]) M'
    | .ok none M' => evC [] f ds acc M'
    | _ => .bad := by rw [evC]; exact if_pos rfl
/-- a comprehension whose items draw: the cell 0 goes on, the rest stays -/
theorem comp_draw {β γ : Type} {C : Ctx} {own : List Nat} {tg : Tg} {k : ItK} {es : List Ex} {elt : Ex} {ρ : Env} {M : Mem} {p : Int} {N : Mem} {ds : List D} (xs : List β) (enc : β → D) (enc2 : γ → D) (P : β → γ → Prop) (he : evEs C es ρ M = .ok ds (.lst [.int p] :: N)) (hi : itS (.lst [.int p] :: N) k ds = some ⟨xs.map enc, []⟩) (hl : xs.length ≤ line) (hp : 0 ≤ p)
    (hc : ∀ x ∈ xs, ∀ p, 0 ≤ p → ∃ ρ1, asgT tg (enc x) (wipeD ρ own) = some ρ1 ∧ ∃ y p', 0 ≤ p' ∧ P x y ∧ evE C elt ρ1 (.lst [.int p] :: N) = .ok (enc2 y) (.lst [.int p'] :: N)) :
    ∃ (ys : List γ) (p' : Int), 0 ≤ p' ∧ ys.length = xs.length ∧ (∀ q ∈ xs.zip ys, P q.1 q.2) ∧ evE C (.comp own tg k es [] elt) ρ M = .ok (.lst (ys.map enc2)) (.lst [.int p'] :: N) := by
  have key : ∀ (xs : List β) (acc : List D) (p : Int), 0 ≤ p → (∀ x ∈ xs, ∀ p, 0 ≤ p → ∃ ρ1, asgT tg (enc x) (wipeD ρ own) = some ρ1 ∧ ∃ y p', 0 ≤ p' ∧ P x y ∧ evE C elt ρ1 (.lst [.int p] :: N) = .ok (enc2 y) (.lst [.int p'] :: N)) →
      ∃ (ys : List γ) (p' : Int), 0 ≤ p' ∧ ys.length = xs.length ∧ (∀ q ∈ xs.zip ys, P q.1 q.2) ∧ evC [] (cturn C own tg [] elt ρ) (xs.map enc) acc (.lst [.int p] :: N) = .ok (acc ++ ys.map enc2) (.lst [.int p'] :: N) := by
    intro xs
    induction xs with
    | nil => intro acc p hp _; exact ⟨[], p, hp, rfl, by simp, by rw [List.map_nil, evC_nil]; simp⟩
    | cons x xs ih =>
      intro acc p hp h
      obtain ⟨ρ1, h1, y, p', h2, h3, h4⟩ := h x (by simp) p hp
      obtain ⟨ys, p2, g1, g2, g3, g4⟩ := ih (acc ++ [enc2 y]) p' h2 fun y hy => h y (by simp [hy])
      refine ⟨y :: ys, p2, g1, by simp [g2], ?_, ?_⟩
      · intro q hq
        rw [List.zip_cons_cons] at hq
        rcases List.mem_cons.mp hq with e | e
        · rw [e]; exact h3
        · exact g3 q e
      · have e : cturn C own tg [] elt ρ (enc x) (.lst [.int p] :: N) = .ok (some (enc2 y)) (.lst [.int p'] :: N) := by
          rw [cturn_at h1, evTs_nil, bind_ok, if_pos rfl, h4, bind_ok]
        rw [List.map_cons, evC_cons, e]
        dsimp only
        rw [g4]
        simp
  obtain ⟨ys, p', g1, g2, g3, g4⟩ := key xs [] p hp hc
  refine ⟨ys, p', g1, g2, g3, comp_of2 he hi (by simpa using hl) ?_⟩
  rw [List.nil_append] at g4
  exact g4
theorem zip_mem_right {α β : Type} : ∀ {xs : List α} {ys : List β}, ys.length = xs.length → ∀ y ∈ ys, ∃ x, (x, y) ∈ xs.zip ys
  | [], [], _, _, h => by cases h
  | x :: xs, y :: ys, e, z, h => by
    rcases List.mem_cons.mp h with q | q
    · exact ⟨x, by rw [q]; simp⟩
    · obtain ⟨w, hw⟩ := zip_mem_right (xs := xs) (ys := ys) (by simpa using e) z q
      exact ⟨w, by simp [hw]⟩
  | [], _ :: _, e, _, _ => by simp at e
  | _ :: _, [], _, _, h => by cases h
/-- .. over a range: each item for itself -/
theorem comp_drawN {γ : Type} {C : Ctx} {own : List Nat} {tg : Tg} {e : Ex} {elt : Ex} {ρ : Env} {M : Mem} {p : Int} {N : Mem} (n : Nat) (enc2 : γ → D) (P : γ → Prop) (he : evE C e ρ M = .ok (.int n) (.lst [.int p] :: N)) (hl : n ≤ line) (hp : 0 ≤ p)
    (hc : ∀ x, x < n → ∀ p, 0 ≤ p → ∃ ρ1, asgT tg (.int (x : Int)) (wipeD ρ own) = some ρ1 ∧ ∃ y p', 0 ≤ p' ∧ P y ∧ evE C elt ρ1 (.lst [.int p] :: N) = .ok (enc2 y) (.lst [.int p'] :: N)) :
    ∃ (ys : List γ) (p' : Int), 0 ≤ p' ∧ ys.length = n ∧ (∀ y ∈ ys, P y) ∧ evE C (.comp own tg .rng [e] [] elt) ρ M = .ok (.lst (ys.map enc2)) (.lst [.int p'] :: N) := by
  have hr : inR (n : Int) := by have : n ≤ 16777216 := hl; constructor <;> omega
  have hi : itS (.lst [.int p] :: N) .rng [.int (n : Int)] = some ⟨(List.range n).map fun k : Nat => D.int (k : Int), []⟩ := by
    rw [it_rng1 _ _ hr, Int.toNat_natCast]
    unfold rngI
    congr 3
    funext k
    rw [Int.zero_add]
  obtain ⟨ys, p', g1, g2, g3, g4⟩ := comp_draw (List.range n) (fun k : Nat => D.int (k : Int)) enc2 (fun _ y => P y) (by rw [evEs_cons, he, bind_ok, evEs_nil, bind_ok]) hi (by simpa using hl) hp (fun x hx => hc x (List.mem_range.mp hx))
  refine ⟨ys, p', g1, by simpa using g2, fun y hy => ?_, g4⟩
  obtain ⟨x, hx⟩ := zip_mem_right g2 y hy
  exact g3 _ hx
theorem leave_nil (N : Mem) (d : D) (h : D.dat d = true) : leave .drop [] d N = .ok d [] := leave_dat [] N d h
theorem leave_spot (p p' : Int) (N L : Mem) (d : D) (h : D.dat d = true) : leave .drop (.lst [.int p] :: N) d (.lst [.int p'] :: (N ++ L)) = .ok d (.lst [.int p'] :: N) := by
  have ht : ∀ n, tidy n (.lst [.int p] :: N) (.lst [.int p'] :: (N ++ L)) = true := fun n => by
    rw [tidy, tidy_app]
    simp [Cell.under, D.unders, D.under]
  simp only [leave, ht, if_true, frz_dat d 0 h, List.length_cons, List.take_succ_cons, List.take_left]
theorem leave_spot0 (p p' : Int) (N : Mem) (d : D) (h : D.dat d = true) : leave .drop (.lst [.int p] :: N) d (.lst [.int p'] :: N) = .ok d (.lst [.int p'] :: N) := by
  have := leave_spot p p' N [] d h
  rwa [List.append_nil] at this
theorem nn1 {p : Int} (h : 0 ≤ p) : (0 ≤ p + 1) = True := by simp; omega
theorem maxL_mem : ∀ {ns : List Int} {m : Int}, maxL ns = some m → m ∈ ns ∧ ∀ y ∈ ns, y ≤ m
  | [], _, h => by simp [maxL] at h
  | [x], m, h => by
    simp [maxL] at h
    subst h
    simp
  | x :: y :: r, m, h => by
    have h2 : (maxL (y :: r)).map (fun k => max x k) = some m := h
    cases e : maxL (y :: r) with
    | none => rw [e] at h2; cases h2
    | some k =>
      rw [e] at h2
      obtain ⟨g1, g2⟩ := maxL_mem e
      have h3 : max x k = m := by simpa using h2
      refine ⟨?_, ?_⟩
      · by_cases c : x ≤ k
        · rw [← h3, Int.max_eq_right c]; exact List.mem_cons_of_mem _ g1
        · rw [← h3, Int.max_eq_left (by omega)]; simp
      · intro z hz
        rcases List.mem_cons.mp hz with q | q
        · omega
        · have := g2 z q
          omega
theorem maxL_ex : ∀ {ns : List Int}, ns ≠ [] → ∃ m, maxL ns = some m
  | [], h => absurd rfl h
  | [x], _ => ⟨x, rfl⟩
  | x :: y :: r, _ => by
    obtain ⟨k, e⟩ := maxL_ex (ns := y :: r) (by simp)
    exact ⟨max x k, by show (maxL (y :: r)).map (fun k => max x k) = _; rw [e]; rfl⟩
theorem getD_all {P : D → Prop} {ds : List D} {i : Nat} (hi : i < ds.length) (h : ∀ d ∈ ds, P d) : P (ds.getD i .non) := by
  rw [List.getD_eq_getElem?_getD, List.getElem?_eq_getElem hi]
  exact h _ (List.getElem_mem hi)
theorem sIx_nn {n d : Nat} {v : Int} (h : 0 ≤ v) : sIx n d (some v) = min v.toNat n := by
  unfold sIx
  dsimp only
  rw [if_neg (by omega)]
theorem cut_nn {α : Type} (xs : List α) {a b : Int} (ha : 0 ≤ a) (hb : 0 ≤ b) : cut xs (some a) (some b) = (xs.drop (min a.toNat xs.length)).take (min b.toNat xs.length - min a.toNat xs.length) := by
  unfold cut
  rw [sIx_nn ha, sIx_nn hb]
end Pv

set_option Elab.async false
set_option linter.all false
set_option maxRecDepth 100000
set_option maxHeartbeats 4000000
/-! S1: the laws' draws and comparisons, the simplest checks. -/
namespace Pv
theorem is_integer_int (k : Nat) (i : Int) (M : Mem) : callF T G (k + 1) 19 [.int i] M = .ok (.bl true) M := by
  rw [r19, b19]
  simp only [x_seq, seq_nx, seq_ret, seq_exc, seq_brk, seq_cnt, x_asg, x_asgt, asgT_name, asgT_tup, asgTs_nil, asgTs_cons, rsopt, x_ite, x_var, get_some, x_tvar, tru_some, x_setI, rsmem, bind_ok, bind_exc, toRS_ok, toRS_exc, opt_some, fin_keep, fin_nxk, fin_exc, fin_ret, fin_nx, leave_keep, leave_dat, leave_nil, leave_spot, leave_spot0, nn1, Int.reduceLT, Int.reduceLE, Int.reduceAdd, Int.reduceSub, Int.reduceNeg, Int.reduceMul, dat_non, dat_int, dat_str, dat_bl, dat_tup, dat_lst, dats_nil, dats_cons, dats_ints, dats_bls, dats_strs, evE_cst, evE_glob, evE_op, evE_neg, evE_cmp, evE_cmp2, evE_land, evE_lor, evE_lnot, evE_ite, evE_tup, evE_lst, evE_lstC, evE_dictK, evE_idx, evE_slc, evE_isi, evE_call, evE_blt, evE_cell, evE_meth, evT_land, evT_lor, evT_lnot, evT_cmp, evT_cmp2, evT_isi, evT_call, evT_blt, evT_idx, evT_cst, evT_op, evS_par, evS_expr, evS_ret, evS_pass, evS_brk, evS_cnt, evS_raise, x_try, catch_ret, catch_nx, catch_exc, evEs_nil, evEs_cons, evTs_nil, evTs_one, evAnd_one, evOr_one, evTAnd_one, evTOr_one, evSs_nil, evAnd_cons, evOr_cons, evTAnd_cons, evTOr_cons, op_add, op_sub, op_mul, op_mod, op_fdiv, op_tadd, op_ladd, op_sadd, cmp_lt, cmp_le, cmp_gt, cmp_ge, cmp_eq, cmp_ne, cmp_is, cmp_isnt, cmp_in, cmp_notin, eq_int, eq_str, eq_bl, isNon_non, isNon_int, isNon_str, isNon_bl, isNon_tup, isNon_lst, isi_int, isi_bl, isi_str, isi_tup, isi_lst, isi_non, isTy, ix_tup, ix_lst, ix_ro, at0, at1, at2, at3, at4, at5, bl_len, len_tup, len_lst, len_ro, bl_tuple, tup_tup, tup_lst, bl_list, seq_tup, seq_lst, seq_ro, lstO_lst, lstO_ro, bl_int, bl_abs, bl_max2, bl_min2, bl_max1, bl_min1, bl_maxd, bl_mind, bl_sum, bl_all, bl_any, bl_s, tru_int, tru_bl, tru_tup, tru_lst, get_app, get_app0, set_app, set_app0, m_append, rc_append, ite_ok, List.any_cons, List.any_nil, List.getElem?_cons_zero, List.getElem?_cons_succ, List.set_cons_zero, List.set_cons_succ, List.length_cons, List.length_nil, List.length_append, List.length_map, List.append_assoc, List.cons_append, List.nil_append, Option.map_some, Option.bind_some, Option.map_none, Option.bind_none, intsOf_map, blsOf_map, Nat.reduceAdd, Nat.reduceLT, Nat.reduceLeDiff, Nat.add_zero, Nat.zero_add, if_true, if_false, ite_self, decide_eq_true_eq, Bool.not_true, Bool.not_false, Bool.or_false, Bool.or_true, Bool.true_or, Bool.false_or, Bool.and_true, Bool.true_and, Bool.false_and, Bool.and_false, decide_true, decide_false, reduceCtorEq, eq_self, not_true_eq_false, not_false_eq_true, Bool.false_eq_true, Int.cast_ofNat_Int, Int.natCast_add]
theorem is_within_int (k : Nat) (i a b : Int) (M : Mem) : callF T G (k + 2) 20 [.int i, .int a, .int b] M = .ok (.bl (decide (a ≤ i) && decide (i ≤ b))) M := by
  rw [r20, b20]
  by_cases h : a ≤ i
  · simp only [x_seq, seq_nx, seq_ret, seq_exc, seq_brk, seq_cnt, x_asg, x_asgt, asgT_name, asgT_tup, asgTs_nil, asgTs_cons, rsopt, x_ite, x_var, get_some, x_tvar, tru_some, x_setI, rsmem, bind_ok, bind_exc, toRS_ok, toRS_exc, opt_some, fin_keep, fin_nxk, fin_exc, fin_ret, fin_nx, leave_keep, leave_dat, leave_nil, leave_spot, leave_spot0, nn1, Int.reduceLT, Int.reduceLE, Int.reduceAdd, Int.reduceSub, Int.reduceNeg, Int.reduceMul, dat_non, dat_int, dat_str, dat_bl, dat_tup, dat_lst, dats_nil, dats_cons, dats_ints, dats_bls, dats_strs, evE_cst, evE_glob, evE_op, evE_neg, evE_cmp, evE_cmp2, evE_land, evE_lor, evE_lnot, evE_ite, evE_tup, evE_lst, evE_lstC, evE_dictK, evE_idx, evE_slc, evE_isi, evE_call, evE_blt, evE_cell, evE_meth, evT_land, evT_lor, evT_lnot, evT_cmp, evT_cmp2, evT_isi, evT_call, evT_blt, evT_idx, evT_cst, evT_op, evS_par, evS_expr, evS_ret, evS_pass, evS_brk, evS_cnt, evS_raise, x_try, catch_ret, catch_nx, catch_exc, evEs_nil, evEs_cons, evTs_nil, evTs_one, evAnd_one, evOr_one, evTAnd_one, evTOr_one, evSs_nil, evAnd_cons, evOr_cons, evTAnd_cons, evTOr_cons, op_add, op_sub, op_mul, op_mod, op_fdiv, op_tadd, op_ladd, op_sadd, cmp_lt, cmp_le, cmp_gt, cmp_ge, cmp_eq, cmp_ne, cmp_is, cmp_isnt, cmp_in, cmp_notin, eq_int, eq_str, eq_bl, isNon_non, isNon_int, isNon_str, isNon_bl, isNon_tup, isNon_lst, isi_int, isi_bl, isi_str, isi_tup, isi_lst, isi_non, isTy, ix_tup, ix_lst, ix_ro, at0, at1, at2, at3, at4, at5, bl_len, len_tup, len_lst, len_ro, bl_tuple, tup_tup, tup_lst, bl_list, seq_tup, seq_lst, seq_ro, lstO_lst, lstO_ro, bl_int, bl_abs, bl_max2, bl_min2, bl_max1, bl_min1, bl_maxd, bl_mind, bl_sum, bl_all, bl_any, bl_s, tru_int, tru_bl, tru_tup, tru_lst, get_app, get_app0, set_app, set_app0, m_append, rc_append, ite_ok, List.any_cons, List.any_nil, List.getElem?_cons_zero, List.getElem?_cons_succ, List.set_cons_zero, List.set_cons_succ, List.length_cons, List.length_nil, List.length_append, List.length_map, List.append_assoc, List.cons_append, List.nil_append, Option.map_some, Option.bind_some, Option.map_none, Option.bind_none, intsOf_map, blsOf_map, Nat.reduceAdd, Nat.reduceLT, Nat.reduceLeDiff, Nat.add_zero, Nat.zero_add, if_true, if_false, ite_self, decide_eq_true_eq, Bool.not_true, Bool.not_false, Bool.or_false, Bool.or_true, Bool.true_or, Bool.false_or, Bool.and_true, Bool.true_and, Bool.false_and, Bool.and_false, decide_true, decide_false, reduceCtorEq, eq_self, not_true_eq_false, not_false_eq_true, Bool.false_eq_true, Int.cast_ofNat_Int, Int.natCast_add, is_integer_int, h]
  · simp only [x_seq, seq_nx, seq_ret, seq_exc, seq_brk, seq_cnt, x_asg, x_asgt, asgT_name, asgT_tup, asgTs_nil, asgTs_cons, rsopt, x_ite, x_var, get_some, x_tvar, tru_some, x_setI, rsmem, bind_ok, bind_exc, toRS_ok, toRS_exc, opt_some, fin_keep, fin_nxk, fin_exc, fin_ret, fin_nx, leave_keep, leave_dat, leave_nil, leave_spot, leave_spot0, nn1, Int.reduceLT, Int.reduceLE, Int.reduceAdd, Int.reduceSub, Int.reduceNeg, Int.reduceMul, dat_non, dat_int, dat_str, dat_bl, dat_tup, dat_lst, dats_nil, dats_cons, dats_ints, dats_bls, dats_strs, evE_cst, evE_glob, evE_op, evE_neg, evE_cmp, evE_cmp2, evE_land, evE_lor, evE_lnot, evE_ite, evE_tup, evE_lst, evE_lstC, evE_dictK, evE_idx, evE_slc, evE_isi, evE_call, evE_blt, evE_cell, evE_meth, evT_land, evT_lor, evT_lnot, evT_cmp, evT_cmp2, evT_isi, evT_call, evT_blt, evT_idx, evT_cst, evT_op, evS_par, evS_expr, evS_ret, evS_pass, evS_brk, evS_cnt, evS_raise, x_try, catch_ret, catch_nx, catch_exc, evEs_nil, evEs_cons, evTs_nil, evTs_one, evAnd_one, evOr_one, evTAnd_one, evTOr_one, evSs_nil, evAnd_cons, evOr_cons, evTAnd_cons, evTOr_cons, op_add, op_sub, op_mul, op_mod, op_fdiv, op_tadd, op_ladd, op_sadd, cmp_lt, cmp_le, cmp_gt, cmp_ge, cmp_eq, cmp_ne, cmp_is, cmp_isnt, cmp_in, cmp_notin, eq_int, eq_str, eq_bl, isNon_non, isNon_int, isNon_str, isNon_bl, isNon_tup, isNon_lst, isi_int, isi_bl, isi_str, isi_tup, isi_lst, isi_non, isTy, ix_tup, ix_lst, ix_ro, at0, at1, at2, at3, at4, at5, bl_len, len_tup, len_lst, len_ro, bl_tuple, tup_tup, tup_lst, bl_list, seq_tup, seq_lst, seq_ro, lstO_lst, lstO_ro, bl_int, bl_abs, bl_max2, bl_min2, bl_max1, bl_min1, bl_maxd, bl_mind, bl_sum, bl_all, bl_any, bl_s, tru_int, tru_bl, tru_tup, tru_lst, get_app, get_app0, set_app, set_app0, m_append, rc_append, ite_ok, List.any_cons, List.any_nil, List.getElem?_cons_zero, List.getElem?_cons_succ, List.set_cons_zero, List.set_cons_succ, List.length_cons, List.length_nil, List.length_append, List.length_map, List.append_assoc, List.cons_append, List.nil_append, Option.map_some, Option.bind_some, Option.map_none, Option.bind_none, intsOf_map, blsOf_map, Nat.reduceAdd, Nat.reduceLT, Nat.reduceLeDiff, Nat.add_zero, Nat.zero_add, if_true, if_false, ite_self, decide_eq_true_eq, Bool.not_true, Bool.not_false, Bool.or_false, Bool.or_true, Bool.true_or, Bool.false_or, Bool.and_true, Bool.true_and, Bool.false_and, Bool.and_false, decide_true, decide_false, reduceCtorEq, eq_self, not_true_eq_false, not_false_eq_true, Bool.false_eq_true, Int.cast_ofNat_Int, Int.natCast_add, is_integer_int, h]
theorem is_row_tup (k : Nat) (ds : List D) (M : Mem) : callF T G (k + 1) 21 [.tup ds] M = .ok (.bl true) M := by
  rw [r21, b21]
  simp only [x_seq, seq_nx, seq_ret, seq_exc, seq_brk, seq_cnt, x_asg, x_asgt, asgT_name, asgT_tup, asgTs_nil, asgTs_cons, rsopt, x_ite, x_var, get_some, x_tvar, tru_some, x_setI, rsmem, bind_ok, bind_exc, toRS_ok, toRS_exc, opt_some, fin_keep, fin_nxk, fin_exc, fin_ret, fin_nx, leave_keep, leave_dat, leave_nil, leave_spot, leave_spot0, nn1, Int.reduceLT, Int.reduceLE, Int.reduceAdd, Int.reduceSub, Int.reduceNeg, Int.reduceMul, dat_non, dat_int, dat_str, dat_bl, dat_tup, dat_lst, dats_nil, dats_cons, dats_ints, dats_bls, dats_strs, evE_cst, evE_glob, evE_op, evE_neg, evE_cmp, evE_cmp2, evE_land, evE_lor, evE_lnot, evE_ite, evE_tup, evE_lst, evE_lstC, evE_dictK, evE_idx, evE_slc, evE_isi, evE_call, evE_blt, evE_cell, evE_meth, evT_land, evT_lor, evT_lnot, evT_cmp, evT_cmp2, evT_isi, evT_call, evT_blt, evT_idx, evT_cst, evT_op, evS_par, evS_expr, evS_ret, evS_pass, evS_brk, evS_cnt, evS_raise, x_try, catch_ret, catch_nx, catch_exc, evEs_nil, evEs_cons, evTs_nil, evTs_one, evAnd_one, evOr_one, evTAnd_one, evTOr_one, evSs_nil, evAnd_cons, evOr_cons, evTAnd_cons, evTOr_cons, op_add, op_sub, op_mul, op_mod, op_fdiv, op_tadd, op_ladd, op_sadd, cmp_lt, cmp_le, cmp_gt, cmp_ge, cmp_eq, cmp_ne, cmp_is, cmp_isnt, cmp_in, cmp_notin, eq_int, eq_str, eq_bl, isNon_non, isNon_int, isNon_str, isNon_bl, isNon_tup, isNon_lst, isi_int, isi_bl, isi_str, isi_tup, isi_lst, isi_non, isTy, ix_tup, ix_lst, ix_ro, at0, at1, at2, at3, at4, at5, bl_len, len_tup, len_lst, len_ro, bl_tuple, tup_tup, tup_lst, bl_list, seq_tup, seq_lst, seq_ro, lstO_lst, lstO_ro, bl_int, bl_abs, bl_max2, bl_min2, bl_max1, bl_min1, bl_maxd, bl_mind, bl_sum, bl_all, bl_any, bl_s, tru_int, tru_bl, tru_tup, tru_lst, get_app, get_app0, set_app, set_app0, m_append, rc_append, ite_ok, List.any_cons, List.any_nil, List.getElem?_cons_zero, List.getElem?_cons_succ, List.set_cons_zero, List.set_cons_succ, List.length_cons, List.length_nil, List.length_append, List.length_map, List.append_assoc, List.cons_append, List.nil_append, Option.map_some, Option.bind_some, Option.map_none, Option.bind_none, intsOf_map, blsOf_map, Nat.reduceAdd, Nat.reduceLT, Nat.reduceLeDiff, Nat.add_zero, Nat.zero_add, if_true, if_false, ite_self, decide_eq_true_eq, Bool.not_true, Bool.not_false, Bool.or_false, Bool.or_true, Bool.true_or, Bool.false_or, Bool.and_true, Bool.true_and, Bool.false_and, Bool.and_false, decide_true, decide_false, reduceCtorEq, eq_self, not_true_eq_false, not_false_eq_true, Bool.false_eq_true, Int.cast_ofNat_Int, Int.natCast_add]
theorem integer_in_ok (k : Nat) (i a b : Int) (w : D) (M : Mem) (h1 : a ≤ i) (h2 : i ≤ b) : callF T G (k + 3) 30 [.int i, w, .int a, .int b] M = .ok (.int i) M := by
  rw [r30, b30]
  simp only [x_seq, seq_nx, seq_ret, seq_exc, seq_brk, seq_cnt, x_asg, x_asgt, asgT_name, asgT_tup, asgTs_nil, asgTs_cons, rsopt, x_ite, x_var, get_some, x_tvar, tru_some, x_setI, rsmem, bind_ok, bind_exc, toRS_ok, toRS_exc, opt_some, fin_keep, fin_nxk, fin_exc, fin_ret, fin_nx, leave_keep, leave_dat, leave_nil, leave_spot, leave_spot0, nn1, Int.reduceLT, Int.reduceLE, Int.reduceAdd, Int.reduceSub, Int.reduceNeg, Int.reduceMul, dat_non, dat_int, dat_str, dat_bl, dat_tup, dat_lst, dats_nil, dats_cons, dats_ints, dats_bls, dats_strs, evE_cst, evE_glob, evE_op, evE_neg, evE_cmp, evE_cmp2, evE_land, evE_lor, evE_lnot, evE_ite, evE_tup, evE_lst, evE_lstC, evE_dictK, evE_idx, evE_slc, evE_isi, evE_call, evE_blt, evE_cell, evE_meth, evT_land, evT_lor, evT_lnot, evT_cmp, evT_cmp2, evT_isi, evT_call, evT_blt, evT_idx, evT_cst, evT_op, evS_par, evS_expr, evS_ret, evS_pass, evS_brk, evS_cnt, evS_raise, x_try, catch_ret, catch_nx, catch_exc, evEs_nil, evEs_cons, evTs_nil, evTs_one, evAnd_one, evOr_one, evTAnd_one, evTOr_one, evSs_nil, evAnd_cons, evOr_cons, evTAnd_cons, evTOr_cons, op_add, op_sub, op_mul, op_mod, op_fdiv, op_tadd, op_ladd, op_sadd, cmp_lt, cmp_le, cmp_gt, cmp_ge, cmp_eq, cmp_ne, cmp_is, cmp_isnt, cmp_in, cmp_notin, eq_int, eq_str, eq_bl, isNon_non, isNon_int, isNon_str, isNon_bl, isNon_tup, isNon_lst, isi_int, isi_bl, isi_str, isi_tup, isi_lst, isi_non, isTy, ix_tup, ix_lst, ix_ro, at0, at1, at2, at3, at4, at5, bl_len, len_tup, len_lst, len_ro, bl_tuple, tup_tup, tup_lst, bl_list, seq_tup, seq_lst, seq_ro, lstO_lst, lstO_ro, bl_int, bl_abs, bl_max2, bl_min2, bl_max1, bl_min1, bl_maxd, bl_mind, bl_sum, bl_all, bl_any, bl_s, tru_int, tru_bl, tru_tup, tru_lst, get_app, get_app0, set_app, set_app0, m_append, rc_append, ite_ok, List.any_cons, List.any_nil, List.getElem?_cons_zero, List.getElem?_cons_succ, List.set_cons_zero, List.set_cons_succ, List.length_cons, List.length_nil, List.length_append, List.length_map, List.append_assoc, List.cons_append, List.nil_append, Option.map_some, Option.bind_some, Option.map_none, Option.bind_none, intsOf_map, blsOf_map, Nat.reduceAdd, Nat.reduceLT, Nat.reduceLeDiff, Nat.add_zero, Nat.zero_add, if_true, if_false, ite_self, decide_eq_true_eq, Bool.not_true, Bool.not_false, Bool.or_false, Bool.or_true, Bool.true_or, Bool.false_or, Bool.and_true, Bool.true_and, Bool.false_and, Bool.and_false, decide_true, decide_false, reduceCtorEq, eq_self, not_true_eq_false, not_false_eq_true, Bool.false_eq_true, Int.cast_ofNat_Int, Int.natCast_add, is_within_int, h1, h2]
theorem row_in_ok (k : Nat) (ds : List D) (a b : Int) (w : D) (M : Mem) (h1 : ¬ (ds.length : Int) < a) (h2 : ¬ b < (ds.length : Int)) : callF T G (k + 2) 31 [.tup ds, w, .int a, .int b] M = .ok (.tup ds) M := by
  rw [r31, b31]
  simp only [x_seq, seq_nx, seq_ret, seq_exc, seq_brk, seq_cnt, x_asg, x_asgt, asgT_name, asgT_tup, asgTs_nil, asgTs_cons, rsopt, x_ite, x_var, get_some, x_tvar, tru_some, x_setI, rsmem, bind_ok, bind_exc, toRS_ok, toRS_exc, opt_some, fin_keep, fin_nxk, fin_exc, fin_ret, fin_nx, leave_keep, leave_dat, leave_nil, leave_spot, leave_spot0, nn1, Int.reduceLT, Int.reduceLE, Int.reduceAdd, Int.reduceSub, Int.reduceNeg, Int.reduceMul, dat_non, dat_int, dat_str, dat_bl, dat_tup, dat_lst, dats_nil, dats_cons, dats_ints, dats_bls, dats_strs, evE_cst, evE_glob, evE_op, evE_neg, evE_cmp, evE_cmp2, evE_land, evE_lor, evE_lnot, evE_ite, evE_tup, evE_lst, evE_lstC, evE_dictK, evE_idx, evE_slc, evE_isi, evE_call, evE_blt, evE_cell, evE_meth, evT_land, evT_lor, evT_lnot, evT_cmp, evT_cmp2, evT_isi, evT_call, evT_blt, evT_idx, evT_cst, evT_op, evS_par, evS_expr, evS_ret, evS_pass, evS_brk, evS_cnt, evS_raise, x_try, catch_ret, catch_nx, catch_exc, evEs_nil, evEs_cons, evTs_nil, evTs_one, evAnd_one, evOr_one, evTAnd_one, evTOr_one, evSs_nil, evAnd_cons, evOr_cons, evTAnd_cons, evTOr_cons, op_add, op_sub, op_mul, op_mod, op_fdiv, op_tadd, op_ladd, op_sadd, cmp_lt, cmp_le, cmp_gt, cmp_ge, cmp_eq, cmp_ne, cmp_is, cmp_isnt, cmp_in, cmp_notin, eq_int, eq_str, eq_bl, isNon_non, isNon_int, isNon_str, isNon_bl, isNon_tup, isNon_lst, isi_int, isi_bl, isi_str, isi_tup, isi_lst, isi_non, isTy, ix_tup, ix_lst, ix_ro, at0, at1, at2, at3, at4, at5, bl_len, len_tup, len_lst, len_ro, bl_tuple, tup_tup, tup_lst, bl_list, seq_tup, seq_lst, seq_ro, lstO_lst, lstO_ro, bl_int, bl_abs, bl_max2, bl_min2, bl_max1, bl_min1, bl_maxd, bl_mind, bl_sum, bl_all, bl_any, bl_s, tru_int, tru_bl, tru_tup, tru_lst, get_app, get_app0, set_app, set_app0, m_append, rc_append, ite_ok, List.any_cons, List.any_nil, List.getElem?_cons_zero, List.getElem?_cons_succ, List.set_cons_zero, List.set_cons_succ, List.length_cons, List.length_nil, List.length_append, List.length_map, List.append_assoc, List.cons_append, List.nil_append, Option.map_some, Option.bind_some, Option.map_none, Option.bind_none, intsOf_map, blsOf_map, Nat.reduceAdd, Nat.reduceLT, Nat.reduceLeDiff, Nat.add_zero, Nat.zero_add, if_true, if_false, ite_self, decide_eq_true_eq, Bool.not_true, Bool.not_false, Bool.or_false, Bool.or_true, Bool.true_or, Bool.false_or, Bool.and_true, Bool.true_and, Bool.false_and, Bool.and_false, decide_true, decide_false, reduceCtorEq, eq_self, not_true_eq_false, not_false_eq_true, Bool.false_eq_true, Int.cast_ofNat_Int, Int.natCast_add, is_row_tup, h1, h2]
theorem filterMap_some {α β : Type} (f : α → β) (xs : List α) : xs.filterMap (fun x => some (f x)) = xs.map f := by
  induction xs with
  | nil => rfl
  | cons x xs ih => rw [List.filterMap_cons, List.map_cons, ih]
theorem integers_in_ok (k : Nat) (ns : List Int) (w : D) (lo hi a b : Int) (M : Mem) (hn : ∀ i ∈ ns, lo ≤ i ∧ i ≤ hi) (h1 : a ≤ ns.length) (h2 : (ns.length : Int) ≤ b) (hb : b ≤ 1000) :
    callF T G (k + 3) 89 [.tup (ns.map D.int), w, .int lo, .int hi, .int a, .int b] M = .ok (.tup (ns.map D.int)) M := by
  have c : ∀ x0 x1 x2 x3 : Option D, evE ⟨callF T G (k + 2), G⟩ c89_1 [x0, x1, some (.int lo), some (.int hi), x2, x3, some (.tup (ns.map D.int)), none] M = .ok (.lst (ns.map fun _ => D.bl true)) M := by
    intro x0 x1 x2 x3
    rw [c89_1, comp_tup ns D.int (fun _ => some (.bl true)) (M1 := M) (by simp only [x_seq, seq_nx, seq_ret, seq_exc, seq_brk, seq_cnt, x_asg, x_asgt, asgT_name, asgT_tup, asgTs_nil, asgTs_cons, rsopt, x_ite, x_var, get_some, x_tvar, tru_some, x_setI, rsmem, bind_ok, bind_exc, toRS_ok, toRS_exc, opt_some, fin_keep, fin_nxk, fin_exc, fin_ret, fin_nx, leave_keep, leave_dat, leave_nil, leave_spot, leave_spot0, nn1, Int.reduceLT, Int.reduceLE, Int.reduceAdd, Int.reduceSub, Int.reduceNeg, Int.reduceMul, dat_non, dat_int, dat_str, dat_bl, dat_tup, dat_lst, dats_nil, dats_cons, dats_ints, dats_bls, dats_strs, evE_cst, evE_glob, evE_op, evE_neg, evE_cmp, evE_cmp2, evE_land, evE_lor, evE_lnot, evE_ite, evE_tup, evE_lst, evE_lstC, evE_dictK, evE_idx, evE_slc, evE_isi, evE_call, evE_blt, evE_cell, evE_meth, evT_land, evT_lor, evT_lnot, evT_cmp, evT_cmp2, evT_isi, evT_call, evT_blt, evT_idx, evT_cst, evT_op, evS_par, evS_expr, evS_ret, evS_pass, evS_brk, evS_cnt, evS_raise, x_try, catch_ret, catch_nx, catch_exc, evEs_nil, evEs_cons, evTs_nil, evTs_one, evAnd_one, evOr_one, evTAnd_one, evTOr_one, evSs_nil, evAnd_cons, evOr_cons, evTAnd_cons, evTOr_cons, op_add, op_sub, op_mul, op_mod, op_fdiv, op_tadd, op_ladd, op_sadd, cmp_lt, cmp_le, cmp_gt, cmp_ge, cmp_eq, cmp_ne, cmp_is, cmp_isnt, cmp_in, cmp_notin, eq_int, eq_str, eq_bl, isNon_non, isNon_int, isNon_str, isNon_bl, isNon_tup, isNon_lst, isi_int, isi_bl, isi_str, isi_tup, isi_lst, isi_non, isTy, ix_tup, ix_lst, ix_ro, at0, at1, at2, at3, at4, at5, bl_len, len_tup, len_lst, len_ro, bl_tuple, tup_tup, tup_lst, bl_list, seq_tup, seq_lst, seq_ro, lstO_lst, lstO_ro, bl_int, bl_abs, bl_max2, bl_min2, bl_max1, bl_min1, bl_maxd, bl_mind, bl_sum, bl_all, bl_any, bl_s, tru_int, tru_bl, tru_tup, tru_lst, get_app, get_app0, set_app, set_app0, m_append, rc_append, ite_ok, List.any_cons, List.any_nil, List.getElem?_cons_zero, List.getElem?_cons_succ, List.set_cons_zero, List.set_cons_succ, List.length_cons, List.length_nil, List.length_append, List.length_map, List.append_assoc, List.cons_append, List.nil_append, Option.map_some, Option.bind_some, Option.map_none, Option.bind_none, intsOf_map, blsOf_map, Nat.reduceAdd, Nat.reduceLT, Nat.reduceLeDiff, Nat.add_zero, Nat.zero_add, if_true, if_false, ite_self, decide_eq_true_eq, Bool.not_true, Bool.not_false, Bool.or_false, Bool.or_true, Bool.true_or, Bool.false_or, Bool.and_true, Bool.true_and, Bool.false_and, Bool.and_false, decide_true, decide_false, reduceCtorEq, eq_self, not_true_eq_false, not_false_eq_true, Bool.false_eq_true, Int.cast_ofNat_Int, Int.natCast_add]) (by show _ ≤ 16777216; omega) ?_, filterMap_some]
    intro x hx
    obtain ⟨g1, g2⟩ := hn x hx
    exact ⟨_, rfl, by simp only [x_seq, seq_nx, seq_ret, seq_exc, seq_brk, seq_cnt, x_asg, x_asgt, asgT_name, asgT_tup, asgTs_nil, asgTs_cons, rsopt, x_ite, x_var, get_some, x_tvar, tru_some, x_setI, rsmem, bind_ok, bind_exc, toRS_ok, toRS_exc, opt_some, fin_keep, fin_nxk, fin_exc, fin_ret, fin_nx, leave_keep, leave_dat, leave_nil, leave_spot, leave_spot0, nn1, Int.reduceLT, Int.reduceLE, Int.reduceAdd, Int.reduceSub, Int.reduceNeg, Int.reduceMul, dat_non, dat_int, dat_str, dat_bl, dat_tup, dat_lst, dats_nil, dats_cons, dats_ints, dats_bls, dats_strs, evE_cst, evE_glob, evE_op, evE_neg, evE_cmp, evE_cmp2, evE_land, evE_lor, evE_lnot, evE_ite, evE_tup, evE_lst, evE_lstC, evE_dictK, evE_idx, evE_slc, evE_isi, evE_call, evE_blt, evE_cell, evE_meth, evT_land, evT_lor, evT_lnot, evT_cmp, evT_cmp2, evT_isi, evT_call, evT_blt, evT_idx, evT_cst, evT_op, evS_par, evS_expr, evS_ret, evS_pass, evS_brk, evS_cnt, evS_raise, x_try, catch_ret, catch_nx, catch_exc, evEs_nil, evEs_cons, evTs_nil, evTs_one, evAnd_one, evOr_one, evTAnd_one, evTOr_one, evSs_nil, evAnd_cons, evOr_cons, evTAnd_cons, evTOr_cons, op_add, op_sub, op_mul, op_mod, op_fdiv, op_tadd, op_ladd, op_sadd, cmp_lt, cmp_le, cmp_gt, cmp_ge, cmp_eq, cmp_ne, cmp_is, cmp_isnt, cmp_in, cmp_notin, eq_int, eq_str, eq_bl, isNon_non, isNon_int, isNon_str, isNon_bl, isNon_tup, isNon_lst, isi_int, isi_bl, isi_str, isi_tup, isi_lst, isi_non, isTy, ix_tup, ix_lst, ix_ro, at0, at1, at2, at3, at4, at5, bl_len, len_tup, len_lst, len_ro, bl_tuple, tup_tup, tup_lst, bl_list, seq_tup, seq_lst, seq_ro, lstO_lst, lstO_ro, bl_int, bl_abs, bl_max2, bl_min2, bl_max1, bl_min1, bl_maxd, bl_mind, bl_sum, bl_all, bl_any, bl_s, tru_int, tru_bl, tru_tup, tru_lst, get_app, get_app0, set_app, set_app0, m_append, rc_append, ite_ok, List.any_cons, List.any_nil, List.getElem?_cons_zero, List.getElem?_cons_succ, List.set_cons_zero, List.set_cons_succ, List.length_cons, List.length_nil, List.length_append, List.length_map, List.append_assoc, List.cons_append, List.nil_append, Option.map_some, Option.bind_some, Option.map_none, Option.bind_none, intsOf_map, blsOf_map, Nat.reduceAdd, Nat.reduceLT, Nat.reduceLeDiff, Nat.add_zero, Nat.zero_add, if_true, if_false, ite_self, decide_eq_true_eq, Bool.not_true, Bool.not_false, Bool.or_false, Bool.or_true, Bool.true_or, Bool.false_or, Bool.and_true, Bool.true_and, Bool.false_and, Bool.and_false, decide_true, decide_false, reduceCtorEq, eq_self, not_true_eq_false, not_false_eq_true, Bool.false_eq_true, Int.cast_ofNat_Int, Int.natCast_add, wipeD, is_within_int, g1, g2]⟩
  have hb : blsOf (ns.map fun _ => D.bl true) = some (ns.map fun _ => true) := by
    rw [show (ns.map fun _ => D.bl true) = (ns.map fun _ => true).map D.bl by rw [List.map_map]; rfl]
    exact blsOf_map _
  have ha : (ns.map fun _ => true).all id = true := by simp
  rw [r89, b89]
  simp only [x_seq, seq_nx, seq_ret, seq_exc, seq_brk, seq_cnt, x_asg, x_asgt, asgT_name, asgT_tup, asgTs_nil, asgTs_cons, rsopt, x_ite, x_var, get_some, x_tvar, tru_some, x_setI, rsmem, bind_ok, bind_exc, toRS_ok, toRS_exc, opt_some, fin_keep, fin_nxk, fin_exc, fin_ret, fin_nx, leave_keep, leave_dat, leave_nil, leave_spot, leave_spot0, nn1, Int.reduceLT, Int.reduceLE, Int.reduceAdd, Int.reduceSub, Int.reduceNeg, Int.reduceMul, dat_non, dat_int, dat_str, dat_bl, dat_tup, dat_lst, dats_nil, dats_cons, dats_ints, dats_bls, dats_strs, evE_cst, evE_glob, evE_op, evE_neg, evE_cmp, evE_cmp2, evE_land, evE_lor, evE_lnot, evE_ite, evE_tup, evE_lst, evE_lstC, evE_dictK, evE_idx, evE_slc, evE_isi, evE_call, evE_blt, evE_cell, evE_meth, evT_land, evT_lor, evT_lnot, evT_cmp, evT_cmp2, evT_isi, evT_call, evT_blt, evT_idx, evT_cst, evT_op, evS_par, evS_expr, evS_ret, evS_pass, evS_brk, evS_cnt, evS_raise, x_try, catch_ret, catch_nx, catch_exc, evEs_nil, evEs_cons, evTs_nil, evTs_one, evAnd_one, evOr_one, evTAnd_one, evTOr_one, evSs_nil, evAnd_cons, evOr_cons, evTAnd_cons, evTOr_cons, op_add, op_sub, op_mul, op_mod, op_fdiv, op_tadd, op_ladd, op_sadd, cmp_lt, cmp_le, cmp_gt, cmp_ge, cmp_eq, cmp_ne, cmp_is, cmp_isnt, cmp_in, cmp_notin, eq_int, eq_str, eq_bl, isNon_non, isNon_int, isNon_str, isNon_bl, isNon_tup, isNon_lst, isi_int, isi_bl, isi_str, isi_tup, isi_lst, isi_non, isTy, ix_tup, ix_lst, ix_ro, at0, at1, at2, at3, at4, at5, bl_len, len_tup, len_lst, len_ro, bl_tuple, tup_tup, tup_lst, bl_list, seq_tup, seq_lst, seq_ro, lstO_lst, lstO_ro, bl_int, bl_abs, bl_max2, bl_min2, bl_max1, bl_min1, bl_maxd, bl_mind, bl_sum, bl_all, bl_any, bl_s, tru_int, tru_bl, tru_tup, tru_lst, get_app, get_app0, set_app, set_app0, m_append, rc_append, ite_ok, List.any_cons, List.any_nil, List.getElem?_cons_zero, List.getElem?_cons_succ, List.set_cons_zero, List.set_cons_succ, List.length_cons, List.length_nil, List.length_append, List.length_map, List.append_assoc, List.cons_append, List.nil_append, Option.map_some, Option.bind_some, Option.map_none, Option.bind_none, intsOf_map, blsOf_map, Nat.reduceAdd, Nat.reduceLT, Nat.reduceLeDiff, Nat.add_zero, Nat.zero_add, if_true, if_false, ite_self, decide_eq_true_eq, Bool.not_true, Bool.not_false, Bool.or_false, Bool.or_true, Bool.true_or, Bool.false_or, Bool.and_true, Bool.true_and, Bool.false_and, Bool.and_false, decide_true, decide_false, reduceCtorEq, eq_self, not_true_eq_false, not_false_eq_true, Bool.false_eq_true, Int.cast_ofNat_Int, Int.natCast_add, row_in_ok, c, hb, ha, Int.not_lt, h1, h2]
/-! ### _law_so -/
mutual
/-- data that _law_so looks through, so deep -/
def datB : Nat → D → Bool
  | _, .non => true
  | _, .bl _ => true
  | _, .int _ => true
  | _, .str _ => true
  | n, .tup ds => match n with
    | 0 => false
    | n + 1 => datsB n ds && decide (ds.length ≤ 1000000)
  | _, _ => false
def datsB : Nat → List D → Bool
  | _, [] => true
  | n, d :: ds => datB n d && datsB n ds
end
theorem datsB_mem {n : Nat} : ∀ {ds : List D} {d : D}, datsB n ds = true → d ∈ ds → datB n d = true
  | [], _, _, h => by cases h
  | e :: ds, d, h, hd => by
    rw [datsB, Bool.and_eq_true] at h
    rcases List.mem_cons.mp hd with q | q
    · rw [q]; exact h.1
    · exact datsB_mem h.2 q
theorem datsB_map {n : Nat} {α : Type} (f : α → D) : ∀ xs : List α, (∀ a ∈ xs, datB n (f a) = true) → datsB n (xs.map f) = true
  | [], _ => rfl
  | x :: xs, h => by rw [List.map_cons, datsB, h x (by simp), datsB_map f xs fun a ha => h a (by simp [ha])]; rfl
theorem so_flat (k : Nat) (d : D) (M : Mem) (hd : d = .non ∨ (∃ b, d = .bl b) ∨ (∃ i, d = .int i) ∨ ∃ s, d = .str s) : callF T G (k + 1) 59 [d, d] M = .ok (.bl true) M := by
  rw [r59, b59]
  rcases hd with rfl | ⟨b, rfl⟩ | ⟨i, rfl⟩ | ⟨s, rfl⟩
  · simp only [x_seq, seq_nx, seq_ret, seq_exc, seq_brk, seq_cnt, x_asg, x_asgt, asgT_name, asgT_tup, asgTs_nil, asgTs_cons, rsopt, x_ite, x_var, get_some, x_tvar, tru_some, x_setI, rsmem, bind_ok, bind_exc, toRS_ok, toRS_exc, opt_some, fin_keep, fin_nxk, fin_exc, fin_ret, fin_nx, leave_keep, leave_dat, leave_nil, leave_spot, leave_spot0, nn1, Int.reduceLT, Int.reduceLE, Int.reduceAdd, Int.reduceSub, Int.reduceNeg, Int.reduceMul, dat_non, dat_int, dat_str, dat_bl, dat_tup, dat_lst, dats_nil, dats_cons, dats_ints, dats_bls, dats_strs, evE_cst, evE_glob, evE_op, evE_neg, evE_cmp, evE_cmp2, evE_land, evE_lor, evE_lnot, evE_ite, evE_tup, evE_lst, evE_lstC, evE_dictK, evE_idx, evE_slc, evE_isi, evE_call, evE_blt, evE_cell, evE_meth, evT_land, evT_lor, evT_lnot, evT_cmp, evT_cmp2, evT_isi, evT_call, evT_blt, evT_idx, evT_cst, evT_op, evS_par, evS_expr, evS_ret, evS_pass, evS_brk, evS_cnt, evS_raise, x_try, catch_ret, catch_nx, catch_exc, evEs_nil, evEs_cons, evTs_nil, evTs_one, evAnd_one, evOr_one, evTAnd_one, evTOr_one, evSs_nil, evAnd_cons, evOr_cons, evTAnd_cons, evTOr_cons, op_add, op_sub, op_mul, op_mod, op_fdiv, op_tadd, op_ladd, op_sadd, cmp_lt, cmp_le, cmp_gt, cmp_ge, cmp_eq, cmp_ne, cmp_is, cmp_isnt, cmp_in, cmp_notin, eq_int, eq_str, eq_bl, isNon_non, isNon_int, isNon_str, isNon_bl, isNon_tup, isNon_lst, isi_int, isi_bl, isi_str, isi_tup, isi_lst, isi_non, isTy, ix_tup, ix_lst, ix_ro, at0, at1, at2, at3, at4, at5, bl_len, len_tup, len_lst, len_ro, bl_tuple, tup_tup, tup_lst, bl_list, seq_tup, seq_lst, seq_ro, lstO_lst, lstO_ro, bl_int, bl_abs, bl_max2, bl_min2, bl_max1, bl_min1, bl_maxd, bl_mind, bl_sum, bl_all, bl_any, bl_s, tru_int, tru_bl, tru_tup, tru_lst, get_app, get_app0, set_app, set_app0, m_append, rc_append, ite_ok, List.any_cons, List.any_nil, List.getElem?_cons_zero, List.getElem?_cons_succ, List.set_cons_zero, List.set_cons_succ, List.length_cons, List.length_nil, List.length_append, List.length_map, List.append_assoc, List.cons_append, List.nil_append, Option.map_some, Option.bind_some, Option.map_none, Option.bind_none, intsOf_map, blsOf_map, Nat.reduceAdd, Nat.reduceLT, Nat.reduceLeDiff, Nat.add_zero, Nat.zero_add, if_true, if_false, ite_self, decide_eq_true_eq, Bool.not_true, Bool.not_false, Bool.or_false, Bool.or_true, Bool.true_or, Bool.false_or, Bool.and_true, Bool.true_and, Bool.false_and, Bool.and_false, decide_true, decide_false, reduceCtorEq, eq_self, not_true_eq_false, not_false_eq_true, Bool.false_eq_true, Int.cast_ofNat_Int, Int.natCast_add]
  · simp only [x_seq, seq_nx, seq_ret, seq_exc, seq_brk, seq_cnt, x_asg, x_asgt, asgT_name, asgT_tup, asgTs_nil, asgTs_cons, rsopt, x_ite, x_var, get_some, x_tvar, tru_some, x_setI, rsmem, bind_ok, bind_exc, toRS_ok, toRS_exc, opt_some, fin_keep, fin_nxk, fin_exc, fin_ret, fin_nx, leave_keep, leave_dat, leave_nil, leave_spot, leave_spot0, nn1, Int.reduceLT, Int.reduceLE, Int.reduceAdd, Int.reduceSub, Int.reduceNeg, Int.reduceMul, dat_non, dat_int, dat_str, dat_bl, dat_tup, dat_lst, dats_nil, dats_cons, dats_ints, dats_bls, dats_strs, evE_cst, evE_glob, evE_op, evE_neg, evE_cmp, evE_cmp2, evE_land, evE_lor, evE_lnot, evE_ite, evE_tup, evE_lst, evE_lstC, evE_dictK, evE_idx, evE_slc, evE_isi, evE_call, evE_blt, evE_cell, evE_meth, evT_land, evT_lor, evT_lnot, evT_cmp, evT_cmp2, evT_isi, evT_call, evT_blt, evT_idx, evT_cst, evT_op, evS_par, evS_expr, evS_ret, evS_pass, evS_brk, evS_cnt, evS_raise, x_try, catch_ret, catch_nx, catch_exc, evEs_nil, evEs_cons, evTs_nil, evTs_one, evAnd_one, evOr_one, evTAnd_one, evTOr_one, evSs_nil, evAnd_cons, evOr_cons, evTAnd_cons, evTOr_cons, op_add, op_sub, op_mul, op_mod, op_fdiv, op_tadd, op_ladd, op_sadd, cmp_lt, cmp_le, cmp_gt, cmp_ge, cmp_eq, cmp_ne, cmp_is, cmp_isnt, cmp_in, cmp_notin, eq_int, eq_str, eq_bl, isNon_non, isNon_int, isNon_str, isNon_bl, isNon_tup, isNon_lst, isi_int, isi_bl, isi_str, isi_tup, isi_lst, isi_non, isTy, ix_tup, ix_lst, ix_ro, at0, at1, at2, at3, at4, at5, bl_len, len_tup, len_lst, len_ro, bl_tuple, tup_tup, tup_lst, bl_list, seq_tup, seq_lst, seq_ro, lstO_lst, lstO_ro, bl_int, bl_abs, bl_max2, bl_min2, bl_max1, bl_min1, bl_maxd, bl_mind, bl_sum, bl_all, bl_any, bl_s, tru_int, tru_bl, tru_tup, tru_lst, get_app, get_app0, set_app, set_app0, m_append, rc_append, ite_ok, List.any_cons, List.any_nil, List.getElem?_cons_zero, List.getElem?_cons_succ, List.set_cons_zero, List.set_cons_succ, List.length_cons, List.length_nil, List.length_append, List.length_map, List.append_assoc, List.cons_append, List.nil_append, Option.map_some, Option.bind_some, Option.map_none, Option.bind_none, intsOf_map, blsOf_map, Nat.reduceAdd, Nat.reduceLT, Nat.reduceLeDiff, Nat.add_zero, Nat.zero_add, if_true, if_false, ite_self, decide_eq_true_eq, Bool.not_true, Bool.not_false, Bool.or_false, Bool.or_true, Bool.true_or, Bool.false_or, Bool.and_true, Bool.true_and, Bool.false_and, Bool.and_false, decide_true, decide_false, reduceCtorEq, eq_self, not_true_eq_false, not_false_eq_true, Bool.false_eq_true, Int.cast_ofNat_Int, Int.natCast_add, beq_self_eq_true]
  · simp only [x_seq, seq_nx, seq_ret, seq_exc, seq_brk, seq_cnt, x_asg, x_asgt, asgT_name, asgT_tup, asgTs_nil, asgTs_cons, rsopt, x_ite, x_var, get_some, x_tvar, tru_some, x_setI, rsmem, bind_ok, bind_exc, toRS_ok, toRS_exc, opt_some, fin_keep, fin_nxk, fin_exc, fin_ret, fin_nx, leave_keep, leave_dat, leave_nil, leave_spot, leave_spot0, nn1, Int.reduceLT, Int.reduceLE, Int.reduceAdd, Int.reduceSub, Int.reduceNeg, Int.reduceMul, dat_non, dat_int, dat_str, dat_bl, dat_tup, dat_lst, dats_nil, dats_cons, dats_ints, dats_bls, dats_strs, evE_cst, evE_glob, evE_op, evE_neg, evE_cmp, evE_cmp2, evE_land, evE_lor, evE_lnot, evE_ite, evE_tup, evE_lst, evE_lstC, evE_dictK, evE_idx, evE_slc, evE_isi, evE_call, evE_blt, evE_cell, evE_meth, evT_land, evT_lor, evT_lnot, evT_cmp, evT_cmp2, evT_isi, evT_call, evT_blt, evT_idx, evT_cst, evT_op, evS_par, evS_expr, evS_ret, evS_pass, evS_brk, evS_cnt, evS_raise, x_try, catch_ret, catch_nx, catch_exc, evEs_nil, evEs_cons, evTs_nil, evTs_one, evAnd_one, evOr_one, evTAnd_one, evTOr_one, evSs_nil, evAnd_cons, evOr_cons, evTAnd_cons, evTOr_cons, op_add, op_sub, op_mul, op_mod, op_fdiv, op_tadd, op_ladd, op_sadd, cmp_lt, cmp_le, cmp_gt, cmp_ge, cmp_eq, cmp_ne, cmp_is, cmp_isnt, cmp_in, cmp_notin, eq_int, eq_str, eq_bl, isNon_non, isNon_int, isNon_str, isNon_bl, isNon_tup, isNon_lst, isi_int, isi_bl, isi_str, isi_tup, isi_lst, isi_non, isTy, ix_tup, ix_lst, ix_ro, at0, at1, at2, at3, at4, at5, bl_len, len_tup, len_lst, len_ro, bl_tuple, tup_tup, tup_lst, bl_list, seq_tup, seq_lst, seq_ro, lstO_lst, lstO_ro, bl_int, bl_abs, bl_max2, bl_min2, bl_max1, bl_min1, bl_maxd, bl_mind, bl_sum, bl_all, bl_any, bl_s, tru_int, tru_bl, tru_tup, tru_lst, get_app, get_app0, set_app, set_app0, m_append, rc_append, ite_ok, List.any_cons, List.any_nil, List.getElem?_cons_zero, List.getElem?_cons_succ, List.set_cons_zero, List.set_cons_succ, List.length_cons, List.length_nil, List.length_append, List.length_map, List.append_assoc, List.cons_append, List.nil_append, Option.map_some, Option.bind_some, Option.map_none, Option.bind_none, intsOf_map, blsOf_map, Nat.reduceAdd, Nat.reduceLT, Nat.reduceLeDiff, Nat.add_zero, Nat.zero_add, if_true, if_false, ite_self, decide_eq_true_eq, Bool.not_true, Bool.not_false, Bool.or_false, Bool.or_true, Bool.true_or, Bool.false_or, Bool.and_true, Bool.true_and, Bool.false_and, Bool.and_false, decide_true, decide_false, reduceCtorEq, eq_self, not_true_eq_false, not_false_eq_true, Bool.false_eq_true, Int.cast_ofNat_Int, Int.natCast_add]
  · simp only [x_seq, seq_nx, seq_ret, seq_exc, seq_brk, seq_cnt, x_asg, x_asgt, asgT_name, asgT_tup, asgTs_nil, asgTs_cons, rsopt, x_ite, x_var, get_some, x_tvar, tru_some, x_setI, rsmem, bind_ok, bind_exc, toRS_ok, toRS_exc, opt_some, fin_keep, fin_nxk, fin_exc, fin_ret, fin_nx, leave_keep, leave_dat, leave_nil, leave_spot, leave_spot0, nn1, Int.reduceLT, Int.reduceLE, Int.reduceAdd, Int.reduceSub, Int.reduceNeg, Int.reduceMul, dat_non, dat_int, dat_str, dat_bl, dat_tup, dat_lst, dats_nil, dats_cons, dats_ints, dats_bls, dats_strs, evE_cst, evE_glob, evE_op, evE_neg, evE_cmp, evE_cmp2, evE_land, evE_lor, evE_lnot, evE_ite, evE_tup, evE_lst, evE_lstC, evE_dictK, evE_idx, evE_slc, evE_isi, evE_call, evE_blt, evE_cell, evE_meth, evT_land, evT_lor, evT_lnot, evT_cmp, evT_cmp2, evT_isi, evT_call, evT_blt, evT_idx, evT_cst, evT_op, evS_par, evS_expr, evS_ret, evS_pass, evS_brk, evS_cnt, evS_raise, x_try, catch_ret, catch_nx, catch_exc, evEs_nil, evEs_cons, evTs_nil, evTs_one, evAnd_one, evOr_one, evTAnd_one, evTOr_one, evSs_nil, evAnd_cons, evOr_cons, evTAnd_cons, evTOr_cons, op_add, op_sub, op_mul, op_mod, op_fdiv, op_tadd, op_ladd, op_sadd, cmp_lt, cmp_le, cmp_gt, cmp_ge, cmp_eq, cmp_ne, cmp_is, cmp_isnt, cmp_in, cmp_notin, eq_int, eq_str, eq_bl, isNon_non, isNon_int, isNon_str, isNon_bl, isNon_tup, isNon_lst, isi_int, isi_bl, isi_str, isi_tup, isi_lst, isi_non, isTy, ix_tup, ix_lst, ix_ro, at0, at1, at2, at3, at4, at5, bl_len, len_tup, len_lst, len_ro, bl_tuple, tup_tup, tup_lst, bl_list, seq_tup, seq_lst, seq_ro, lstO_lst, lstO_ro, bl_int, bl_abs, bl_max2, bl_min2, bl_max1, bl_min1, bl_maxd, bl_mind, bl_sum, bl_all, bl_any, bl_s, tru_int, tru_bl, tru_tup, tru_lst, get_app, get_app0, set_app, set_app0, m_append, rc_append, ite_ok, List.any_cons, List.any_nil, List.getElem?_cons_zero, List.getElem?_cons_succ, List.set_cons_zero, List.set_cons_succ, List.length_cons, List.length_nil, List.length_append, List.length_map, List.append_assoc, List.cons_append, List.nil_append, Option.map_some, Option.bind_some, Option.map_none, Option.bind_none, intsOf_map, blsOf_map, Nat.reduceAdd, Nat.reduceLT, Nat.reduceLeDiff, Nat.add_zero, Nat.zero_add, if_true, if_false, ite_self, decide_eq_true_eq, Bool.not_true, Bool.not_false, Bool.or_false, Bool.or_true, Bool.true_or, Bool.false_or, Bool.and_true, Bool.true_and, Bool.false_and, Bool.and_false, decide_true, decide_false, reduceCtorEq, eq_self, not_true_eq_false, not_false_eq_true, Bool.false_eq_true, Int.cast_ofNat_Int, Int.natCast_add]
theorem so_refl : ∀ (n : Nat) (d : D), datB n d = true → ∀ (k : Nat) (M : Mem), callF T G (k + n + 1) 59 [d, d] M = .ok (.bl true) M := by
  intro n
  induction n with
  | zero =>
    intro d hd k M
    cases d <;> first
      | (simp [datB] at hd; done)
      | exact so_flat _ _ M (by simp)
  | succ n ih =>
    intro d hd k M
    cases d with
    | tup ds =>
      have hd : datsB n ds = true ∧ ds.length ≤ 1000000 := by simpa [datB] using hd
      have loop : ∃ x, evS ⟨callF T G (k + n + 1), G⟩ l59_1 [some (.tup ds), some (.tup ds), none] M = .nx [some (.tup ds), some (.tup ds), x] M := by
        obtain ⟨ρ', M', e, ⟨x, rfl⟩, rfl⟩ := for_inv0 (gd := []) (b := asgT (.name 2)) (f := fun ρ M => evSs ⟨callF T G (k + n + 1), G⟩ f59_1 ρ M) (fun _ ρ M' => (∃ x, ρ = [some (.tup ds), some (.tup ds), x]) ∧ M = M') (rngI 0 ds.length) [some (.tup ds), some (.tup ds), none] M ⟨⟨_, rfl⟩, rfl⟩ (by
          rintro i ρ M' d hd2 ⟨⟨x, rfl⟩, rfl⟩
          obtain ⟨hi, rfl⟩ := rng_at hd2
          have he : atI ds (0 + (i : Int)) = some ds[i] := by rw [Int.zero_add, atI_nat, List.getElem?_eq_getElem hi]
          refine ⟨_, rfl, _, _, .inl ?_, ⟨some (.int (0 + (i : Int))), rfl⟩, rfl⟩
          rw [f59_1]
          simp only [x_seq, seq_nx, seq_ret, seq_exc, seq_brk, seq_cnt, x_asg, x_asgt, asgT_name, asgT_tup, asgTs_nil, asgTs_cons, rsopt, x_ite, x_var, get_some, x_tvar, tru_some, x_setI, rsmem, bind_ok, bind_exc, toRS_ok, toRS_exc, opt_some, fin_keep, fin_nxk, fin_exc, fin_ret, fin_nx, leave_keep, leave_dat, leave_nil, leave_spot, leave_spot0, nn1, Int.reduceLT, Int.reduceLE, Int.reduceAdd, Int.reduceSub, Int.reduceNeg, Int.reduceMul, dat_non, dat_int, dat_str, dat_bl, dat_tup, dat_lst, dats_nil, dats_cons, dats_ints, dats_bls, dats_strs, evE_cst, evE_glob, evE_op, evE_neg, evE_cmp, evE_cmp2, evE_land, evE_lor, evE_lnot, evE_ite, evE_tup, evE_lst, evE_lstC, evE_dictK, evE_idx, evE_slc, evE_isi, evE_call, evE_blt, evE_cell, evE_meth, evT_land, evT_lor, evT_lnot, evT_cmp, evT_cmp2, evT_isi, evT_call, evT_blt, evT_idx, evT_cst, evT_op, evS_par, evS_expr, evS_ret, evS_pass, evS_brk, evS_cnt, evS_raise, x_try, catch_ret, catch_nx, catch_exc, evEs_nil, evEs_cons, evTs_nil, evTs_one, evAnd_one, evOr_one, evTAnd_one, evTOr_one, evSs_nil, evAnd_cons, evOr_cons, evTAnd_cons, evTOr_cons, op_add, op_sub, op_mul, op_mod, op_fdiv, op_tadd, op_ladd, op_sadd, cmp_lt, cmp_le, cmp_gt, cmp_ge, cmp_eq, cmp_ne, cmp_is, cmp_isnt, cmp_in, cmp_notin, eq_int, eq_str, eq_bl, isNon_non, isNon_int, isNon_str, isNon_bl, isNon_tup, isNon_lst, isi_int, isi_bl, isi_str, isi_tup, isi_lst, isi_non, isTy, ix_tup, ix_lst, ix_ro, at0, at1, at2, at3, at4, at5, bl_len, len_tup, len_lst, len_ro, bl_tuple, tup_tup, tup_lst, bl_list, seq_tup, seq_lst, seq_ro, lstO_lst, lstO_ro, bl_int, bl_abs, bl_max2, bl_min2, bl_max1, bl_min1, bl_maxd, bl_mind, bl_sum, bl_all, bl_any, bl_s, tru_int, tru_bl, tru_tup, tru_lst, get_app, get_app0, set_app, set_app0, m_append, rc_append, ite_ok, List.any_cons, List.any_nil, List.getElem?_cons_zero, List.getElem?_cons_succ, List.set_cons_zero, List.set_cons_succ, List.length_cons, List.length_nil, List.length_append, List.length_map, List.append_assoc, List.cons_append, List.nil_append, Option.map_some, Option.bind_some, Option.map_none, Option.bind_none, intsOf_map, blsOf_map, Nat.reduceAdd, Nat.reduceLT, Nat.reduceLeDiff, Nat.add_zero, Nat.zero_add, if_true, if_false, ite_self, decide_eq_true_eq, Bool.not_true, Bool.not_false, Bool.or_false, Bool.or_true, Bool.true_or, Bool.false_or, Bool.and_true, Bool.true_and, Bool.false_and, Bool.and_false, decide_true, decide_false, reduceCtorEq, eq_self, not_true_eq_false, not_false_eq_true, Bool.false_eq_true, Int.cast_ofNat_Int, Int.natCast_add, he, ih _ (datsB_mem hd.1 (List.getElem_mem hi))]) (fun _ _ _ _ => rfl)
        exact ⟨x, by rw [l59_1, for_rngN (M1 := M) ds.length (by simp only [x_seq, seq_nx, seq_ret, seq_exc, seq_brk, seq_cnt, x_asg, x_asgt, asgT_name, asgT_tup, asgTs_nil, asgTs_cons, rsopt, x_ite, x_var, get_some, x_tvar, tru_some, x_setI, rsmem, bind_ok, bind_exc, toRS_ok, toRS_exc, opt_some, fin_keep, fin_nxk, fin_exc, fin_ret, fin_nx, leave_keep, leave_dat, leave_nil, leave_spot, leave_spot0, nn1, Int.reduceLT, Int.reduceLE, Int.reduceAdd, Int.reduceSub, Int.reduceNeg, Int.reduceMul, dat_non, dat_int, dat_str, dat_bl, dat_tup, dat_lst, dats_nil, dats_cons, dats_ints, dats_bls, dats_strs, evE_cst, evE_glob, evE_op, evE_neg, evE_cmp, evE_cmp2, evE_land, evE_lor, evE_lnot, evE_ite, evE_tup, evE_lst, evE_lstC, evE_dictK, evE_idx, evE_slc, evE_isi, evE_call, evE_blt, evE_cell, evE_meth, evT_land, evT_lor, evT_lnot, evT_cmp, evT_cmp2, evT_isi, evT_call, evT_blt, evT_idx, evT_cst, evT_op, evS_par, evS_expr, evS_ret, evS_pass, evS_brk, evS_cnt, evS_raise, x_try, catch_ret, catch_nx, catch_exc, evEs_nil, evEs_cons, evTs_nil, evTs_one, evAnd_one, evOr_one, evTAnd_one, evTOr_one, evSs_nil, evAnd_cons, evOr_cons, evTAnd_cons, evTOr_cons, op_add, op_sub, op_mul, op_mod, op_fdiv, op_tadd, op_ladd, op_sadd, cmp_lt, cmp_le, cmp_gt, cmp_ge, cmp_eq, cmp_ne, cmp_is, cmp_isnt, cmp_in, cmp_notin, eq_int, eq_str, eq_bl, isNon_non, isNon_int, isNon_str, isNon_bl, isNon_tup, isNon_lst, isi_int, isi_bl, isi_str, isi_tup, isi_lst, isi_non, isTy, ix_tup, ix_lst, ix_ro, at0, at1, at2, at3, at4, at5, bl_len, len_tup, len_lst, len_ro, bl_tuple, tup_tup, tup_lst, bl_list, seq_tup, seq_lst, seq_ro, lstO_lst, lstO_ro, bl_int, bl_abs, bl_max2, bl_min2, bl_max1, bl_min1, bl_maxd, bl_mind, bl_sum, bl_all, bl_any, bl_s, tru_int, tru_bl, tru_tup, tru_lst, get_app, get_app0, set_app, set_app0, m_append, rc_append, ite_ok, List.any_cons, List.any_nil, List.getElem?_cons_zero, List.getElem?_cons_succ, List.set_cons_zero, List.set_cons_succ, List.length_cons, List.length_nil, List.length_append, List.length_map, List.append_assoc, List.cons_append, List.nil_append, Option.map_some, Option.bind_some, Option.map_none, Option.bind_none, intsOf_map, blsOf_map, Nat.reduceAdd, Nat.reduceLT, Nat.reduceLeDiff, Nat.add_zero, Nat.zero_add, if_true, if_false, ite_self, decide_eq_true_eq, Bool.not_true, Bool.not_false, Bool.or_false, Bool.or_true, Bool.true_or, Bool.false_or, Bool.and_true, Bool.true_and, Bool.false_and, Bool.and_false, decide_true, decide_false, reduceCtorEq, eq_self, not_true_eq_false, not_false_eq_true, Bool.false_eq_true, Int.cast_ofNat_Int, Int.natCast_add]) (Nat.le_trans hd.2 (by decide))]; exact e⟩
      obtain ⟨x, loop⟩ := loop
      rw [show k + (n + 1) + 1 = k + n + 1 + 1 by omega, r59, b59]
      simp only [x_seq, seq_nx, seq_ret, seq_exc, seq_brk, seq_cnt, x_asg, x_asgt, asgT_name, asgT_tup, asgTs_nil, asgTs_cons, rsopt, x_ite, x_var, get_some, x_tvar, tru_some, x_setI, rsmem, bind_ok, bind_exc, toRS_ok, toRS_exc, opt_some, fin_keep, fin_nxk, fin_exc, fin_ret, fin_nx, leave_keep, leave_dat, leave_nil, leave_spot, leave_spot0, nn1, Int.reduceLT, Int.reduceLE, Int.reduceAdd, Int.reduceSub, Int.reduceNeg, Int.reduceMul, dat_non, dat_int, dat_str, dat_bl, dat_tup, dat_lst, dats_nil, dats_cons, dats_ints, dats_bls, dats_strs, evE_cst, evE_glob, evE_op, evE_neg, evE_cmp, evE_cmp2, evE_land, evE_lor, evE_lnot, evE_ite, evE_tup, evE_lst, evE_lstC, evE_dictK, evE_idx, evE_slc, evE_isi, evE_call, evE_blt, evE_cell, evE_meth, evT_land, evT_lor, evT_lnot, evT_cmp, evT_cmp2, evT_isi, evT_call, evT_blt, evT_idx, evT_cst, evT_op, evS_par, evS_expr, evS_ret, evS_pass, evS_brk, evS_cnt, evS_raise, x_try, catch_ret, catch_nx, catch_exc, evEs_nil, evEs_cons, evTs_nil, evTs_one, evAnd_one, evOr_one, evTAnd_one, evTOr_one, evSs_nil, evAnd_cons, evOr_cons, evTAnd_cons, evTOr_cons, op_add, op_sub, op_mul, op_mod, op_fdiv, op_tadd, op_ladd, op_sadd, cmp_lt, cmp_le, cmp_gt, cmp_ge, cmp_eq, cmp_ne, cmp_is, cmp_isnt, cmp_in, cmp_notin, eq_int, eq_str, eq_bl, isNon_non, isNon_int, isNon_str, isNon_bl, isNon_tup, isNon_lst, isi_int, isi_bl, isi_str, isi_tup, isi_lst, isi_non, isTy, ix_tup, ix_lst, ix_ro, at0, at1, at2, at3, at4, at5, bl_len, len_tup, len_lst, len_ro, bl_tuple, tup_tup, tup_lst, bl_list, seq_tup, seq_lst, seq_ro, lstO_lst, lstO_ro, bl_int, bl_abs, bl_max2, bl_min2, bl_max1, bl_min1, bl_maxd, bl_mind, bl_sum, bl_all, bl_any, bl_s, tru_int, tru_bl, tru_tup, tru_lst, get_app, get_app0, set_app, set_app0, m_append, rc_append, ite_ok, List.any_cons, List.any_nil, List.getElem?_cons_zero, List.getElem?_cons_succ, List.set_cons_zero, List.set_cons_succ, List.length_cons, List.length_nil, List.length_append, List.length_map, List.append_assoc, List.cons_append, List.nil_append, Option.map_some, Option.bind_some, Option.map_none, Option.bind_none, intsOf_map, blsOf_map, Nat.reduceAdd, Nat.reduceLT, Nat.reduceLeDiff, Nat.add_zero, Nat.zero_add, if_true, if_false, ite_self, decide_eq_true_eq, Bool.not_true, Bool.not_false, Bool.or_false, Bool.or_true, Bool.true_or, Bool.false_or, Bool.and_true, Bool.true_and, Bool.false_and, Bool.and_false, decide_true, decide_false, reduceCtorEq, eq_self, not_true_eq_false, not_false_eq_true, Bool.false_eq_true, Int.cast_ofNat_Int, Int.natCast_add, loop]
    | _ => first
      | (simp [datB] at hd; done)
      | exact so_flat _ _ M (by simp)
/-- found is what was meant -/
theorem so_ok (k : Nat) (d : D) (M : Mem) (h : datB 6 d = true) : callF T G (k + 7) 59 [d, d] M = .ok (.bl true) M := so_refl 6 d h k M
theorem whole_int (k : Nat) (i : Int) (M : Mem) : callF T G (k + 1) 125 [.int i] M = .ok (.bl true) M := by
  rw [r125, b125]
  simp only [x_seq, seq_nx, seq_ret, seq_exc, seq_brk, seq_cnt, x_asg, x_asgt, asgT_name, asgT_tup, asgTs_nil, asgTs_cons, rsopt, x_ite, x_var, get_some, x_tvar, tru_some, x_setI, rsmem, bind_ok, bind_exc, toRS_ok, toRS_exc, opt_some, fin_keep, fin_nxk, fin_exc, fin_ret, fin_nx, leave_keep, leave_dat, leave_nil, leave_spot, leave_spot0, nn1, Int.reduceLT, Int.reduceLE, Int.reduceAdd, Int.reduceSub, Int.reduceNeg, Int.reduceMul, dat_non, dat_int, dat_str, dat_bl, dat_tup, dat_lst, dats_nil, dats_cons, dats_ints, dats_bls, dats_strs, evE_cst, evE_glob, evE_op, evE_neg, evE_cmp, evE_cmp2, evE_land, evE_lor, evE_lnot, evE_ite, evE_tup, evE_lst, evE_lstC, evE_dictK, evE_idx, evE_slc, evE_isi, evE_call, evE_blt, evE_cell, evE_meth, evT_land, evT_lor, evT_lnot, evT_cmp, evT_cmp2, evT_isi, evT_call, evT_blt, evT_idx, evT_cst, evT_op, evS_par, evS_expr, evS_ret, evS_pass, evS_brk, evS_cnt, evS_raise, x_try, catch_ret, catch_nx, catch_exc, evEs_nil, evEs_cons, evTs_nil, evTs_one, evAnd_one, evOr_one, evTAnd_one, evTOr_one, evSs_nil, evAnd_cons, evOr_cons, evTAnd_cons, evTOr_cons, op_add, op_sub, op_mul, op_mod, op_fdiv, op_tadd, op_ladd, op_sadd, cmp_lt, cmp_le, cmp_gt, cmp_ge, cmp_eq, cmp_ne, cmp_is, cmp_isnt, cmp_in, cmp_notin, eq_int, eq_str, eq_bl, isNon_non, isNon_int, isNon_str, isNon_bl, isNon_tup, isNon_lst, isi_int, isi_bl, isi_str, isi_tup, isi_lst, isi_non, isTy, ix_tup, ix_lst, ix_ro, at0, at1, at2, at3, at4, at5, bl_len, len_tup, len_lst, len_ro, bl_tuple, tup_tup, tup_lst, bl_list, seq_tup, seq_lst, seq_ro, lstO_lst, lstO_ro, bl_int, bl_abs, bl_max2, bl_min2, bl_max1, bl_min1, bl_maxd, bl_mind, bl_sum, bl_all, bl_any, bl_s, tru_int, tru_bl, tru_tup, tru_lst, get_app, get_app0, set_app, set_app0, m_append, rc_append, ite_ok, List.any_cons, List.any_nil, List.getElem?_cons_zero, List.getElem?_cons_succ, List.set_cons_zero, List.set_cons_succ, List.length_cons, List.length_nil, List.length_append, List.length_map, List.append_assoc, List.cons_append, List.nil_append, Option.map_some, Option.bind_some, Option.map_none, Option.bind_none, intsOf_map, blsOf_map, Nat.reduceAdd, Nat.reduceLT, Nat.reduceLeDiff, Nat.add_zero, Nat.zero_add, if_true, if_false, ite_self, decide_eq_true_eq, Bool.not_true, Bool.not_false, Bool.or_false, Bool.or_true, Bool.true_or, Bool.false_or, Bool.and_true, Bool.true_and, Bool.false_and, Bool.and_false, decide_true, decide_false, reduceCtorEq, eq_self, not_true_eq_false, not_false_eq_true, Bool.false_eq_true, Int.cast_ofNat_Int, Int.natCast_add]
/-! ### the numbers of a script -/
theorem append1 (M : Mem) (rs : List Int) (i : Int) (hl : rs.length < line) : mthS .append (.loc M.length) [.int i] (M ++ [.lst (rs.map D.int)]) = .ok .non (M ++ [.lst ((rs ++ [i]).map D.int)]) := by
  rw [m_append _ _ (rs.map D.int) _ (by rw [get_app0]; rfl) (by simpa using hl), set_app0, List.map_append]
  rfl
theorem rc1 (M : Mem) (ds : List D) : recv .append (.loc M.length) (M ++ [.lst ds]) = true := rc_append _ _ ds (by rw [get_app0]; rfl)
theorem digits {C : Ctx} {M : Mem} {x0 x2 x4 x5 : Option D} (rest : Int) (rs : List Int) (hl : rs.length + 60 < line) :
    ∃ (rs' : List Int) (y3 y4 : Option D), evS C l60_1 [x0, some (.loc M.length), x2, some (.int rest), x4, x5] (M ++ [.lst (rs.map D.int)]) = .nx [x0, some (.loc M.length), x2, y3, y4, x5] (M ++ [.lst (rs'.map D.int)]) ∧ rs'.length ≤ rs.length + 60 := by
  have key : ∀ (n : Nat) (ds : List D) (rest : Int) (rs : List Int) (x4 : Option D), (∀ d ∈ ds, ∃ i, d = .int i) → ds.length = n → rs.length + n < line →
      ∃ (rs' : List Int) (y3 y4 : Option D), evF [] (asgT (.name 4)) (fun ρ M => evSs C f60_1 ρ M) ds [x0, some (.loc M.length), x2, some (.int rest), x4, x5] (M ++ [.lst (rs.map D.int)]) = .nx [x0, some (.loc M.length), x2, y3, y4, x5] (M ++ [.lst (rs'.map D.int)]) ∧ rs'.length ≤ rs.length + n := by
    intro n
    induction n with
    | zero =>
      intro ds rest rs x4 _ hd hl
      rw [List.length_eq_zero_iff] at hd
      subst hd
      exact ⟨rs, _, _, by rw [evF_nil0], by omega⟩
    | succ n ih =>
      intro ds rest rs x4 hi hd hl
      match ds, hd with
      | d :: ds, hd =>
        obtain ⟨i, rfl⟩ := hi d (by simp)
        by_cases hz : rest = 0
        · subst hz
          refine ⟨rs, some (.int 0), some (.int i), ?_, by omega⟩
          have e : evSs C f60_1 [x0, some (.loc M.length), x2, some (.int 0), some (.int i), x5] (M ++ [.lst (rs.map D.int)]) = .brk [x0, some (.loc M.length), x2, some (.int 0), some (.int i), x5] (M ++ [.lst (rs.map D.int)]) := by
            rw [f60_1]
            simp only [x_seq, seq_nx, seq_ret, seq_exc, seq_brk, seq_cnt, x_asg, x_asgt, asgT_name, asgT_tup, asgTs_nil, asgTs_cons, rsopt, x_ite, x_var, get_some, x_tvar, tru_some, x_setI, rsmem, bind_ok, bind_exc, toRS_ok, toRS_exc, opt_some, fin_keep, fin_nxk, fin_exc, fin_ret, fin_nx, leave_keep, leave_dat, leave_nil, leave_spot, leave_spot0, nn1, Int.reduceLT, Int.reduceLE, Int.reduceAdd, Int.reduceSub, Int.reduceNeg, Int.reduceMul, dat_non, dat_int, dat_str, dat_bl, dat_tup, dat_lst, dats_nil, dats_cons, dats_ints, dats_bls, dats_strs, evE_cst, evE_glob, evE_op, evE_neg, evE_cmp, evE_cmp2, evE_land, evE_lor, evE_lnot, evE_ite, evE_tup, evE_lst, evE_lstC, evE_dictK, evE_idx, evE_slc, evE_isi, evE_call, evE_blt, evE_cell, evE_meth, evT_land, evT_lor, evT_lnot, evT_cmp, evT_cmp2, evT_isi, evT_call, evT_blt, evT_idx, evT_cst, evT_op, evS_par, evS_expr, evS_ret, evS_pass, evS_brk, evS_cnt, evS_raise, x_try, catch_ret, catch_nx, catch_exc, evEs_nil, evEs_cons, evTs_nil, evTs_one, evAnd_one, evOr_one, evTAnd_one, evTOr_one, evSs_nil, evAnd_cons, evOr_cons, evTAnd_cons, evTOr_cons, op_add, op_sub, op_mul, op_mod, op_fdiv, op_tadd, op_ladd, op_sadd, cmp_lt, cmp_le, cmp_gt, cmp_ge, cmp_eq, cmp_ne, cmp_is, cmp_isnt, cmp_in, cmp_notin, eq_int, eq_str, eq_bl, isNon_non, isNon_int, isNon_str, isNon_bl, isNon_tup, isNon_lst, isi_int, isi_bl, isi_str, isi_tup, isi_lst, isi_non, isTy, ix_tup, ix_lst, ix_ro, at0, at1, at2, at3, at4, at5, bl_len, len_tup, len_lst, len_ro, bl_tuple, tup_tup, tup_lst, bl_list, seq_tup, seq_lst, seq_ro, lstO_lst, lstO_ro, bl_int, bl_abs, bl_max2, bl_min2, bl_max1, bl_min1, bl_maxd, bl_mind, bl_sum, bl_all, bl_any, bl_s, tru_int, tru_bl, tru_tup, tru_lst, get_app, get_app0, set_app, set_app0, m_append, rc_append, ite_ok, List.any_cons, List.any_nil, List.getElem?_cons_zero, List.getElem?_cons_succ, List.set_cons_zero, List.set_cons_succ, List.length_cons, List.length_nil, List.length_append, List.length_map, List.append_assoc, List.cons_append, List.nil_append, Option.map_some, Option.bind_some, Option.map_none, Option.bind_none, intsOf_map, blsOf_map, Nat.reduceAdd, Nat.reduceLT, Nat.reduceLeDiff, Nat.add_zero, Nat.zero_add, if_true, if_false, ite_self, decide_eq_true_eq, Bool.not_true, Bool.not_false, Bool.or_false, Bool.or_true, Bool.true_or, Bool.false_or, Bool.and_true, Bool.true_and, Bool.false_and, Bool.and_false, decide_true, decide_false, reduceCtorEq, eq_self, not_true_eq_false, not_false_eq_true, Bool.false_eq_true, Int.cast_ofNat_Int, Int.natCast_add]
          exact evF_brk0 rfl e
        · obtain ⟨rs', y3, y4, e, h⟩ := ih ds (rest / 997) (rs ++ [rest % 997]) (some (.int i)) (fun d hd => hi d (by simp [hd])) (by simpa using hd) (by simp; omega)
          refine ⟨rs', y3, y4, ?_, by simp at h; omega⟩
          rw [evF_nx0 (ρ1 := [x0, some (.loc M.length), x2, some (.int rest), some (.int i), x5]) rfl (ρ' := [x0, some (.loc M.length), x2, some (.int (rest / 997)), some (.int i), x5]) (M' := M ++ [.lst ((rs ++ [rest % 997]).map D.int)]) ?_, e]
          rw [f60_1]
          have p1 : (0 : Int) < 997 := by decide
          have p2 : (997 : Int) < 1073741824 := by decide
          have hl2 : rs.length < line := by omega
          simp only [x_seq, seq_nx, seq_ret, seq_exc, seq_brk, seq_cnt, x_asg, x_asgt, asgT_name, asgT_tup, asgTs_nil, asgTs_cons, rsopt, x_ite, x_var, get_some, x_tvar, tru_some, x_setI, rsmem, bind_ok, bind_exc, toRS_ok, toRS_exc, opt_some, fin_keep, fin_nxk, fin_exc, fin_ret, fin_nx, leave_keep, leave_dat, leave_nil, leave_spot, leave_spot0, nn1, Int.reduceLT, Int.reduceLE, Int.reduceAdd, Int.reduceSub, Int.reduceNeg, Int.reduceMul, dat_non, dat_int, dat_str, dat_bl, dat_tup, dat_lst, dats_nil, dats_cons, dats_ints, dats_bls, dats_strs, evE_cst, evE_glob, evE_op, evE_neg, evE_cmp, evE_cmp2, evE_land, evE_lor, evE_lnot, evE_ite, evE_tup, evE_lst, evE_lstC, evE_dictK, evE_idx, evE_slc, evE_isi, evE_call, evE_blt, evE_cell, evE_meth, evT_land, evT_lor, evT_lnot, evT_cmp, evT_cmp2, evT_isi, evT_call, evT_blt, evT_idx, evT_cst, evT_op, evS_par, evS_expr, evS_ret, evS_pass, evS_brk, evS_cnt, evS_raise, x_try, catch_ret, catch_nx, catch_exc, evEs_nil, evEs_cons, evTs_nil, evTs_one, evAnd_one, evOr_one, evTAnd_one, evTOr_one, evSs_nil, evAnd_cons, evOr_cons, evTAnd_cons, evTOr_cons, op_add, op_sub, op_mul, op_mod, op_fdiv, op_tadd, op_ladd, op_sadd, cmp_lt, cmp_le, cmp_gt, cmp_ge, cmp_eq, cmp_ne, cmp_is, cmp_isnt, cmp_in, cmp_notin, eq_int, eq_str, eq_bl, isNon_non, isNon_int, isNon_str, isNon_bl, isNon_tup, isNon_lst, isi_int, isi_bl, isi_str, isi_tup, isi_lst, isi_non, isTy, ix_tup, ix_lst, ix_ro, at0, at1, at2, at3, at4, at5, bl_len, len_tup, len_lst, len_ro, bl_tuple, tup_tup, tup_lst, bl_list, seq_tup, seq_lst, seq_ro, lstO_lst, lstO_ro, bl_int, bl_abs, bl_max2, bl_min2, bl_max1, bl_min1, bl_maxd, bl_mind, bl_sum, bl_all, bl_any, bl_s, tru_int, tru_bl, tru_tup, tru_lst, get_app, get_app0, set_app, set_app0, m_append, rc_append, ite_ok, List.any_cons, List.any_nil, List.getElem?_cons_zero, List.getElem?_cons_succ, List.set_cons_zero, List.set_cons_succ, List.length_cons, List.length_nil, List.length_append, List.length_map, List.append_assoc, List.cons_append, List.nil_append, Option.map_some, Option.bind_some, Option.map_none, Option.bind_none, intsOf_map, blsOf_map, Nat.reduceAdd, Nat.reduceLT, Nat.reduceLeDiff, Nat.add_zero, Nat.zero_add, if_true, if_false, ite_self, decide_eq_true_eq, Bool.not_true, Bool.not_false, Bool.or_false, Bool.or_true, Bool.true_or, Bool.false_or, Bool.and_true, Bool.true_and, Bool.false_and, Bool.and_false, decide_true, decide_false, reduceCtorEq, eq_self, not_true_eq_false, not_false_eq_true, Bool.false_eq_true, Int.cast_ofNat_Int, Int.natCast_add, hz, rc1, append1 _ _ _ hl2, p1, p2, -m_append, -rc_append]
  obtain ⟨rs', y3, y4, e, h⟩ := key 60 (rngI 0 60) rest rs x4 (fun d hd => by obtain ⟨j, hj⟩ := List.mem_iff_getElem?.mp hd; exact ⟨_, (rng_at hj).2⟩) (rng_len _ _) hl
  refine ⟨rs', y3, y4, ?_, h⟩
  rw [l60_1, for_rngN (M1 := M ++ [.lst (rs.map D.int)]) 60 (by simp only [x_seq, seq_nx, seq_ret, seq_exc, seq_brk, seq_cnt, x_asg, x_asgt, asgT_name, asgT_tup, asgTs_nil, asgTs_cons, rsopt, x_ite, x_var, get_some, x_tvar, tru_some, x_setI, rsmem, bind_ok, bind_exc, toRS_ok, toRS_exc, opt_some, fin_keep, fin_nxk, fin_exc, fin_ret, fin_nx, leave_keep, leave_dat, leave_nil, leave_spot, leave_spot0, nn1, Int.reduceLT, Int.reduceLE, Int.reduceAdd, Int.reduceSub, Int.reduceNeg, Int.reduceMul, dat_non, dat_int, dat_str, dat_bl, dat_tup, dat_lst, dats_nil, dats_cons, dats_ints, dats_bls, dats_strs, evE_cst, evE_glob, evE_op, evE_neg, evE_cmp, evE_cmp2, evE_land, evE_lor, evE_lnot, evE_ite, evE_tup, evE_lst, evE_lstC, evE_dictK, evE_idx, evE_slc, evE_isi, evE_call, evE_blt, evE_cell, evE_meth, evT_land, evT_lor, evT_lnot, evT_cmp, evT_cmp2, evT_isi, evT_call, evT_blt, evT_idx, evT_cst, evT_op, evS_par, evS_expr, evS_ret, evS_pass, evS_brk, evS_cnt, evS_raise, x_try, catch_ret, catch_nx, catch_exc, evEs_nil, evEs_cons, evTs_nil, evTs_one, evAnd_one, evOr_one, evTAnd_one, evTOr_one, evSs_nil, evAnd_cons, evOr_cons, evTAnd_cons, evTOr_cons, op_add, op_sub, op_mul, op_mod, op_fdiv, op_tadd, op_ladd, op_sadd, cmp_lt, cmp_le, cmp_gt, cmp_ge, cmp_eq, cmp_ne, cmp_is, cmp_isnt, cmp_in, cmp_notin, eq_int, eq_str, eq_bl, isNon_non, isNon_int, isNon_str, isNon_bl, isNon_tup, isNon_lst, isi_int, isi_bl, isi_str, isi_tup, isi_lst, isi_non, isTy, ix_tup, ix_lst, ix_ro, at0, at1, at2, at3, at4, at5, bl_len, len_tup, len_lst, len_ro, bl_tuple, tup_tup, tup_lst, bl_list, seq_tup, seq_lst, seq_ro, lstO_lst, lstO_ro, bl_int, bl_abs, bl_max2, bl_min2, bl_max1, bl_min1, bl_maxd, bl_mind, bl_sum, bl_all, bl_any, bl_s, tru_int, tru_bl, tru_tup, tru_lst, get_app, get_app0, set_app, set_app0, m_append, rc_append, ite_ok, List.any_cons, List.any_nil, List.getElem?_cons_zero, List.getElem?_cons_succ, List.set_cons_zero, List.set_cons_succ, List.length_cons, List.length_nil, List.length_append, List.length_map, List.append_assoc, List.cons_append, List.nil_append, Option.map_some, Option.bind_some, Option.map_none, Option.bind_none, intsOf_map, blsOf_map, Nat.reduceAdd, Nat.reduceLT, Nat.reduceLeDiff, Nat.add_zero, Nat.zero_add, if_true, if_false, ite_self, decide_eq_true_eq, Bool.not_true, Bool.not_false, Bool.or_false, Bool.or_true, Bool.true_or, Bool.false_or, Bool.and_true, Bool.true_and, Bool.false_and, Bool.and_false, decide_true, decide_false, reduceCtorEq, eq_self, not_true_eq_false, not_false_eq_true, Bool.false_eq_true, Int.cast_ofNat_Int, Int.natCast_add]) (by decide)]
  exact e
theorem stirs {C : Ctx} {M : Mem} {x0 x3 x4 x5 : Option D} (cell : Int) (rs : List Int) (hl : rs.length + 60 < line) :
    ∃ (rs' : List Int) (y4 y5 : Option D), evS C l60_2 [x0, some (.loc M.length), some (.int cell), x3, x4, x5] (M ++ [.lst (rs.map D.int)]) = .nx [x0, some (.loc M.length), some (.int cell), x3, y4, y5] (M ++ [.lst (rs'.map D.int)]) ∧ rs'.length ≤ rs.length + 60 := by
  obtain ⟨ρ', M', e, rs', y4, y5, rfl, rfl, h⟩ := for_inv0 (gd := []) (b := asgT (.name 4)) (f := fun ρ M => evSs C f60_2 ρ M) (fun i ρ M' => ∃ (rs' : List Int) (y4 y5 : Option D), ρ = [x0, some (.loc M.length), some (.int cell), x3, y4, y5] ∧ M' = M ++ [.lst (rs'.map D.int)] ∧ rs'.length = rs.length + i) (rngI 0 4) _ _ ⟨rs, x4, x5, rfl, rfl, rfl⟩ (by
    rintro i ρ M' d hd ⟨rs', y4, y5, rfl, rfl, hr⟩
    obtain ⟨hi, rfl⟩ := rng_at hd
    have hl2 : rs'.length < line := by omega
    refine ⟨_, rfl, [x0, some (.loc M.length), some (.int cell), x3, some (.int (0 + (i : Int))), some (.int ((cell * 48271 + (0 + (i : Int)) * 69621 + 11) % 2147483647))], M ++ [.lst ((rs' ++ [((cell * 48271 + (0 + (i : Int)) * 69621 + 11) % 2147483647 * 16807 + (0 + (i : Int))) % 2147483629]).map D.int)], .inl ?_, ⟨_, _, _, rfl, rfl, by simp; omega⟩⟩
    rw [f60_2]
    have m1 : ∀ x, mulOk x 48271 := mulOk_r (by decide)
    have m2 : ∀ x, mulOk x 69621 := mulOk_r (by decide)
    have m3 : ∀ x, mulOk x 16807 := mulOk_r (by decide)
    have p1 : (0 : Int) < 2147483647 := by decide
    have p2 : (0 : Int) < 2147483629 := by decide
    simp only [x_seq, seq_nx, seq_ret, seq_exc, seq_brk, seq_cnt, x_asg, x_asgt, asgT_name, asgT_tup, asgTs_nil, asgTs_cons, rsopt, x_ite, x_var, get_some, x_tvar, tru_some, x_setI, rsmem, bind_ok, bind_exc, toRS_ok, toRS_exc, opt_some, fin_keep, fin_nxk, fin_exc, fin_ret, fin_nx, leave_keep, leave_dat, leave_nil, leave_spot, leave_spot0, nn1, Int.reduceLT, Int.reduceLE, Int.reduceAdd, Int.reduceSub, Int.reduceNeg, Int.reduceMul, dat_non, dat_int, dat_str, dat_bl, dat_tup, dat_lst, dats_nil, dats_cons, dats_ints, dats_bls, dats_strs, evE_cst, evE_glob, evE_op, evE_neg, evE_cmp, evE_cmp2, evE_land, evE_lor, evE_lnot, evE_ite, evE_tup, evE_lst, evE_lstC, evE_dictK, evE_idx, evE_slc, evE_isi, evE_call, evE_blt, evE_cell, evE_meth, evT_land, evT_lor, evT_lnot, evT_cmp, evT_cmp2, evT_isi, evT_call, evT_blt, evT_idx, evT_cst, evT_op, evS_par, evS_expr, evS_ret, evS_pass, evS_brk, evS_cnt, evS_raise, x_try, catch_ret, catch_nx, catch_exc, evEs_nil, evEs_cons, evTs_nil, evTs_one, evAnd_one, evOr_one, evTAnd_one, evTOr_one, evSs_nil, evAnd_cons, evOr_cons, evTAnd_cons, evTOr_cons, op_add, op_sub, op_mul, op_mod, op_fdiv, op_tadd, op_ladd, op_sadd, cmp_lt, cmp_le, cmp_gt, cmp_ge, cmp_eq, cmp_ne, cmp_is, cmp_isnt, cmp_in, cmp_notin, eq_int, eq_str, eq_bl, isNon_non, isNon_int, isNon_str, isNon_bl, isNon_tup, isNon_lst, isi_int, isi_bl, isi_str, isi_tup, isi_lst, isi_non, isTy, ix_tup, ix_lst, ix_ro, at0, at1, at2, at3, at4, at5, bl_len, len_tup, len_lst, len_ro, bl_tuple, tup_tup, tup_lst, bl_list, seq_tup, seq_lst, seq_ro, lstO_lst, lstO_ro, bl_int, bl_abs, bl_max2, bl_min2, bl_max1, bl_min1, bl_maxd, bl_mind, bl_sum, bl_all, bl_any, bl_s, tru_int, tru_bl, tru_tup, tru_lst, get_app, get_app0, set_app, set_app0, m_append, rc_append, ite_ok, List.any_cons, List.any_nil, List.getElem?_cons_zero, List.getElem?_cons_succ, List.set_cons_zero, List.set_cons_succ, List.length_cons, List.length_nil, List.length_append, List.length_map, List.append_assoc, List.cons_append, List.nil_append, Option.map_some, Option.bind_some, Option.map_none, Option.bind_none, intsOf_map, blsOf_map, Nat.reduceAdd, Nat.reduceLT, Nat.reduceLeDiff, Nat.add_zero, Nat.zero_add, if_true, if_false, ite_self, decide_eq_true_eq, Bool.not_true, Bool.not_false, Bool.or_false, Bool.or_true, Bool.true_or, Bool.false_or, Bool.and_true, Bool.true_and, Bool.false_and, Bool.and_false, decide_true, decide_false, reduceCtorEq, eq_self, not_true_eq_false, not_false_eq_true, Bool.false_eq_true, Int.cast_ofNat_Int, Int.natCast_add, m1, m2, m3, p1, p2, rc1, append1 _ _ _ hl2, -m_append, -rc_append]) (fun _ _ _ _ => rfl)
  refine ⟨rs', y4, y5, ?_, by rw [rng_len] at h; omega⟩
  rw [l60_2, for_rngN (M1 := M ++ [.lst (rs.map D.int)]) 4 (by simp only [x_seq, seq_nx, seq_ret, seq_exc, seq_brk, seq_cnt, x_asg, x_asgt, asgT_name, asgT_tup, asgTs_nil, asgTs_cons, rsopt, x_ite, x_var, get_some, x_tvar, tru_some, x_setI, rsmem, bind_ok, bind_exc, toRS_ok, toRS_exc, opt_some, fin_keep, fin_nxk, fin_exc, fin_ret, fin_nx, leave_keep, leave_dat, leave_nil, leave_spot, leave_spot0, nn1, Int.reduceLT, Int.reduceLE, Int.reduceAdd, Int.reduceSub, Int.reduceNeg, Int.reduceMul, dat_non, dat_int, dat_str, dat_bl, dat_tup, dat_lst, dats_nil, dats_cons, dats_ints, dats_bls, dats_strs, evE_cst, evE_glob, evE_op, evE_neg, evE_cmp, evE_cmp2, evE_land, evE_lor, evE_lnot, evE_ite, evE_tup, evE_lst, evE_lstC, evE_dictK, evE_idx, evE_slc, evE_isi, evE_call, evE_blt, evE_cell, evE_meth, evT_land, evT_lor, evT_lnot, evT_cmp, evT_cmp2, evT_isi, evT_call, evT_blt, evT_idx, evT_cst, evT_op, evS_par, evS_expr, evS_ret, evS_pass, evS_brk, evS_cnt, evS_raise, x_try, catch_ret, catch_nx, catch_exc, evEs_nil, evEs_cons, evTs_nil, evTs_one, evAnd_one, evOr_one, evTAnd_one, evTOr_one, evSs_nil, evAnd_cons, evOr_cons, evTAnd_cons, evTOr_cons, op_add, op_sub, op_mul, op_mod, op_fdiv, op_tadd, op_ladd, op_sadd, cmp_lt, cmp_le, cmp_gt, cmp_ge, cmp_eq, cmp_ne, cmp_is, cmp_isnt, cmp_in, cmp_notin, eq_int, eq_str, eq_bl, isNon_non, isNon_int, isNon_str, isNon_bl, isNon_tup, isNon_lst, isi_int, isi_bl, isi_str, isi_tup, isi_lst, isi_non, isTy, ix_tup, ix_lst, ix_ro, at0, at1, at2, at3, at4, at5, bl_len, len_tup, len_lst, len_ro, bl_tuple, tup_tup, tup_lst, bl_list, seq_tup, seq_lst, seq_ro, lstO_lst, lstO_ro, bl_int, bl_abs, bl_max2, bl_min2, bl_max1, bl_min1, bl_maxd, bl_mind, bl_sum, bl_all, bl_any, bl_s, tru_int, tru_bl, tru_tup, tru_lst, get_app, get_app0, set_app, set_app0, m_append, rc_append, ite_ok, List.any_cons, List.any_nil, List.getElem?_cons_zero, List.getElem?_cons_succ, List.set_cons_zero, List.set_cons_succ, List.length_cons, List.length_nil, List.length_append, List.length_map, List.append_assoc, List.cons_append, List.nil_append, Option.map_some, Option.bind_some, Option.map_none, Option.bind_none, intsOf_map, blsOf_map, Nat.reduceAdd, Nat.reduceLT, Nat.reduceLeDiff, Nat.add_zero, Nat.zero_add, if_true, if_false, ite_self, decide_eq_true_eq, Bool.not_true, Bool.not_false, Bool.or_false, Bool.or_true, Bool.true_or, Bool.false_or, Bool.and_true, Bool.true_and, Bool.false_and, Bool.and_false, decide_true, decide_false, reduceCtorEq, eq_self, not_true_eq_false, not_false_eq_true, Bool.false_eq_true, Int.cast_ofNat_Int, Int.natCast_add]) (by decide)]
  exact e
theorem numbers_turn {C : Ctx} {M : Mem} {x0 x3 x4 x5 : Option D} (cell : Int) (rs : List Int) (hl : rs.length + 60 < line) :
    ∃ (rs' : List Int) (y3 y4 y5 : Option D), evSs C f60_3 [x0, some (.loc M.length), some (.int cell), x3, x4, x5] (M ++ [.lst (rs.map D.int)]) = .nx [x0, some (.loc M.length), some (.int cell), y3, y4, y5] (M ++ [.lst (rs'.map D.int)]) ∧ rs'.length ≤ rs.length + 60 := by
  have ho : ∀ M, opS M .pow (.int 10) (.int 18) = some (.int 1000000000000000000) := fun _ => rfl
  by_cases hc : (1000000000000000000 : Int) ≤ cell
  · obtain ⟨rs', y3, y4, e, h⟩ := digits (C := C) (M := M) (x0 := x0) (x2 := some (.int cell)) (x4 := x4) (x5 := x5) cell rs hl
    refine ⟨rs', y3, y4, x5, ?_, h⟩
    rw [f60_3]
    simp only [x_seq, seq_nx, seq_ret, seq_exc, seq_brk, seq_cnt, x_asg, x_asgt, asgT_name, asgT_tup, asgTs_nil, asgTs_cons, rsopt, x_ite, x_var, get_some, x_tvar, tru_some, x_setI, rsmem, bind_ok, bind_exc, toRS_ok, toRS_exc, opt_some, fin_keep, fin_nxk, fin_exc, fin_ret, fin_nx, leave_keep, leave_dat, leave_nil, leave_spot, leave_spot0, nn1, Int.reduceLT, Int.reduceLE, Int.reduceAdd, Int.reduceSub, Int.reduceNeg, Int.reduceMul, dat_non, dat_int, dat_str, dat_bl, dat_tup, dat_lst, dats_nil, dats_cons, dats_ints, dats_bls, dats_strs, evE_cst, evE_glob, evE_op, evE_neg, evE_cmp, evE_cmp2, evE_land, evE_lor, evE_lnot, evE_ite, evE_tup, evE_lst, evE_lstC, evE_dictK, evE_idx, evE_slc, evE_isi, evE_call, evE_blt, evE_cell, evE_meth, evT_land, evT_lor, evT_lnot, evT_cmp, evT_cmp2, evT_isi, evT_call, evT_blt, evT_idx, evT_cst, evT_op, evS_par, evS_expr, evS_ret, evS_pass, evS_brk, evS_cnt, evS_raise, x_try, catch_ret, catch_nx, catch_exc, evEs_nil, evEs_cons, evTs_nil, evTs_one, evAnd_one, evOr_one, evTAnd_one, evTOr_one, evSs_nil, evAnd_cons, evOr_cons, evTAnd_cons, evTOr_cons, op_add, op_sub, op_mul, op_mod, op_fdiv, op_tadd, op_ladd, op_sadd, cmp_lt, cmp_le, cmp_gt, cmp_ge, cmp_eq, cmp_ne, cmp_is, cmp_isnt, cmp_in, cmp_notin, eq_int, eq_str, eq_bl, isNon_non, isNon_int, isNon_str, isNon_bl, isNon_tup, isNon_lst, isi_int, isi_bl, isi_str, isi_tup, isi_lst, isi_non, isTy, ix_tup, ix_lst, ix_ro, at0, at1, at2, at3, at4, at5, bl_len, len_tup, len_lst, len_ro, bl_tuple, tup_tup, tup_lst, bl_list, seq_tup, seq_lst, seq_ro, lstO_lst, lstO_ro, bl_int, bl_abs, bl_max2, bl_min2, bl_max1, bl_min1, bl_maxd, bl_mind, bl_sum, bl_all, bl_any, bl_s, tru_int, tru_bl, tru_tup, tru_lst, get_app, get_app0, set_app, set_app0, m_append, rc_append, ite_ok, List.any_cons, List.any_nil, List.getElem?_cons_zero, List.getElem?_cons_succ, List.set_cons_zero, List.set_cons_succ, List.length_cons, List.length_nil, List.length_append, List.length_map, List.append_assoc, List.cons_append, List.nil_append, Option.map_some, Option.bind_some, Option.map_none, Option.bind_none, intsOf_map, blsOf_map, Nat.reduceAdd, Nat.reduceLT, Nat.reduceLeDiff, Nat.add_zero, Nat.zero_add, if_true, if_false, ite_self, decide_eq_true_eq, Bool.not_true, Bool.not_false, Bool.or_false, Bool.or_true, Bool.true_or, Bool.false_or, Bool.and_true, Bool.true_and, Bool.false_and, Bool.and_false, decide_true, decide_false, reduceCtorEq, eq_self, not_true_eq_false, not_false_eq_true, Bool.false_eq_true, Int.cast_ofNat_Int, Int.natCast_add, ho, hc, e]
  · obtain ⟨rs', y4, y5, e, h⟩ := stirs (C := C) (M := M) (x0 := x0) (x3 := x3) (x4 := x4) (x5 := x5) cell rs hl
    refine ⟨rs', x3, y4, y5, ?_, h⟩
    rw [f60_3]
    simp only [x_seq, seq_nx, seq_ret, seq_exc, seq_brk, seq_cnt, x_asg, x_asgt, asgT_name, asgT_tup, asgTs_nil, asgTs_cons, rsopt, x_ite, x_var, get_some, x_tvar, tru_some, x_setI, rsmem, bind_ok, bind_exc, toRS_ok, toRS_exc, opt_some, fin_keep, fin_nxk, fin_exc, fin_ret, fin_nx, leave_keep, leave_dat, leave_nil, leave_spot, leave_spot0, nn1, Int.reduceLT, Int.reduceLE, Int.reduceAdd, Int.reduceSub, Int.reduceNeg, Int.reduceMul, dat_non, dat_int, dat_str, dat_bl, dat_tup, dat_lst, dats_nil, dats_cons, dats_ints, dats_bls, dats_strs, evE_cst, evE_glob, evE_op, evE_neg, evE_cmp, evE_cmp2, evE_land, evE_lor, evE_lnot, evE_ite, evE_tup, evE_lst, evE_lstC, evE_dictK, evE_idx, evE_slc, evE_isi, evE_call, evE_blt, evE_cell, evE_meth, evT_land, evT_lor, evT_lnot, evT_cmp, evT_cmp2, evT_isi, evT_call, evT_blt, evT_idx, evT_cst, evT_op, evS_par, evS_expr, evS_ret, evS_pass, evS_brk, evS_cnt, evS_raise, x_try, catch_ret, catch_nx, catch_exc, evEs_nil, evEs_cons, evTs_nil, evTs_one, evAnd_one, evOr_one, evTAnd_one, evTOr_one, evSs_nil, evAnd_cons, evOr_cons, evTAnd_cons, evTOr_cons, op_add, op_sub, op_mul, op_mod, op_fdiv, op_tadd, op_ladd, op_sadd, cmp_lt, cmp_le, cmp_gt, cmp_ge, cmp_eq, cmp_ne, cmp_is, cmp_isnt, cmp_in, cmp_notin, eq_int, eq_str, eq_bl, isNon_non, isNon_int, isNon_str, isNon_bl, isNon_tup, isNon_lst, isi_int, isi_bl, isi_str, isi_tup, isi_lst, isi_non, isTy, ix_tup, ix_lst, ix_ro, at0, at1, at2, at3, at4, at5, bl_len, len_tup, len_lst, len_ro, bl_tuple, tup_tup, tup_lst, bl_list, seq_tup, seq_lst, seq_ro, lstO_lst, lstO_ro, bl_int, bl_abs, bl_max2, bl_min2, bl_max1, bl_min1, bl_maxd, bl_mind, bl_sum, bl_all, bl_any, bl_s, tru_int, tru_bl, tru_tup, tru_lst, get_app, get_app0, set_app, set_app0, m_append, rc_append, ite_ok, List.any_cons, List.any_nil, List.getElem?_cons_zero, List.getElem?_cons_succ, List.set_cons_zero, List.set_cons_succ, List.length_cons, List.length_nil, List.length_append, List.length_map, List.append_assoc, List.cons_append, List.nil_append, Option.map_some, Option.bind_some, Option.map_none, Option.bind_none, intsOf_map, blsOf_map, Nat.reduceAdd, Nat.reduceLT, Nat.reduceLeDiff, Nat.add_zero, Nat.zero_add, if_true, if_false, ite_self, decide_eq_true_eq, Bool.not_true, Bool.not_false, Bool.or_false, Bool.or_true, Bool.true_or, Bool.false_or, Bool.and_true, Bool.true_and, Bool.false_and, Bool.and_false, decide_true, decide_false, reduceCtorEq, eq_self, not_true_eq_false, not_false_eq_true, Bool.false_eq_true, Int.cast_ofNat_Int, Int.natCast_add, ho, hc, e]
theorem cut_ints (ns : List Int) (lo hi : Option Int) : cut (ns.map D.int) lo hi = (cut ns lo hi).map D.int := by
  unfold cut
  rw [List.length_map, List.map_take, List.map_drop]
theorem leave_lst (M : Mem) (ds : List D) (hu : D.unders M.length ds = true) : leave .drop M (.loc M.length) (M ++ [.lst ds]) = .ok (.lst ds) M := by
  have e : frz M.length (M ++ [.lst ds]) 0 (.loc M.length) = some (.lst ds) := by
    rw [frz, if_neg (Nat.lt_irrefl _), get_app0]
    simp [hu]
  simp only [leave, tidy_app, if_true, e, List.take_left]
theorem leave_own (M : Mem) (ds : List D) (hu : D.unders M.length ds = true) : leave .own M (.loc M.length) (M ++ [.lst ds]) = .ok (.loc M.length) (M ++ [.lst ds]) := by
  have hc : Cell.under M.length (.lst ds) = true := hu
  have hg : (M ++ [Cell.lst ds])[M.length]? = some (.lst ds) := by rw [get_app0]; rfl
  simp only [leave, tidy_app, Nat.le_refl, decide_true, Bool.and_self, if_true, hg, hc, List.take_left]
theorem numbers_ok (k : Nat) (ns : List Int) (M : Mem) : ∃ rs : List Int, rs ≠ [] ∧ callF T G (k + 1) 60 [.ro true (ns.map D.int)] M = .ok (.lst (rs.map D.int)) M := by
  have hlen : (cut ns none (some 63)).length ≤ 63 := by
    unfold cut
    rw [List.length_take]
    simp [sIx]
    omega
  obtain ⟨ρ', M', e, rs, x2, x3, x4, x5, rfl, rfl, h⟩ := for_inv0 (gd := []) (b := asgT (.name 2)) (f := fun ρ M => evSs ⟨callF T G k, G⟩ f60_3 ρ M) (fun i ρ M' => ∃ (rs : List Int) (x2 x3 x4 x5 : Option D), ρ = [some (.ro true (ns.map D.int)), some (.loc M.length), x2, x3, x4, x5] ∧ M' = M ++ [.lst (rs.map D.int)] ∧ rs.length ≤ 60 * i ∧ i ≤ 63) ((cut ns none (some 63)).map D.int) [some (.ro true (ns.map D.int)), some (.loc M.length), none, none, none, none] (M ++ [.lst []]) ⟨[], _, _, _, _, rfl, rfl, by simp, by decide⟩ (by
    rintro i ρ M' d hd ⟨rs, x2, x3, x4, x5, rfl, rfl, hr, hi⟩
    simp only [List.getElem?_map, Option.map_eq_some_iff] at hd
    obtain ⟨cell, hc, rfl⟩ := hd
    have hj : i < 63 := by have := (List.getElem?_eq_some_iff.mp hc).1; omega
    obtain ⟨rs', y3, y4, y5, e1, hr'⟩ := numbers_turn (C := ⟨callF T G k, G⟩) (M := M) (x0 := some (.ro true (ns.map D.int))) (x3 := x3) (x4 := x4) (x5 := x5) cell rs (by show _ < 16777216; omega)
    exact ⟨_, rfl, _, _, .inl e1, rs', _, _, _, _, rfl, rfl, by omega, by omega⟩) (fun _ _ _ _ => rfl)
  have hl : evS ⟨callF T G k, G⟩ l60_3 [some (.ro true (ns.map D.int)), some (.loc M.length), none, none, none, none] (M ++ [.lst []]) = .nx [some (.ro true (ns.map D.int)), some (.loc M.length), x2, x3, x4, x5] (M ++ [.lst (rs.map D.int)]) := by
    have q : slcS (M ++ [.lst []]) (.ro true (ns.map D.int)) none (some 63) = some (.lst ((cut ns none (some 63)).map D.int)) := by rw [← cut_ints]; rfl
    have p1 : ∀ d, partQ true d = some none := fun _ => rfl
    have p2 : partQ false (.int 63) = some (some 63) := rfl
    have i1 : Ex.isNon (.cst .non) = true := rfl
    have i2 : Ex.isNon (.cst (.int 63)) = false := rfl
    rw [l60_3, for_lst (M1 := M ++ [.lst []]) ((cut ns none (some 63)).map D.int) (by simp only [x_seq, seq_nx, seq_ret, seq_exc, seq_brk, seq_cnt, x_asg, x_asgt, asgT_name, asgT_tup, asgTs_nil, asgTs_cons, rsopt, x_ite, x_var, get_some, x_tvar, tru_some, x_setI, rsmem, bind_ok, bind_exc, toRS_ok, toRS_exc, opt_some, fin_keep, fin_nxk, fin_exc, fin_ret, fin_nx, leave_keep, leave_dat, leave_nil, leave_spot, leave_spot0, nn1, Int.reduceLT, Int.reduceLE, Int.reduceAdd, Int.reduceSub, Int.reduceNeg, Int.reduceMul, dat_non, dat_int, dat_str, dat_bl, dat_tup, dat_lst, dats_nil, dats_cons, dats_ints, dats_bls, dats_strs, evE_cst, evE_glob, evE_op, evE_neg, evE_cmp, evE_cmp2, evE_land, evE_lor, evE_lnot, evE_ite, evE_tup, evE_lst, evE_lstC, evE_dictK, evE_idx, evE_slc, evE_isi, evE_call, evE_blt, evE_cell, evE_meth, evT_land, evT_lor, evT_lnot, evT_cmp, evT_cmp2, evT_isi, evT_call, evT_blt, evT_idx, evT_cst, evT_op, evS_par, evS_expr, evS_ret, evS_pass, evS_brk, evS_cnt, evS_raise, x_try, catch_ret, catch_nx, catch_exc, evEs_nil, evEs_cons, evTs_nil, evTs_one, evAnd_one, evOr_one, evTAnd_one, evTOr_one, evSs_nil, evAnd_cons, evOr_cons, evTAnd_cons, evTOr_cons, op_add, op_sub, op_mul, op_mod, op_fdiv, op_tadd, op_ladd, op_sadd, cmp_lt, cmp_le, cmp_gt, cmp_ge, cmp_eq, cmp_ne, cmp_is, cmp_isnt, cmp_in, cmp_notin, eq_int, eq_str, eq_bl, isNon_non, isNon_int, isNon_str, isNon_bl, isNon_tup, isNon_lst, isi_int, isi_bl, isi_str, isi_tup, isi_lst, isi_non, isTy, ix_tup, ix_lst, ix_ro, at0, at1, at2, at3, at4, at5, bl_len, len_tup, len_lst, len_ro, bl_tuple, tup_tup, tup_lst, bl_list, seq_tup, seq_lst, seq_ro, lstO_lst, lstO_ro, bl_int, bl_abs, bl_max2, bl_min2, bl_max1, bl_min1, bl_maxd, bl_mind, bl_sum, bl_all, bl_any, bl_s, tru_int, tru_bl, tru_tup, tru_lst, get_app, get_app0, set_app, set_app0, m_append, rc_append, ite_ok, List.any_cons, List.any_nil, List.getElem?_cons_zero, List.getElem?_cons_succ, List.set_cons_zero, List.set_cons_succ, List.length_cons, List.length_nil, List.length_append, List.length_map, List.append_assoc, List.cons_append, List.nil_append, Option.map_some, Option.bind_some, Option.map_none, Option.bind_none, intsOf_map, blsOf_map, Nat.reduceAdd, Nat.reduceLT, Nat.reduceLeDiff, Nat.add_zero, Nat.zero_add, if_true, if_false, ite_self, decide_eq_true_eq, Bool.not_true, Bool.not_false, Bool.or_false, Bool.or_true, Bool.true_or, Bool.false_or, Bool.and_true, Bool.true_and, Bool.false_and, Bool.and_false, decide_true, decide_false, reduceCtorEq, eq_self, not_true_eq_false, not_false_eq_true, Bool.false_eq_true, Int.cast_ofNat_Int, Int.natCast_add, q, p1, p2, i1, i2])]
    exact e
  have len : ∀ rs : List Int, lenS (M ++ [.lst (rs.map D.int)]) (.loc M.length) = some (.int rs.length) := fun rs => by rw [len_loc _ _ (rs.map D.int) (by rw [get_app0]; rfl), List.length_map]
  by_cases hz : rs = []
  · subst hz
    refine ⟨[0], by simp, ?_⟩
    rw [r60, b60]
    simp only [x_seq, seq_nx, seq_ret, seq_exc, seq_brk, seq_cnt, x_asg, x_asgt, asgT_name, asgT_tup, asgTs_nil, asgTs_cons, rsopt, x_ite, x_var, get_some, x_tvar, tru_some, x_setI, rsmem, bind_ok, bind_exc, toRS_ok, toRS_exc, opt_some, fin_keep, fin_nxk, fin_exc, fin_ret, fin_nx, leave_keep, leave_dat, leave_nil, leave_spot, leave_spot0, nn1, Int.reduceLT, Int.reduceLE, Int.reduceAdd, Int.reduceSub, Int.reduceNeg, Int.reduceMul, dat_non, dat_int, dat_str, dat_bl, dat_tup, dat_lst, dats_nil, dats_cons, dats_ints, dats_bls, dats_strs, evE_cst, evE_glob, evE_op, evE_neg, evE_cmp, evE_cmp2, evE_land, evE_lor, evE_lnot, evE_ite, evE_tup, evE_lst, evE_lstC, evE_dictK, evE_idx, evE_slc, evE_isi, evE_call, evE_blt, evE_cell, evE_meth, evT_land, evT_lor, evT_lnot, evT_cmp, evT_cmp2, evT_isi, evT_call, evT_blt, evT_idx, evT_cst, evT_op, evS_par, evS_expr, evS_ret, evS_pass, evS_brk, evS_cnt, evS_raise, x_try, catch_ret, catch_nx, catch_exc, evEs_nil, evEs_cons, evTs_nil, evTs_one, evAnd_one, evOr_one, evTAnd_one, evTOr_one, evSs_nil, evAnd_cons, evOr_cons, evTAnd_cons, evTOr_cons, op_add, op_sub, op_mul, op_mod, op_fdiv, op_tadd, op_ladd, op_sadd, cmp_lt, cmp_le, cmp_gt, cmp_ge, cmp_eq, cmp_ne, cmp_is, cmp_isnt, cmp_in, cmp_notin, eq_int, eq_str, eq_bl, isNon_non, isNon_int, isNon_str, isNon_bl, isNon_tup, isNon_lst, isi_int, isi_bl, isi_str, isi_tup, isi_lst, isi_non, isTy, ix_tup, ix_lst, ix_ro, at0, at1, at2, at3, at4, at5, bl_len, len_tup, len_lst, len_ro, bl_tuple, tup_tup, tup_lst, bl_list, seq_tup, seq_lst, seq_ro, lstO_lst, lstO_ro, bl_int, bl_abs, bl_max2, bl_min2, bl_max1, bl_min1, bl_maxd, bl_mind, bl_sum, bl_all, bl_any, bl_s, tru_int, tru_bl, tru_tup, tru_lst, get_app, get_app0, set_app, set_app0, m_append, rc_append, ite_ok, List.any_cons, List.any_nil, List.getElem?_cons_zero, List.getElem?_cons_succ, List.set_cons_zero, List.set_cons_succ, List.length_cons, List.length_nil, List.length_append, List.length_map, List.append_assoc, List.cons_append, List.nil_append, Option.map_some, Option.bind_some, Option.map_none, Option.bind_none, intsOf_map, blsOf_map, Nat.reduceAdd, Nat.reduceLT, Nat.reduceLeDiff, Nat.add_zero, Nat.zero_add, if_true, if_false, ite_self, decide_eq_true_eq, Bool.not_true, Bool.not_false, Bool.or_false, Bool.or_true, Bool.true_or, Bool.false_or, Bool.and_true, Bool.true_and, Bool.false_and, Bool.and_false, decide_true, decide_false, reduceCtorEq, eq_self, not_true_eq_false, not_false_eq_true, Bool.false_eq_true, Int.cast_ofNat_Int, Int.natCast_add, hl, len, rc1, append1 _ _ _ (show ([] : List Int).length < line by decide), fin_ret, leave_lst _ _ (unders_ints _ _), -rc_append, -m_append, Int.cast_ofNat_Int]
  · refine ⟨rs, hz, ?_⟩
    have hz2 : ¬ (rs.length : Int) = 0 := by
      intro h
      exact hz (List.length_eq_zero_iff.mp (by omega))
    rw [r60, b60]
    simp only [x_seq, seq_nx, seq_ret, seq_exc, seq_brk, seq_cnt, x_asg, x_asgt, asgT_name, asgT_tup, asgTs_nil, asgTs_cons, rsopt, x_ite, x_var, get_some, x_tvar, tru_some, x_setI, rsmem, bind_ok, bind_exc, toRS_ok, toRS_exc, opt_some, fin_keep, fin_nxk, fin_exc, fin_ret, fin_nx, leave_keep, leave_dat, leave_nil, leave_spot, leave_spot0, nn1, Int.reduceLT, Int.reduceLE, Int.reduceAdd, Int.reduceSub, Int.reduceNeg, Int.reduceMul, dat_non, dat_int, dat_str, dat_bl, dat_tup, dat_lst, dats_nil, dats_cons, dats_ints, dats_bls, dats_strs, evE_cst, evE_glob, evE_op, evE_neg, evE_cmp, evE_cmp2, evE_land, evE_lor, evE_lnot, evE_ite, evE_tup, evE_lst, evE_lstC, evE_dictK, evE_idx, evE_slc, evE_isi, evE_call, evE_blt, evE_cell, evE_meth, evT_land, evT_lor, evT_lnot, evT_cmp, evT_cmp2, evT_isi, evT_call, evT_blt, evT_idx, evT_cst, evT_op, evS_par, evS_expr, evS_ret, evS_pass, evS_brk, evS_cnt, evS_raise, x_try, catch_ret, catch_nx, catch_exc, evEs_nil, evEs_cons, evTs_nil, evTs_one, evAnd_one, evOr_one, evTAnd_one, evTOr_one, evSs_nil, evAnd_cons, evOr_cons, evTAnd_cons, evTOr_cons, op_add, op_sub, op_mul, op_mod, op_fdiv, op_tadd, op_ladd, op_sadd, cmp_lt, cmp_le, cmp_gt, cmp_ge, cmp_eq, cmp_ne, cmp_is, cmp_isnt, cmp_in, cmp_notin, eq_int, eq_str, eq_bl, isNon_non, isNon_int, isNon_str, isNon_bl, isNon_tup, isNon_lst, isi_int, isi_bl, isi_str, isi_tup, isi_lst, isi_non, isTy, ix_tup, ix_lst, ix_ro, at0, at1, at2, at3, at4, at5, bl_len, len_tup, len_lst, len_ro, bl_tuple, tup_tup, tup_lst, bl_list, seq_tup, seq_lst, seq_ro, lstO_lst, lstO_ro, bl_int, bl_abs, bl_max2, bl_min2, bl_max1, bl_min1, bl_maxd, bl_mind, bl_sum, bl_all, bl_any, bl_s, tru_int, tru_bl, tru_tup, tru_lst, get_app, get_app0, set_app, set_app0, m_append, rc_append, ite_ok, List.any_cons, List.any_nil, List.getElem?_cons_zero, List.getElem?_cons_succ, List.set_cons_zero, List.set_cons_succ, List.length_cons, List.length_nil, List.length_append, List.length_map, List.append_assoc, List.cons_append, List.nil_append, Option.map_some, Option.bind_some, Option.map_none, Option.bind_none, intsOf_map, blsOf_map, Nat.reduceAdd, Nat.reduceLT, Nat.reduceLeDiff, Nat.add_zero, Nat.zero_add, if_true, if_false, ite_self, decide_eq_true_eq, Bool.not_true, Bool.not_false, Bool.or_false, Bool.or_true, Bool.true_or, Bool.false_or, Bool.and_true, Bool.true_and, Bool.false_and, Bool.and_false, decide_true, decide_false, reduceCtorEq, eq_self, not_true_eq_false, not_false_eq_true, Bool.false_eq_true, Int.cast_ofNat_Int, Int.natCast_add, hl, len, hz2, fin_ret, leave_lst _ _ (unders_ints _ _), -rc_append, -m_append]
/-! ### draws -/
def drawV (rs : List Int) (p l : Int) : Int := if p < rs.length then rs.getD p.toNat 0 % l else ((rs.getD (p % rs.length).toNat 0 * 40692 + p * 7919 + 3) % 2147483399 * 48271 + p) % 2147483647 % l
theorem draw_in (rs : List Int) (p l : Int) (h : 0 < l) : 0 ≤ drawV rs p l ∧ drawV rs p l < l := by
  unfold drawV
  split
  · exact ⟨Int.emod_nonneg _ (by omega), Int.emod_lt_of_pos _ h⟩
  · exact ⟨Int.emod_nonneg _ (by omega), Int.emod_lt_of_pos _ h⟩
theorem at_ints (rs : List Int) (i : Int) (h0 : 0 ≤ i) (h1 : i < rs.length) : atI (rs.map D.int) i = some (.int (rs.getD i.toNat 0)) := by
  rw [atI_pos _ _ h0, List.getElem?_map]
  have h2 : i.toNat < rs.length := by omega
  rw [List.getElem?_eq_getElem h2, List.getD_eq_getElem?_getD, List.getElem?_eq_getElem h2]
  rfl
theorem draw_ok (k : Nat) (rs : List Int) (p l : Int) (M : Mem) (hne : rs ≠ []) (hp : 0 ≤ p) (hl : 0 < l) : callF T G (k + 1) 61 [.lst (rs.map D.int), .int p, .int l] M = .ok (.int (drawV rs p l)) M := by
  have hn : 0 < (rs.length : Int) := by
    cases rs with
    | nil => exact absurd rfl hne
    | cons => simp
  have m1 : ∀ x, mulOk x 40692 := mulOk_r (by decide)
  have m2 : ∀ x, mulOk x 7919 := mulOk_r (by decide)
  have m3 : ∀ x, mulOk x 48271 := mulOk_r (by decide)
  have p1 : (0 : Int) < 2147483399 := by decide
  have p2 : (0 : Int) < 2147483647 := by decide
  rw [r61, b61, drawV]
  by_cases hc : p < rs.length
  · simp only [x_seq, seq_nx, seq_ret, seq_exc, seq_brk, seq_cnt, x_asg, x_asgt, asgT_name, asgT_tup, asgTs_nil, asgTs_cons, rsopt, x_ite, x_var, get_some, x_tvar, tru_some, x_setI, rsmem, bind_ok, bind_exc, toRS_ok, toRS_exc, opt_some, fin_keep, fin_nxk, fin_exc, fin_ret, fin_nx, leave_keep, leave_dat, leave_nil, leave_spot, leave_spot0, nn1, Int.reduceLT, Int.reduceLE, Int.reduceAdd, Int.reduceSub, Int.reduceNeg, Int.reduceMul, dat_non, dat_int, dat_str, dat_bl, dat_tup, dat_lst, dats_nil, dats_cons, dats_ints, dats_bls, dats_strs, evE_cst, evE_glob, evE_op, evE_neg, evE_cmp, evE_cmp2, evE_land, evE_lor, evE_lnot, evE_ite, evE_tup, evE_lst, evE_lstC, evE_dictK, evE_idx, evE_slc, evE_isi, evE_call, evE_blt, evE_cell, evE_meth, evT_land, evT_lor, evT_lnot, evT_cmp, evT_cmp2, evT_isi, evT_call, evT_blt, evT_idx, evT_cst, evT_op, evS_par, evS_expr, evS_ret, evS_pass, evS_brk, evS_cnt, evS_raise, x_try, catch_ret, catch_nx, catch_exc, evEs_nil, evEs_cons, evTs_nil, evTs_one, evAnd_one, evOr_one, evTAnd_one, evTOr_one, evSs_nil, evAnd_cons, evOr_cons, evTAnd_cons, evTOr_cons, op_add, op_sub, op_mul, op_mod, op_fdiv, op_tadd, op_ladd, op_sadd, cmp_lt, cmp_le, cmp_gt, cmp_ge, cmp_eq, cmp_ne, cmp_is, cmp_isnt, cmp_in, cmp_notin, eq_int, eq_str, eq_bl, isNon_non, isNon_int, isNon_str, isNon_bl, isNon_tup, isNon_lst, isi_int, isi_bl, isi_str, isi_tup, isi_lst, isi_non, isTy, ix_tup, ix_lst, ix_ro, at0, at1, at2, at3, at4, at5, bl_len, len_tup, len_lst, len_ro, bl_tuple, tup_tup, tup_lst, bl_list, seq_tup, seq_lst, seq_ro, lstO_lst, lstO_ro, bl_int, bl_abs, bl_max2, bl_min2, bl_max1, bl_min1, bl_maxd, bl_mind, bl_sum, bl_all, bl_any, bl_s, tru_int, tru_bl, tru_tup, tru_lst, get_app, get_app0, set_app, set_app0, m_append, rc_append, ite_ok, List.any_cons, List.any_nil, List.getElem?_cons_zero, List.getElem?_cons_succ, List.set_cons_zero, List.set_cons_succ, List.length_cons, List.length_nil, List.length_append, List.length_map, List.append_assoc, List.cons_append, List.nil_append, Option.map_some, Option.bind_some, Option.map_none, Option.bind_none, intsOf_map, blsOf_map, Nat.reduceAdd, Nat.reduceLT, Nat.reduceLeDiff, Nat.add_zero, Nat.zero_add, if_true, if_false, ite_self, decide_eq_true_eq, Bool.not_true, Bool.not_false, Bool.or_false, Bool.or_true, Bool.true_or, Bool.false_or, Bool.and_true, Bool.true_and, Bool.false_and, Bool.and_false, decide_true, decide_false, reduceCtorEq, eq_self, not_true_eq_false, not_false_eq_true, Bool.false_eq_true, Int.cast_ofNat_Int, Int.natCast_add, hc, at_ints _ _ hp hc, hl]
  · simp only [x_seq, seq_nx, seq_ret, seq_exc, seq_brk, seq_cnt, x_asg, x_asgt, asgT_name, asgT_tup, asgTs_nil, asgTs_cons, rsopt, x_ite, x_var, get_some, x_tvar, tru_some, x_setI, rsmem, bind_ok, bind_exc, toRS_ok, toRS_exc, opt_some, fin_keep, fin_nxk, fin_exc, fin_ret, fin_nx, leave_keep, leave_dat, leave_nil, leave_spot, leave_spot0, nn1, Int.reduceLT, Int.reduceLE, Int.reduceAdd, Int.reduceSub, Int.reduceNeg, Int.reduceMul, dat_non, dat_int, dat_str, dat_bl, dat_tup, dat_lst, dats_nil, dats_cons, dats_ints, dats_bls, dats_strs, evE_cst, evE_glob, evE_op, evE_neg, evE_cmp, evE_cmp2, evE_land, evE_lor, evE_lnot, evE_ite, evE_tup, evE_lst, evE_lstC, evE_dictK, evE_idx, evE_slc, evE_isi, evE_call, evE_blt, evE_cell, evE_meth, evT_land, evT_lor, evT_lnot, evT_cmp, evT_cmp2, evT_isi, evT_call, evT_blt, evT_idx, evT_cst, evT_op, evS_par, evS_expr, evS_ret, evS_pass, evS_brk, evS_cnt, evS_raise, x_try, catch_ret, catch_nx, catch_exc, evEs_nil, evEs_cons, evTs_nil, evTs_one, evAnd_one, evOr_one, evTAnd_one, evTOr_one, evSs_nil, evAnd_cons, evOr_cons, evTAnd_cons, evTOr_cons, op_add, op_sub, op_mul, op_mod, op_fdiv, op_tadd, op_ladd, op_sadd, cmp_lt, cmp_le, cmp_gt, cmp_ge, cmp_eq, cmp_ne, cmp_is, cmp_isnt, cmp_in, cmp_notin, eq_int, eq_str, eq_bl, isNon_non, isNon_int, isNon_str, isNon_bl, isNon_tup, isNon_lst, isi_int, isi_bl, isi_str, isi_tup, isi_lst, isi_non, isTy, ix_tup, ix_lst, ix_ro, at0, at1, at2, at3, at4, at5, bl_len, len_tup, len_lst, len_ro, bl_tuple, tup_tup, tup_lst, bl_list, seq_tup, seq_lst, seq_ro, lstO_lst, lstO_ro, bl_int, bl_abs, bl_max2, bl_min2, bl_max1, bl_min1, bl_maxd, bl_mind, bl_sum, bl_all, bl_any, bl_s, tru_int, tru_bl, tru_tup, tru_lst, get_app, get_app0, set_app, set_app0, m_append, rc_append, ite_ok, List.any_cons, List.any_nil, List.getElem?_cons_zero, List.getElem?_cons_succ, List.set_cons_zero, List.set_cons_succ, List.length_cons, List.length_nil, List.length_append, List.length_map, List.append_assoc, List.cons_append, List.nil_append, Option.map_some, Option.bind_some, Option.map_none, Option.bind_none, intsOf_map, blsOf_map, Nat.reduceAdd, Nat.reduceLT, Nat.reduceLeDiff, Nat.add_zero, Nat.zero_add, if_true, if_false, ite_self, decide_eq_true_eq, Bool.not_true, Bool.not_false, Bool.or_false, Bool.or_true, Bool.true_or, Bool.false_or, Bool.and_true, Bool.true_and, Bool.false_and, Bool.and_false, decide_true, decide_false, reduceCtorEq, eq_self, not_true_eq_false, not_false_eq_true, Bool.false_eq_true, Int.cast_ofNat_Int, Int.natCast_add, hc, hn, at_ints _ _ (Int.emod_nonneg p (Int.ne_of_gt hn)) (Int.emod_lt_of_pos p hn), m1, m2, m3, p1, p2, hl]
theorem take_ok (k : Nat) (rs : List Int) (p l : Int) (N : Mem) (hne : rs ≠ []) (hp : 0 ≤ p) (hl : 0 < l) : callF T G (k + 2) 62 [.lst (rs.map D.int), .loc 0, .int l] (.lst [.int p] :: N) = .ok (.int (drawV rs p l)) (.lst [.int (p + 1)] :: N) := by
  have ix : ∀ q : Int, idxS (.lst [.int q] :: N) (.loc 0) (.int 0) = some (.int q) := fun q => rfl
  have st : setS (.loc 0) (.int 0) (.int (p + 1)) (.lst [.int p] :: N) = some (.lst [.int (p + 1)] :: N) := rfl
  rw [r62, b62]
  simp only [x_seq, seq_nx, seq_ret, seq_exc, seq_brk, seq_cnt, x_asg, x_asgt, asgT_name, asgT_tup, asgTs_nil, asgTs_cons, rsopt, x_ite, x_var, get_some, x_tvar, tru_some, x_setI, rsmem, bind_ok, bind_exc, toRS_ok, toRS_exc, opt_some, fin_keep, fin_nxk, fin_exc, fin_ret, fin_nx, leave_keep, leave_dat, leave_nil, leave_spot, leave_spot0, nn1, Int.reduceLT, Int.reduceLE, Int.reduceAdd, Int.reduceSub, Int.reduceNeg, Int.reduceMul, dat_non, dat_int, dat_str, dat_bl, dat_tup, dat_lst, dats_nil, dats_cons, dats_ints, dats_bls, dats_strs, evE_cst, evE_glob, evE_op, evE_neg, evE_cmp, evE_cmp2, evE_land, evE_lor, evE_lnot, evE_ite, evE_tup, evE_lst, evE_lstC, evE_dictK, evE_idx, evE_slc, evE_isi, evE_call, evE_blt, evE_cell, evE_meth, evT_land, evT_lor, evT_lnot, evT_cmp, evT_cmp2, evT_isi, evT_call, evT_blt, evT_idx, evT_cst, evT_op, evS_par, evS_expr, evS_ret, evS_pass, evS_brk, evS_cnt, evS_raise, x_try, catch_ret, catch_nx, catch_exc, evEs_nil, evEs_cons, evTs_nil, evTs_one, evAnd_one, evOr_one, evTAnd_one, evTOr_one, evSs_nil, evAnd_cons, evOr_cons, evTAnd_cons, evTOr_cons, op_add, op_sub, op_mul, op_mod, op_fdiv, op_tadd, op_ladd, op_sadd, cmp_lt, cmp_le, cmp_gt, cmp_ge, cmp_eq, cmp_ne, cmp_is, cmp_isnt, cmp_in, cmp_notin, eq_int, eq_str, eq_bl, isNon_non, isNon_int, isNon_str, isNon_bl, isNon_tup, isNon_lst, isi_int, isi_bl, isi_str, isi_tup, isi_lst, isi_non, isTy, ix_tup, ix_lst, ix_ro, at0, at1, at2, at3, at4, at5, bl_len, len_tup, len_lst, len_ro, bl_tuple, tup_tup, tup_lst, bl_list, seq_tup, seq_lst, seq_ro, lstO_lst, lstO_ro, bl_int, bl_abs, bl_max2, bl_min2, bl_max1, bl_min1, bl_maxd, bl_mind, bl_sum, bl_all, bl_any, bl_s, tru_int, tru_bl, tru_tup, tru_lst, get_app, get_app0, set_app, set_app0, m_append, rc_append, ite_ok, List.any_cons, List.any_nil, List.getElem?_cons_zero, List.getElem?_cons_succ, List.set_cons_zero, List.set_cons_succ, List.length_cons, List.length_nil, List.length_append, List.length_map, List.append_assoc, List.cons_append, List.nil_append, Option.map_some, Option.bind_some, Option.map_none, Option.bind_none, intsOf_map, blsOf_map, Nat.reduceAdd, Nat.reduceLT, Nat.reduceLeDiff, Nat.add_zero, Nat.zero_add, if_true, if_false, ite_self, decide_eq_true_eq, Bool.not_true, Bool.not_false, Bool.or_false, Bool.or_true, Bool.true_or, Bool.false_or, Bool.and_true, Bool.true_and, Bool.false_and, Bool.and_false, decide_true, decide_false, reduceCtorEq, eq_self, not_true_eq_false, not_false_eq_true, Bool.false_eq_true, Int.cast_ofNat_Int, Int.natCast_add, ix, st, draw_ok _ _ _ _ _ hne hp hl, Int.add_sub_cancel]
theorem pick_ok (k : Nat) (rs : List Int) (p : Int) (ds : List D) (N : Mem) (hne : rs ≠ []) (hp : 0 ≤ p) (hl : 0 < ds.length) : callF T G (k + 3) 63 [.lst (rs.map D.int), .loc 0, .lst ds] (.lst [.int p] :: N) = .ok (ds.getD (drawV rs p ds.length).toNat .non) (.lst [.int (p + 1)] :: N) := by
  have hl2 : (0 : Int) < ds.length := by omega
  obtain ⟨g1, g2⟩ := draw_in rs p ds.length hl2
  have e : atI ds (drawV rs p ds.length) = some (ds.getD (drawV rs p ds.length).toNat .non) := by
    have h2 : (drawV rs p ds.length).toNat < ds.length := by omega
    rw [atI_pos _ _ g1, List.getElem?_eq_getElem h2, List.getD_eq_getElem?_getD, List.getElem?_eq_getElem h2]
    rfl
  rw [r63, b63]
  simp only [x_seq, seq_nx, seq_ret, seq_exc, seq_brk, seq_cnt, x_asg, x_asgt, asgT_name, asgT_tup, asgTs_nil, asgTs_cons, rsopt, x_ite, x_var, get_some, x_tvar, tru_some, x_setI, rsmem, bind_ok, bind_exc, toRS_ok, toRS_exc, opt_some, fin_keep, fin_nxk, fin_exc, fin_ret, fin_nx, leave_keep, leave_dat, leave_nil, leave_spot, leave_spot0, nn1, Int.reduceLT, Int.reduceLE, Int.reduceAdd, Int.reduceSub, Int.reduceNeg, Int.reduceMul, dat_non, dat_int, dat_str, dat_bl, dat_tup, dat_lst, dats_nil, dats_cons, dats_ints, dats_bls, dats_strs, evE_cst, evE_glob, evE_op, evE_neg, evE_cmp, evE_cmp2, evE_land, evE_lor, evE_lnot, evE_ite, evE_tup, evE_lst, evE_lstC, evE_dictK, evE_idx, evE_slc, evE_isi, evE_call, evE_blt, evE_cell, evE_meth, evT_land, evT_lor, evT_lnot, evT_cmp, evT_cmp2, evT_isi, evT_call, evT_blt, evT_idx, evT_cst, evT_op, evS_par, evS_expr, evS_ret, evS_pass, evS_brk, evS_cnt, evS_raise, x_try, catch_ret, catch_nx, catch_exc, evEs_nil, evEs_cons, evTs_nil, evTs_one, evAnd_one, evOr_one, evTAnd_one, evTOr_one, evSs_nil, evAnd_cons, evOr_cons, evTAnd_cons, evTOr_cons, op_add, op_sub, op_mul, op_mod, op_fdiv, op_tadd, op_ladd, op_sadd, cmp_lt, cmp_le, cmp_gt, cmp_ge, cmp_eq, cmp_ne, cmp_is, cmp_isnt, cmp_in, cmp_notin, eq_int, eq_str, eq_bl, isNon_non, isNon_int, isNon_str, isNon_bl, isNon_tup, isNon_lst, isi_int, isi_bl, isi_str, isi_tup, isi_lst, isi_non, isTy, ix_tup, ix_lst, ix_ro, at0, at1, at2, at3, at4, at5, bl_len, len_tup, len_lst, len_ro, bl_tuple, tup_tup, tup_lst, bl_list, seq_tup, seq_lst, seq_ro, lstO_lst, lstO_ro, bl_int, bl_abs, bl_max2, bl_min2, bl_max1, bl_min1, bl_maxd, bl_mind, bl_sum, bl_all, bl_any, bl_s, tru_int, tru_bl, tru_tup, tru_lst, get_app, get_app0, set_app, set_app0, m_append, rc_append, ite_ok, List.any_cons, List.any_nil, List.getElem?_cons_zero, List.getElem?_cons_succ, List.set_cons_zero, List.set_cons_succ, List.length_cons, List.length_nil, List.length_append, List.length_map, List.append_assoc, List.cons_append, List.nil_append, Option.map_some, Option.bind_some, Option.map_none, Option.bind_none, intsOf_map, blsOf_map, Nat.reduceAdd, Nat.reduceLT, Nat.reduceLeDiff, Nat.add_zero, Nat.zero_add, if_true, if_false, ite_self, decide_eq_true_eq, Bool.not_true, Bool.not_false, Bool.or_false, Bool.or_true, Bool.true_or, Bool.false_or, Bool.and_true, Bool.true_and, Bool.false_and, Bool.and_false, decide_true, decide_false, reduceCtorEq, eq_self, not_true_eq_false, not_false_eq_true, Bool.false_eq_true, Int.cast_ofNat_Int, Int.natCast_add, take_ok _ _ _ _ _ hne hp hl2, e]
/-- one of several is drawn -/
theorem pick_in (k : Nat) (rs : List Int) (p : Int) (ds : List D) (N : Mem) (P : D → Prop) (hne : rs ≠ []) (hp : 0 ≤ p) (hl : 0 < ds.length) (h : ∀ d ∈ ds, P d) : ∃ d, P d ∧ callF T G (k + 3) 63 [.lst (rs.map D.int), .loc 0, .lst ds] (.lst [.int p] :: N) = .ok d (.lst [.int (p + 1)] :: N) := by
  obtain ⟨g1, g2⟩ := draw_in rs p ds.length (by omega)
  exact ⟨_, getD_all (by omega) h, pick_ok k rs p ds N hne hp hl⟩
theorem take_in (k : Nat) (rs : List Int) (p l : Int) (N : Mem) (hne : rs ≠ []) (hp : 0 ≤ p) (hl : 0 < l) : ∃ v, 0 ≤ v ∧ v < l ∧ callF T G (k + 2) 62 [.lst (rs.map D.int), .loc 0, .int l] (.lst [.int p] :: N) = .ok (.int v) (.lst [.int (p + 1)] :: N) :=
  ⟨_, (draw_in rs p l hl).1, (draw_in rs p l hl).2, take_ok k rs p l N hne hp hl⟩
end Pv

set_option Elab.async false
set_option linter.all false
set_option maxRecDepth 100000
set_option maxHeartbeats 4000000
namespace K74
open Pv
theorem slots_in_ok (k : Nat) (ns : List Int) (w : D) (M : Mem) (hn : ∀ i ∈ ns, 0 ≤ i ∧ i ≤ 500) (hl : ns.length ≤ 48) : callF T G (k + 4) 333 [.tup (ns.map D.int), w] M = .ok (.tup (ns.map D.int)) M := by
  have q := integers_in_ok k ns w 0 500 0 48 M hn (by omega) (by omega) (by decide)
  rw [r333, b333]
  simp only [x_seq, seq_nx, seq_ret, seq_exc, seq_brk, seq_cnt, x_asg, x_asgt, asgT_name, asgT_tup, asgTs_nil, asgTs_cons, rsopt, x_ite, x_var, get_some, x_tvar, tru_some, x_setI, rsmem, bind_ok, bind_exc, toRS_ok, toRS_exc, opt_some, fin_keep, fin_nxk, fin_exc, fin_ret, fin_nx, leave_keep, leave_dat, leave_nil, leave_spot, leave_spot0, nn1, Int.reduceLT, Int.reduceLE, Int.reduceAdd, Int.reduceSub, Int.reduceNeg, Int.reduceMul, dat_non, dat_int, dat_str, dat_bl, dat_tup, dat_lst, dats_nil, dats_cons, dats_ints, dats_bls, dats_strs, evE_cst, evE_glob, evE_op, evE_neg, evE_cmp, evE_cmp2, evE_land, evE_lor, evE_lnot, evE_ite, evE_tup, evE_lst, evE_lstC, evE_dictK, evE_idx, evE_slc, evE_isi, evE_call, evE_blt, evE_cell, evE_meth, evT_land, evT_lor, evT_lnot, evT_cmp, evT_cmp2, evT_isi, evT_call, evT_blt, evT_idx, evT_cst, evT_op, evS_par, evS_expr, evS_ret, evS_pass, evS_brk, evS_cnt, evS_raise, x_try, catch_ret, catch_nx, catch_exc, evEs_nil, evEs_cons, evTs_nil, evTs_one, evAnd_one, evOr_one, evTAnd_one, evTOr_one, evSs_nil, evAnd_cons, evOr_cons, evTAnd_cons, evTOr_cons, op_add, op_sub, op_mul, op_mod, op_fdiv, op_tadd, op_ladd, op_sadd, cmp_lt, cmp_le, cmp_gt, cmp_ge, cmp_eq, cmp_ne, cmp_is, cmp_isnt, cmp_in, cmp_notin, eq_int, eq_str, eq_bl, isNon_non, isNon_int, isNon_str, isNon_bl, isNon_tup, isNon_lst, isi_int, isi_bl, isi_str, isi_tup, isi_lst, isi_non, isTy, ix_tup, ix_lst, ix_ro, at0, at1, at2, at3, at4, at5, bl_len, len_tup, len_lst, len_ro, bl_tuple, tup_tup, tup_lst, bl_list, seq_tup, seq_lst, seq_ro, lstO_lst, lstO_ro, bl_int, bl_abs, bl_max2, bl_min2, bl_max1, bl_min1, bl_maxd, bl_mind, bl_sum, bl_all, bl_any, bl_s, tru_int, tru_bl, tru_tup, tru_lst, get_app, get_app0, set_app, set_app0, m_append, rc_append, ite_ok, List.any_cons, List.any_nil, List.getElem?_cons_zero, List.getElem?_cons_succ, List.set_cons_zero, List.set_cons_succ, List.length_cons, List.length_nil, List.length_append, List.length_map, List.append_assoc, List.cons_append, List.nil_append, Option.map_some, Option.bind_some, Option.map_none, Option.bind_none, intsOf_map, blsOf_map, Nat.reduceAdd, Nat.reduceLT, Nat.reduceLeDiff, Nat.add_zero, Nat.zero_add, if_true, if_false, ite_self, decide_eq_true_eq, Bool.not_true, Bool.not_false, Bool.or_false, Bool.or_true, Bool.true_or, Bool.false_or, Bool.and_true, Bool.true_and, Bool.false_and, Bool.and_false, decide_true, decide_false, reduceCtorEq, eq_self, not_true_eq_false, not_false_eq_true, Bool.false_eq_true, Int.cast_ofNat_Int, Int.natCast_add, g22, g33, q]
def up (n p : Int) : Int := (n + p - 1) / p
theorem rounded_up_ok (k : Nat) (n p : Int) (M : Mem) (hp : 0 < p) (hp2 : p < 1000000) : callF T G (k + 1) 334 [.int n, .int p] M = .ok (.int (up n p)) M := by
  have h2 : p < 1073741824 := by omega
  rw [r334, b334]
  simp only [x_seq, seq_nx, seq_ret, seq_exc, seq_brk, seq_cnt, x_asg, x_asgt, asgT_name, asgT_tup, asgTs_nil, asgTs_cons, rsopt, x_ite, x_var, get_some, x_tvar, tru_some, x_setI, rsmem, bind_ok, bind_exc, toRS_ok, toRS_exc, opt_some, fin_keep, fin_nxk, fin_exc, fin_ret, fin_nx, leave_keep, leave_dat, leave_nil, leave_spot, leave_spot0, nn1, Int.reduceLT, Int.reduceLE, Int.reduceAdd, Int.reduceSub, Int.reduceNeg, Int.reduceMul, dat_non, dat_int, dat_str, dat_bl, dat_tup, dat_lst, dats_nil, dats_cons, dats_ints, dats_bls, dats_strs, evE_cst, evE_glob, evE_op, evE_neg, evE_cmp, evE_cmp2, evE_land, evE_lor, evE_lnot, evE_ite, evE_tup, evE_lst, evE_lstC, evE_dictK, evE_idx, evE_slc, evE_isi, evE_call, evE_blt, evE_cell, evE_meth, evT_land, evT_lor, evT_lnot, evT_cmp, evT_cmp2, evT_isi, evT_call, evT_blt, evT_idx, evT_cst, evT_op, evS_par, evS_expr, evS_ret, evS_pass, evS_brk, evS_cnt, evS_raise, x_try, catch_ret, catch_nx, catch_exc, evEs_nil, evEs_cons, evTs_nil, evTs_one, evAnd_one, evOr_one, evTAnd_one, evTOr_one, evSs_nil, evAnd_cons, evOr_cons, evTAnd_cons, evTOr_cons, op_add, op_sub, op_mul, op_mod, op_fdiv, op_tadd, op_ladd, op_sadd, cmp_lt, cmp_le, cmp_gt, cmp_ge, cmp_eq, cmp_ne, cmp_is, cmp_isnt, cmp_in, cmp_notin, eq_int, eq_str, eq_bl, isNon_non, isNon_int, isNon_str, isNon_bl, isNon_tup, isNon_lst, isi_int, isi_bl, isi_str, isi_tup, isi_lst, isi_non, isTy, ix_tup, ix_lst, ix_ro, at0, at1, at2, at3, at4, at5, bl_len, len_tup, len_lst, len_ro, bl_tuple, tup_tup, tup_lst, bl_list, seq_tup, seq_lst, seq_ro, lstO_lst, lstO_ro, bl_int, bl_abs, bl_max2, bl_min2, bl_max1, bl_min1, bl_maxd, bl_mind, bl_sum, bl_all, bl_any, bl_s, tru_int, tru_bl, tru_tup, tru_lst, get_app, get_app0, set_app, set_app0, m_append, rc_append, ite_ok, List.any_cons, List.any_nil, List.getElem?_cons_zero, List.getElem?_cons_succ, List.set_cons_zero, List.set_cons_succ, List.length_cons, List.length_nil, List.length_append, List.length_map, List.append_assoc, List.cons_append, List.nil_append, Option.map_some, Option.bind_some, Option.map_none, Option.bind_none, intsOf_map, blsOf_map, Nat.reduceAdd, Nat.reduceLT, Nat.reduceLeDiff, Nat.add_zero, Nat.zero_add, if_true, if_false, ite_self, decide_eq_true_eq, Bool.not_true, Bool.not_false, Bool.or_false, Bool.or_true, Bool.true_or, Bool.false_or, Bool.and_true, Bool.true_and, Bool.false_and, Bool.and_false, decide_true, decide_false, reduceCtorEq, eq_self, not_true_eq_false, not_false_eq_true, Bool.false_eq_true, Int.cast_ofNat_Int, Int.natCast_add, hp, h2, up]
/-- what waits behind each slot -/
def lin (s : Int) : Int → List Int → List Int
  | _, [] => []
  | w, m :: ms => max 0 (w + m - s) :: lin s (max 0 (w + m - s)) ms
theorem lin_length (s : Int) : ∀ (ns : List Int) (w : Int), (lin s w ns).length = ns.length
  | [], _ => rfl
  | _ :: ns, _ => by rw [lin, List.length_cons, lin_length s ns, List.length_cons]
theorem lin_loop {C : Ctx} {M : Mem} {p : Option D} {s : Int} : ∀ (ns acc : List Int) (w : Int) (x : Option D), acc.length + ns.length < line →
    ∃ w' x', evF [] (asgT (.name 4)) (fun ρ M => evSs C f339_1 ρ M) (ns.map D.int) [p, some (.int s), some (.loc M.length), some (.int w), x] (M ++ [.lst (acc.map D.int)]) =
      .nx [p, some (.int s), some (.loc M.length), some (.int w'), x'] (M ++ [.lst ((acc ++ lin s w ns).map D.int)])
  | [], acc, w, x, _ => ⟨w, x, by rw [List.map_nil, evF_nil0, lin, List.append_nil]⟩
  | m :: ms, acc, w, x, hl => by
    rw [List.length_cons] at hl
    have h1 : acc.length < line := by omega
    obtain ⟨w', x', e⟩ := lin_loop (C := C) (M := M) (p := p) (s := s) ms (acc ++ [max 0 (w + m - s)]) (max 0 (w + m - s)) (some (.int m)) (by rw [List.length_append]; simp; omega)
    refine ⟨w', x', ?_⟩
    rw [List.map_cons, evF_nx0 (ρ1 := [p, some (.int s), some (.loc M.length), some (.int w), some (.int m)]) rfl (by rw [f339_1]; simp only [x_seq, seq_nx, seq_ret, seq_exc, seq_brk, seq_cnt, x_asg, x_asgt, asgT_name, asgT_tup, asgTs_nil, asgTs_cons, rsopt, x_ite, x_var, get_some, x_tvar, tru_some, x_setI, rsmem, bind_ok, bind_exc, toRS_ok, toRS_exc, opt_some, fin_keep, fin_nxk, fin_exc, fin_ret, fin_nx, leave_keep, leave_dat, leave_nil, leave_spot, leave_spot0, nn1, Int.reduceLT, Int.reduceLE, Int.reduceAdd, Int.reduceSub, Int.reduceNeg, Int.reduceMul, dat_non, dat_int, dat_str, dat_bl, dat_tup, dat_lst, dats_nil, dats_cons, dats_ints, dats_bls, dats_strs, evE_cst, evE_glob, evE_op, evE_neg, evE_cmp, evE_cmp2, evE_land, evE_lor, evE_lnot, evE_ite, evE_tup, evE_lst, evE_lstC, evE_dictK, evE_idx, evE_slc, evE_isi, evE_call, evE_blt, evE_cell, evE_meth, evT_land, evT_lor, evT_lnot, evT_cmp, evT_cmp2, evT_isi, evT_call, evT_blt, evT_idx, evT_cst, evT_op, evS_par, evS_expr, evS_ret, evS_pass, evS_brk, evS_cnt, evS_raise, x_try, catch_ret, catch_nx, catch_exc, evEs_nil, evEs_cons, evTs_nil, evTs_one, evAnd_one, evOr_one, evTAnd_one, evTOr_one, evSs_nil, evAnd_cons, evOr_cons, evTAnd_cons, evTOr_cons, op_add, op_sub, op_mul, op_mod, op_fdiv, op_tadd, op_ladd, op_sadd, cmp_lt, cmp_le, cmp_gt, cmp_ge, cmp_eq, cmp_ne, cmp_is, cmp_isnt, cmp_in, cmp_notin, eq_int, eq_str, eq_bl, isNon_non, isNon_int, isNon_str, isNon_bl, isNon_tup, isNon_lst, isi_int, isi_bl, isi_str, isi_tup, isi_lst, isi_non, isTy, ix_tup, ix_lst, ix_ro, at0, at1, at2, at3, at4, at5, bl_len, len_tup, len_lst, len_ro, bl_tuple, tup_tup, tup_lst, bl_list, seq_tup, seq_lst, seq_ro, lstO_lst, lstO_ro, bl_int, bl_abs, bl_max2, bl_min2, bl_max1, bl_min1, bl_maxd, bl_mind, bl_sum, bl_all, bl_any, bl_s, tru_int, tru_bl, tru_tup, tru_lst, get_app, get_app0, set_app, set_app0, m_append, rc_append, ite_ok, List.any_cons, List.any_nil, List.getElem?_cons_zero, List.getElem?_cons_succ, List.set_cons_zero, List.set_cons_succ, List.length_cons, List.length_nil, List.length_append, List.length_map, List.append_assoc, List.cons_append, List.nil_append, Option.map_some, Option.bind_some, Option.map_none, Option.bind_none, intsOf_map, blsOf_map, Nat.reduceAdd, Nat.reduceLT, Nat.reduceLeDiff, Nat.add_zero, Nat.zero_add, if_true, if_false, ite_self, decide_eq_true_eq, Bool.not_true, Bool.not_false, Bool.or_false, Bool.or_true, Bool.true_or, Bool.false_or, Bool.and_true, Bool.true_and, Bool.false_and, Bool.and_false, decide_true, decide_false, reduceCtorEq, eq_self, not_true_eq_false, not_false_eq_true, Bool.false_eq_true, Int.cast_ofNat_Int, Int.natCast_add, rc1, append1 _ _ _ h1, -rc_append, -m_append]; rfl), e, lin, List.append_assoc]
    rfl
theorem lines_in_ok (k : Nat) (ns : List Int) (s : Int) (M : Mem) (hl : ns.length ≤ 1000) : callF T G (k + 1) 339 [.tup (ns.map D.int), .int s] M = .ok (.loc M.length) (M ++ [.lst ((lin s 0 ns).map D.int)]) := by
  obtain ⟨w', x', e⟩ := lin_loop (C := ⟨callF T G k, G⟩) (M := M) (p := some (.tup (ns.map D.int))) (s := s) ns [] 0 none (by show _ < 16777216; simp; omega)
  have hl : evS ⟨callF T G k, G⟩ l339_1 [some (.tup (ns.map D.int)), some (.int s), some (.loc M.length), some (.int 0), none] (M ++ [.lst []]) = .nx [some (.tup (ns.map D.int)), some (.int s), some (.loc M.length), some (.int w'), x'] (M ++ [.lst ((lin s 0 ns).map D.int)]) := by
    rw [l339_1, for_tup (M1 := M ++ [.lst []]) (ns.map D.int) (by simp only [x_seq, seq_nx, seq_ret, seq_exc, seq_brk, seq_cnt, x_asg, x_asgt, asgT_name, asgT_tup, asgTs_nil, asgTs_cons, rsopt, x_ite, x_var, get_some, x_tvar, tru_some, x_setI, rsmem, bind_ok, bind_exc, toRS_ok, toRS_exc, opt_some, fin_keep, fin_nxk, fin_exc, fin_ret, fin_nx, leave_keep, leave_dat, leave_nil, leave_spot, leave_spot0, nn1, Int.reduceLT, Int.reduceLE, Int.reduceAdd, Int.reduceSub, Int.reduceNeg, Int.reduceMul, dat_non, dat_int, dat_str, dat_bl, dat_tup, dat_lst, dats_nil, dats_cons, dats_ints, dats_bls, dats_strs, evE_cst, evE_glob, evE_op, evE_neg, evE_cmp, evE_cmp2, evE_land, evE_lor, evE_lnot, evE_ite, evE_tup, evE_lst, evE_lstC, evE_dictK, evE_idx, evE_slc, evE_isi, evE_call, evE_blt, evE_cell, evE_meth, evT_land, evT_lor, evT_lnot, evT_cmp, evT_cmp2, evT_isi, evT_call, evT_blt, evT_idx, evT_cst, evT_op, evS_par, evS_expr, evS_ret, evS_pass, evS_brk, evS_cnt, evS_raise, x_try, catch_ret, catch_nx, catch_exc, evEs_nil, evEs_cons, evTs_nil, evTs_one, evAnd_one, evOr_one, evTAnd_one, evTOr_one, evSs_nil, evAnd_cons, evOr_cons, evTAnd_cons, evTOr_cons, op_add, op_sub, op_mul, op_mod, op_fdiv, op_tadd, op_ladd, op_sadd, cmp_lt, cmp_le, cmp_gt, cmp_ge, cmp_eq, cmp_ne, cmp_is, cmp_isnt, cmp_in, cmp_notin, eq_int, eq_str, eq_bl, isNon_non, isNon_int, isNon_str, isNon_bl, isNon_tup, isNon_lst, isi_int, isi_bl, isi_str, isi_tup, isi_lst, isi_non, isTy, ix_tup, ix_lst, ix_ro, at0, at1, at2, at3, at4, at5, bl_len, len_tup, len_lst, len_ro, bl_tuple, tup_tup, tup_lst, bl_list, seq_tup, seq_lst, seq_ro, lstO_lst, lstO_ro, bl_int, bl_abs, bl_max2, bl_min2, bl_max1, bl_min1, bl_maxd, bl_mind, bl_sum, bl_all, bl_any, bl_s, tru_int, tru_bl, tru_tup, tru_lst, get_app, get_app0, set_app, set_app0, m_append, rc_append, ite_ok, List.any_cons, List.any_nil, List.getElem?_cons_zero, List.getElem?_cons_succ, List.set_cons_zero, List.set_cons_succ, List.length_cons, List.length_nil, List.length_append, List.length_map, List.append_assoc, List.cons_append, List.nil_append, Option.map_some, Option.bind_some, Option.map_none, Option.bind_none, intsOf_map, blsOf_map, Nat.reduceAdd, Nat.reduceLT, Nat.reduceLeDiff, Nat.add_zero, Nat.zero_add, if_true, if_false, ite_self, decide_eq_true_eq, Bool.not_true, Bool.not_false, Bool.or_false, Bool.or_true, Bool.true_or, Bool.false_or, Bool.and_true, Bool.true_and, Bool.false_and, Bool.and_false, decide_true, decide_false, reduceCtorEq, eq_self, not_true_eq_false, not_false_eq_true, Bool.false_eq_true, Int.cast_ofNat_Int, Int.natCast_add])]
    exact e
  rw [r339, b339]
  simp only [x_seq, seq_nx, seq_ret, seq_exc, seq_brk, seq_cnt, x_asg, x_asgt, asgT_name, asgT_tup, asgTs_nil, asgTs_cons, rsopt, x_ite, x_var, get_some, x_tvar, tru_some, x_setI, rsmem, bind_ok, bind_exc, toRS_ok, toRS_exc, opt_some, fin_keep, fin_nxk, fin_exc, fin_ret, fin_nx, leave_keep, leave_dat, leave_nil, leave_spot, leave_spot0, nn1, Int.reduceLT, Int.reduceLE, Int.reduceAdd, Int.reduceSub, Int.reduceNeg, Int.reduceMul, dat_non, dat_int, dat_str, dat_bl, dat_tup, dat_lst, dats_nil, dats_cons, dats_ints, dats_bls, dats_strs, evE_cst, evE_glob, evE_op, evE_neg, evE_cmp, evE_cmp2, evE_land, evE_lor, evE_lnot, evE_ite, evE_tup, evE_lst, evE_lstC, evE_dictK, evE_idx, evE_slc, evE_isi, evE_call, evE_blt, evE_cell, evE_meth, evT_land, evT_lor, evT_lnot, evT_cmp, evT_cmp2, evT_isi, evT_call, evT_blt, evT_idx, evT_cst, evT_op, evS_par, evS_expr, evS_ret, evS_pass, evS_brk, evS_cnt, evS_raise, x_try, catch_ret, catch_nx, catch_exc, evEs_nil, evEs_cons, evTs_nil, evTs_one, evAnd_one, evOr_one, evTAnd_one, evTOr_one, evSs_nil, evAnd_cons, evOr_cons, evTAnd_cons, evTOr_cons, op_add, op_sub, op_mul, op_mod, op_fdiv, op_tadd, op_ladd, op_sadd, cmp_lt, cmp_le, cmp_gt, cmp_ge, cmp_eq, cmp_ne, cmp_is, cmp_isnt, cmp_in, cmp_notin, eq_int, eq_str, eq_bl, isNon_non, isNon_int, isNon_str, isNon_bl, isNon_tup, isNon_lst, isi_int, isi_bl, isi_str, isi_tup, isi_lst, isi_non, isTy, ix_tup, ix_lst, ix_ro, at0, at1, at2, at3, at4, at5, bl_len, len_tup, len_lst, len_ro, bl_tuple, tup_tup, tup_lst, bl_list, seq_tup, seq_lst, seq_ro, lstO_lst, lstO_ro, bl_int, bl_abs, bl_max2, bl_min2, bl_max1, bl_min1, bl_maxd, bl_mind, bl_sum, bl_all, bl_any, bl_s, tru_int, tru_bl, tru_tup, tru_lst, get_app, get_app0, set_app, set_app0, m_append, rc_append, ite_ok, List.any_cons, List.any_nil, List.getElem?_cons_zero, List.getElem?_cons_succ, List.set_cons_zero, List.set_cons_succ, List.length_cons, List.length_nil, List.length_append, List.length_map, List.append_assoc, List.cons_append, List.nil_append, Option.map_some, Option.bind_some, Option.map_none, Option.bind_none, intsOf_map, blsOf_map, Nat.reduceAdd, Nat.reduceLT, Nat.reduceLeDiff, Nat.add_zero, Nat.zero_add, if_true, if_false, ite_self, decide_eq_true_eq, Bool.not_true, Bool.not_false, Bool.or_false, Bool.or_true, Bool.true_or, Bool.false_or, Bool.and_true, Bool.true_and, Bool.false_and, Bool.and_false, decide_true, decide_false, reduceCtorEq, eq_self, not_true_eq_false, not_false_eq_true, Bool.false_eq_true, Int.cast_ofNat_Int, Int.natCast_add, hl, fin_ret, leave_own _ _ (unders_ints _ _)]
def lon (s : Int) : List Int → List Int → List Int
  | m :: ms, l :: ls => if 0 < m then up l s :: lon s ms ls else lon s ms ls
  | _, _ => []
def mxL (ns : List Int) : Int := (maxL ns).getD 0
theorem zip_ints : ∀ (a b : List Int), zipD (a.map D.int) (b.map D.int) = (a.zip b).map fun p => D.tup [.int p.1, .int p.2]
  | [], _ => by simp [zipD]
  | _ :: _, [] => by simp [zipD]
  | x :: a, y :: b => by
    rw [List.map_cons, List.map_cons, zipD, zip_ints a b]
    rfl
theorem lon_eq (s : Int) : ∀ (a b : List Int), (a.zip b).filterMap (fun p => if 0 < p.1 then some (D.int (up p.2 s)) else none) = (lon s a b).map D.int
  | [], _ => rfl
  | _ :: _, [] => rfl
  | x :: a, y :: b => by
    have ih := lon_eq s a b
    rw [List.zip_cons_cons, List.filterMap_cons]
    by_cases hx : 0 < x
    · simp only [hx, if_true, lon, List.map_cons]
      rw [ih]
    · simp only [hx, if_false, lon]
      exact ih
theorem longest_in_ok (k : Nat) (ns : List Int) (s : Int) (M : Mem) (hl : ns.length ≤ 1000) (hs : 0 < s) (hs2 : s < 1000000) : callF T G (k + 2) 340 [.tup (ns.map D.int), .int s] M = .ok (.int (mxL (lon s ns (lin s 0 ns)))) M := by
  have hg : (M ++ [Cell.lst ((lin s 0 ns).map D.int)])[M.length]? = some (.lst ((lin s 0 ns).map D.int)) := by rw [get_app0]; rfl
  have c : evE ⟨callF T G (k + 1), G⟩ c340_1 [some (.tup (ns.map D.int)), some (.int s), some (.loc M.length), none, none] (M ++ [.lst ((lin s 0 ns).map D.int)]) = .ok (.lst ((lon s ns (lin s 0 ns)).map D.int)) (M ++ [.lst ((lin s 0 ns).map D.int)]) := by
    rw [c340_1, comp_pure (xs := ns.zip (lin s 0 ns)) (M1 := M ++ [.lst ((lin s 0 ns).map D.int)]) (ds := [.tup (ns.map D.int), .loc M.length]) (gd := [(M.length, (lin s 0 ns).map D.int)]) (fun p => D.tup [.int p.1, .int p.2]) (fun p => if 0 < p.1 then some (D.int (up p.2 s)) else none) (by simp only [x_seq, seq_nx, seq_ret, seq_exc, seq_brk, seq_cnt, x_asg, x_asgt, asgT_name, asgT_tup, asgTs_nil, asgTs_cons, rsopt, x_ite, x_var, get_some, x_tvar, tru_some, x_setI, rsmem, bind_ok, bind_exc, toRS_ok, toRS_exc, opt_some, fin_keep, fin_nxk, fin_exc, fin_ret, fin_nx, leave_keep, leave_dat, leave_nil, leave_spot, leave_spot0, nn1, Int.reduceLT, Int.reduceLE, Int.reduceAdd, Int.reduceSub, Int.reduceNeg, Int.reduceMul, dat_non, dat_int, dat_str, dat_bl, dat_tup, dat_lst, dats_nil, dats_cons, dats_ints, dats_bls, dats_strs, evE_cst, evE_glob, evE_op, evE_neg, evE_cmp, evE_cmp2, evE_land, evE_lor, evE_lnot, evE_ite, evE_tup, evE_lst, evE_lstC, evE_dictK, evE_idx, evE_slc, evE_isi, evE_call, evE_blt, evE_cell, evE_meth, evT_land, evT_lor, evT_lnot, evT_cmp, evT_cmp2, evT_isi, evT_call, evT_blt, evT_idx, evT_cst, evT_op, evS_par, evS_expr, evS_ret, evS_pass, evS_brk, evS_cnt, evS_raise, x_try, catch_ret, catch_nx, catch_exc, evEs_nil, evEs_cons, evTs_nil, evTs_one, evAnd_one, evOr_one, evTAnd_one, evTOr_one, evSs_nil, evAnd_cons, evOr_cons, evTAnd_cons, evTOr_cons, op_add, op_sub, op_mul, op_mod, op_fdiv, op_tadd, op_ladd, op_sadd, cmp_lt, cmp_le, cmp_gt, cmp_ge, cmp_eq, cmp_ne, cmp_is, cmp_isnt, cmp_in, cmp_notin, eq_int, eq_str, eq_bl, isNon_non, isNon_int, isNon_str, isNon_bl, isNon_tup, isNon_lst, isi_int, isi_bl, isi_str, isi_tup, isi_lst, isi_non, isTy, ix_tup, ix_lst, ix_ro, at0, at1, at2, at3, at4, at5, bl_len, len_tup, len_lst, len_ro, bl_tuple, tup_tup, tup_lst, bl_list, seq_tup, seq_lst, seq_ro, lstO_lst, lstO_ro, bl_int, bl_abs, bl_max2, bl_min2, bl_max1, bl_min1, bl_maxd, bl_mind, bl_sum, bl_all, bl_any, bl_s, tru_int, tru_bl, tru_tup, tru_lst, get_app, get_app0, set_app, set_app0, m_append, rc_append, ite_ok, List.any_cons, List.any_nil, List.getElem?_cons_zero, List.getElem?_cons_succ, List.set_cons_zero, List.set_cons_succ, List.length_cons, List.length_nil, List.length_append, List.length_map, List.append_assoc, List.cons_append, List.nil_append, Option.map_some, Option.bind_some, Option.map_none, Option.bind_none, intsOf_map, blsOf_map, Nat.reduceAdd, Nat.reduceLT, Nat.reduceLeDiff, Nat.add_zero, Nat.zero_add, if_true, if_false, ite_self, decide_eq_true_eq, Bool.not_true, Bool.not_false, Bool.or_false, Bool.or_true, Bool.true_or, Bool.false_or, Bool.and_true, Bool.true_and, Bool.false_and, Bool.and_false, decide_true, decide_false, reduceCtorEq, eq_self, not_true_eq_false, not_false_eq_true, Bool.false_eq_true, Int.cast_ofNat_Int, Int.natCast_add]) ?_ ?_ (holds1 _ _ _ hg) ?_, lon_eq]
    · simp only [itS, seqOf, gdOf, hg]
      rw [zip_ints]
      rfl
    · show _ ≤ 16777216
      rw [List.length_zip]
      omega
    · rintro ⟨m, l⟩ _
      refine ⟨[some (.tup (ns.map D.int)), some (.int s), some (.loc M.length), some (.int m), some (.int l)], rfl, ?_⟩
      by_cases hm : 0 < m
      · simp only [x_seq, seq_nx, seq_ret, seq_exc, seq_brk, seq_cnt, x_asg, x_asgt, asgT_name, asgT_tup, asgTs_nil, asgTs_cons, rsopt, x_ite, x_var, get_some, x_tvar, tru_some, x_setI, rsmem, bind_ok, bind_exc, toRS_ok, toRS_exc, opt_some, fin_keep, fin_nxk, fin_exc, fin_ret, fin_nx, leave_keep, leave_dat, leave_nil, leave_spot, leave_spot0, nn1, Int.reduceLT, Int.reduceLE, Int.reduceAdd, Int.reduceSub, Int.reduceNeg, Int.reduceMul, dat_non, dat_int, dat_str, dat_bl, dat_tup, dat_lst, dats_nil, dats_cons, dats_ints, dats_bls, dats_strs, evE_cst, evE_glob, evE_op, evE_neg, evE_cmp, evE_cmp2, evE_land, evE_lor, evE_lnot, evE_ite, evE_tup, evE_lst, evE_lstC, evE_dictK, evE_idx, evE_slc, evE_isi, evE_call, evE_blt, evE_cell, evE_meth, evT_land, evT_lor, evT_lnot, evT_cmp, evT_cmp2, evT_isi, evT_call, evT_blt, evT_idx, evT_cst, evT_op, evS_par, evS_expr, evS_ret, evS_pass, evS_brk, evS_cnt, evS_raise, x_try, catch_ret, catch_nx, catch_exc, evEs_nil, evEs_cons, evTs_nil, evTs_one, evAnd_one, evOr_one, evTAnd_one, evTOr_one, evSs_nil, evAnd_cons, evOr_cons, evTAnd_cons, evTOr_cons, op_add, op_sub, op_mul, op_mod, op_fdiv, op_tadd, op_ladd, op_sadd, cmp_lt, cmp_le, cmp_gt, cmp_ge, cmp_eq, cmp_ne, cmp_is, cmp_isnt, cmp_in, cmp_notin, eq_int, eq_str, eq_bl, isNon_non, isNon_int, isNon_str, isNon_bl, isNon_tup, isNon_lst, isi_int, isi_bl, isi_str, isi_tup, isi_lst, isi_non, isTy, ix_tup, ix_lst, ix_ro, at0, at1, at2, at3, at4, at5, bl_len, len_tup, len_lst, len_ro, bl_tuple, tup_tup, tup_lst, bl_list, seq_tup, seq_lst, seq_ro, lstO_lst, lstO_ro, bl_int, bl_abs, bl_max2, bl_min2, bl_max1, bl_min1, bl_maxd, bl_mind, bl_sum, bl_all, bl_any, bl_s, tru_int, tru_bl, tru_tup, tru_lst, get_app, get_app0, set_app, set_app0, m_append, rc_append, ite_ok, List.any_cons, List.any_nil, List.getElem?_cons_zero, List.getElem?_cons_succ, List.set_cons_zero, List.set_cons_succ, List.length_cons, List.length_nil, List.length_append, List.length_map, List.append_assoc, List.cons_append, List.nil_append, Option.map_some, Option.bind_some, Option.map_none, Option.bind_none, intsOf_map, blsOf_map, Nat.reduceAdd, Nat.reduceLT, Nat.reduceLeDiff, Nat.add_zero, Nat.zero_add, if_true, if_false, ite_self, decide_eq_true_eq, Bool.not_true, Bool.not_false, Bool.or_false, Bool.or_true, Bool.true_or, Bool.false_or, Bool.and_true, Bool.true_and, Bool.false_and, Bool.and_false, decide_true, decide_false, reduceCtorEq, eq_self, not_true_eq_false, not_false_eq_true, Bool.false_eq_true, Int.cast_ofNat_Int, Int.natCast_add, hm, rounded_up_ok _ _ _ _ hs hs2]
      · simp only [x_seq, seq_nx, seq_ret, seq_exc, seq_brk, seq_cnt, x_asg, x_asgt, asgT_name, asgT_tup, asgTs_nil, asgTs_cons, rsopt, x_ite, x_var, get_some, x_tvar, tru_some, x_setI, rsmem, bind_ok, bind_exc, toRS_ok, toRS_exc, opt_some, fin_keep, fin_nxk, fin_exc, fin_ret, fin_nx, leave_keep, leave_dat, leave_nil, leave_spot, leave_spot0, nn1, Int.reduceLT, Int.reduceLE, Int.reduceAdd, Int.reduceSub, Int.reduceNeg, Int.reduceMul, dat_non, dat_int, dat_str, dat_bl, dat_tup, dat_lst, dats_nil, dats_cons, dats_ints, dats_bls, dats_strs, evE_cst, evE_glob, evE_op, evE_neg, evE_cmp, evE_cmp2, evE_land, evE_lor, evE_lnot, evE_ite, evE_tup, evE_lst, evE_lstC, evE_dictK, evE_idx, evE_slc, evE_isi, evE_call, evE_blt, evE_cell, evE_meth, evT_land, evT_lor, evT_lnot, evT_cmp, evT_cmp2, evT_isi, evT_call, evT_blt, evT_idx, evT_cst, evT_op, evS_par, evS_expr, evS_ret, evS_pass, evS_brk, evS_cnt, evS_raise, x_try, catch_ret, catch_nx, catch_exc, evEs_nil, evEs_cons, evTs_nil, evTs_one, evAnd_one, evOr_one, evTAnd_one, evTOr_one, evSs_nil, evAnd_cons, evOr_cons, evTAnd_cons, evTOr_cons, op_add, op_sub, op_mul, op_mod, op_fdiv, op_tadd, op_ladd, op_sadd, cmp_lt, cmp_le, cmp_gt, cmp_ge, cmp_eq, cmp_ne, cmp_is, cmp_isnt, cmp_in, cmp_notin, eq_int, eq_str, eq_bl, isNon_non, isNon_int, isNon_str, isNon_bl, isNon_tup, isNon_lst, isi_int, isi_bl, isi_str, isi_tup, isi_lst, isi_non, isTy, ix_tup, ix_lst, ix_ro, at0, at1, at2, at3, at4, at5, bl_len, len_tup, len_lst, len_ro, bl_tuple, tup_tup, tup_lst, bl_list, seq_tup, seq_lst, seq_ro, lstO_lst, lstO_ro, bl_int, bl_abs, bl_max2, bl_min2, bl_max1, bl_min1, bl_maxd, bl_mind, bl_sum, bl_all, bl_any, bl_s, tru_int, tru_bl, tru_tup, tru_lst, get_app, get_app0, set_app, set_app0, m_append, rc_append, ite_ok, List.any_cons, List.any_nil, List.getElem?_cons_zero, List.getElem?_cons_succ, List.set_cons_zero, List.set_cons_succ, List.length_cons, List.length_nil, List.length_append, List.length_map, List.append_assoc, List.cons_append, List.nil_append, Option.map_some, Option.bind_some, Option.map_none, Option.bind_none, intsOf_map, blsOf_map, Nat.reduceAdd, Nat.reduceLT, Nat.reduceLeDiff, Nat.add_zero, Nat.zero_add, if_true, if_false, ite_self, decide_eq_true_eq, Bool.not_true, Bool.not_false, Bool.or_false, Bool.or_true, Bool.true_or, Bool.false_or, Bool.and_true, Bool.true_and, Bool.false_and, Bool.and_false, decide_true, decide_false, reduceCtorEq, eq_self, not_true_eq_false, not_false_eq_true, Bool.false_eq_true, Int.cast_ofNat_Int, Int.natCast_add, hm]
  rw [r340, b340]
  simp only [x_seq, seq_nx, seq_ret, seq_exc, seq_brk, seq_cnt, x_asg, x_asgt, asgT_name, asgT_tup, asgTs_nil, asgTs_cons, rsopt, x_ite, x_var, get_some, x_tvar, tru_some, x_setI, rsmem, bind_ok, bind_exc, toRS_ok, toRS_exc, opt_some, fin_keep, fin_nxk, fin_exc, fin_ret, fin_nx, leave_keep, leave_dat, leave_nil, leave_spot, leave_spot0, nn1, Int.reduceLT, Int.reduceLE, Int.reduceAdd, Int.reduceSub, Int.reduceNeg, Int.reduceMul, dat_non, dat_int, dat_str, dat_bl, dat_tup, dat_lst, dats_nil, dats_cons, dats_ints, dats_bls, dats_strs, evE_cst, evE_glob, evE_op, evE_neg, evE_cmp, evE_cmp2, evE_land, evE_lor, evE_lnot, evE_ite, evE_tup, evE_lst, evE_lstC, evE_dictK, evE_idx, evE_slc, evE_isi, evE_call, evE_blt, evE_cell, evE_meth, evT_land, evT_lor, evT_lnot, evT_cmp, evT_cmp2, evT_isi, evT_call, evT_blt, evT_idx, evT_cst, evT_op, evS_par, evS_expr, evS_ret, evS_pass, evS_brk, evS_cnt, evS_raise, x_try, catch_ret, catch_nx, catch_exc, evEs_nil, evEs_cons, evTs_nil, evTs_one, evAnd_one, evOr_one, evTAnd_one, evTOr_one, evSs_nil, evAnd_cons, evOr_cons, evTAnd_cons, evTOr_cons, op_add, op_sub, op_mul, op_mod, op_fdiv, op_tadd, op_ladd, op_sadd, cmp_lt, cmp_le, cmp_gt, cmp_ge, cmp_eq, cmp_ne, cmp_is, cmp_isnt, cmp_in, cmp_notin, eq_int, eq_str, eq_bl, isNon_non, isNon_int, isNon_str, isNon_bl, isNon_tup, isNon_lst, isi_int, isi_bl, isi_str, isi_tup, isi_lst, isi_non, isTy, ix_tup, ix_lst, ix_ro, at0, at1, at2, at3, at4, at5, bl_len, len_tup, len_lst, len_ro, bl_tuple, tup_tup, tup_lst, bl_list, seq_tup, seq_lst, seq_ro, lstO_lst, lstO_ro, bl_int, bl_abs, bl_max2, bl_min2, bl_max1, bl_min1, bl_maxd, bl_mind, bl_sum, bl_all, bl_any, bl_s, tru_int, tru_bl, tru_tup, tru_lst, get_app, get_app0, set_app, set_app0, m_append, rc_append, ite_ok, List.any_cons, List.any_nil, List.getElem?_cons_zero, List.getElem?_cons_succ, List.set_cons_zero, List.set_cons_succ, List.length_cons, List.length_nil, List.length_append, List.length_map, List.append_assoc, List.cons_append, List.nil_append, Option.map_some, Option.bind_some, Option.map_none, Option.bind_none, intsOf_map, blsOf_map, Nat.reduceAdd, Nat.reduceLT, Nat.reduceLeDiff, Nat.add_zero, Nat.zero_add, if_true, if_false, ite_self, decide_eq_true_eq, Bool.not_true, Bool.not_false, Bool.or_false, Bool.or_true, Bool.true_or, Bool.false_or, Bool.and_true, Bool.true_and, Bool.false_and, Bool.and_false, decide_true, decide_false, reduceCtorEq, eq_self, not_true_eq_false, not_false_eq_true, Bool.false_eq_true, Int.cast_ofNat_Int, Int.natCast_add, lines_in_ok _ _ _ _ hl, c, mxL]
def Ok (ns : List Int) : Prop := (∀ i ∈ ns, 0 ≤ i ∧ i ≤ 500) ∧ ns.length ≤ 48
theorem longest_wait_ok (k : Nat) (ns : List Int) (n s : Int) (M : Mem) (h : Ok ns) (hn : 1 ≤ n ∧ n ≤ 30) (hs : 1 ≤ s ∧ s ≤ 30) : callF T G (k + 5) 336 [.tup (ns.map D.int), .int n, .int s] M = .ok (.int (mxL (lon (n * s) ns (lin (n * s) 0 ns)))) M := by
  have p1 : 0 < n * s := Int.mul_pos (by omega) (by omega)
  have p2 : n * s ≤ 30 * 30 := Int.mul_le_mul hn.2 hs.2 (by omega) (by omega)
  have p3 : n * s < 1000000 := by omega
  have m : mulOk n s := mulOk_l (a := n) (by constructor <;> omega) s
  have l : ns.length ≤ 1000 := by have := h.2; omega
  rw [r336, b336]
  simp only [x_seq, seq_nx, seq_ret, seq_exc, seq_brk, seq_cnt, x_asg, x_asgt, asgT_name, asgT_tup, asgTs_nil, asgTs_cons, rsopt, x_ite, x_var, get_some, x_tvar, tru_some, x_setI, rsmem, bind_ok, bind_exc, toRS_ok, toRS_exc, opt_some, fin_keep, fin_nxk, fin_exc, fin_ret, fin_nx, leave_keep, leave_dat, leave_nil, leave_spot, leave_spot0, nn1, Int.reduceLT, Int.reduceLE, Int.reduceAdd, Int.reduceSub, Int.reduceNeg, Int.reduceMul, dat_non, dat_int, dat_str, dat_bl, dat_tup, dat_lst, dats_nil, dats_cons, dats_ints, dats_bls, dats_strs, evE_cst, evE_glob, evE_op, evE_neg, evE_cmp, evE_cmp2, evE_land, evE_lor, evE_lnot, evE_ite, evE_tup, evE_lst, evE_lstC, evE_dictK, evE_idx, evE_slc, evE_isi, evE_call, evE_blt, evE_cell, evE_meth, evT_land, evT_lor, evT_lnot, evT_cmp, evT_cmp2, evT_isi, evT_call, evT_blt, evT_idx, evT_cst, evT_op, evS_par, evS_expr, evS_ret, evS_pass, evS_brk, evS_cnt, evS_raise, x_try, catch_ret, catch_nx, catch_exc, evEs_nil, evEs_cons, evTs_nil, evTs_one, evAnd_one, evOr_one, evTAnd_one, evTOr_one, evSs_nil, evAnd_cons, evOr_cons, evTAnd_cons, evTOr_cons, op_add, op_sub, op_mul, op_mod, op_fdiv, op_tadd, op_ladd, op_sadd, cmp_lt, cmp_le, cmp_gt, cmp_ge, cmp_eq, cmp_ne, cmp_is, cmp_isnt, cmp_in, cmp_notin, eq_int, eq_str, eq_bl, isNon_non, isNon_int, isNon_str, isNon_bl, isNon_tup, isNon_lst, isi_int, isi_bl, isi_str, isi_tup, isi_lst, isi_non, isTy, ix_tup, ix_lst, ix_ro, at0, at1, at2, at3, at4, at5, bl_len, len_tup, len_lst, len_ro, bl_tuple, tup_tup, tup_lst, bl_list, seq_tup, seq_lst, seq_ro, lstO_lst, lstO_ro, bl_int, bl_abs, bl_max2, bl_min2, bl_max1, bl_min1, bl_maxd, bl_mind, bl_sum, bl_all, bl_any, bl_s, tru_int, tru_bl, tru_tup, tru_lst, get_app, get_app0, set_app, set_app0, m_append, rc_append, ite_ok, List.any_cons, List.any_nil, List.getElem?_cons_zero, List.getElem?_cons_succ, List.set_cons_zero, List.set_cons_succ, List.length_cons, List.length_nil, List.length_append, List.length_map, List.append_assoc, List.cons_append, List.nil_append, Option.map_some, Option.bind_some, Option.map_none, Option.bind_none, intsOf_map, blsOf_map, Nat.reduceAdd, Nat.reduceLT, Nat.reduceLeDiff, Nat.add_zero, Nat.zero_add, if_true, if_false, ite_self, decide_eq_true_eq, Bool.not_true, Bool.not_false, Bool.or_false, Bool.or_true, Bool.true_or, Bool.false_or, Bool.and_true, Bool.true_and, Bool.false_and, Bool.and_false, decide_true, decide_false, reduceCtorEq, eq_self, not_true_eq_false, not_false_eq_true, Bool.false_eq_true, Int.cast_ofNat_Int, Int.natCast_add, slots_in_ok _ _ _ _ h.1 h.2, integer_in_ok, g34, g35, hn, hs, m, longest_in_ok, p1, p3, l]
/-! ### lines_left -/
def tl (s : Int) : Nat → Int → List Int
  | 0, _ => []
  | f + 1, l => if 0 < l then max 0 (l - s) :: tl s f (max 0 (l - s)) else []
theorem atI_last {α : Type} (xs : List α) (x : α) : atI (xs ++ [x]) (-1) = some x := by
  unfold atI ixN
  rw [if_neg (by omega), if_pos (by rw [List.length_append]; simp; omega)]
  simp only [Option.bind_some]
  rw [show (-1 + ((xs ++ [x]).length : Int)).toNat = xs.length by rw [List.length_append]; simp; omega]
  rw [List.getElem?_append_right (Nat.le_refl _)]
  simp
theorem left_loop {C : Ctx} {M : Mem} {x0 x1 x2 x3 : Option D} {s : Int} (hs : 0 < s) : ∀ (f : Nat) (acc : List Int) (l : Int), l.toNat < f → acc.length + 1 + f < line →
    evW (fun ρ M => evT C t335_1 ρ M) (fun ρ M => evSs C f335_1 ρ M) f [x0, x1, x2, x3, some (.int s), some (.loc M.length)] (M ++ [.lst ((acc ++ [l]).map D.int)]) = .nx [x0, x1, x2, x3, some (.int s), some (.loc M.length)] (M ++ [.lst ((acc ++ [l] ++ tl s f l).map D.int)])
  | 0, _, _, h, _ => by omega
  | f + 1, acc, l, h, hl => by
    have ln : ∀ acc : List Int, lenS (M ++ [.lst (acc.map D.int)]) (.loc M.length) = some (.int acc.length) := fun rs => by rw [len_loc _ _ (rs.map D.int) (by rw [get_app0]; rfl), List.length_map]
    have ix : idxS (M ++ [.lst ((acc ++ [l]).map D.int)]) (.loc M.length) (.int (-1)) = some (.int l) := by
      rw [ix_loc _ _ ((acc ++ [l]).map D.int) _ (by rw [get_app0]; rfl), List.map_append]
      exact atI_last (acc.map D.int) (D.int l)
    have hp2 : (0 : Int) < ((acc ++ [l]).length : Nat) := by rw [List.length_append]; simp
    have ht : evT C t335_1 [x0, x1, x2, x3, some (.int s), some (.loc M.length)] (M ++ [.lst ((acc ++ [l]).map D.int)]) = .ok (decide (0 < l)) (M ++ [.lst ((acc ++ [l]).map D.int)]) := by
      rw [t335_1]
      simp only [x_seq, seq_nx, seq_ret, seq_exc, seq_brk, seq_cnt, x_asg, x_asgt, asgT_name, asgT_tup, asgTs_nil, asgTs_cons, rsopt, x_ite, x_var, get_some, x_tvar, tru_some, x_setI, rsmem, bind_ok, bind_exc, toRS_ok, toRS_exc, opt_some, fin_keep, fin_nxk, fin_exc, fin_ret, fin_nx, leave_keep, leave_dat, leave_nil, leave_spot, leave_spot0, nn1, Int.reduceLT, Int.reduceLE, Int.reduceAdd, Int.reduceSub, Int.reduceNeg, Int.reduceMul, dat_non, dat_int, dat_str, dat_bl, dat_tup, dat_lst, dats_nil, dats_cons, dats_ints, dats_bls, dats_strs, evE_cst, evE_glob, evE_op, evE_neg, evE_cmp, evE_cmp2, evE_land, evE_lor, evE_lnot, evE_ite, evE_tup, evE_lst, evE_lstC, evE_dictK, evE_idx, evE_slc, evE_isi, evE_call, evE_blt, evE_cell, evE_meth, evT_land, evT_lor, evT_lnot, evT_cmp, evT_cmp2, evT_isi, evT_call, evT_blt, evT_idx, evT_cst, evT_op, evS_par, evS_expr, evS_ret, evS_pass, evS_brk, evS_cnt, evS_raise, x_try, catch_ret, catch_nx, catch_exc, evEs_nil, evEs_cons, evTs_nil, evTs_one, evAnd_one, evOr_one, evTAnd_one, evTOr_one, evSs_nil, evAnd_cons, evOr_cons, evTAnd_cons, evTOr_cons, op_add, op_sub, op_mul, op_mod, op_fdiv, op_tadd, op_ladd, op_sadd, cmp_lt, cmp_le, cmp_gt, cmp_ge, cmp_eq, cmp_ne, cmp_is, cmp_isnt, cmp_in, cmp_notin, eq_int, eq_str, eq_bl, isNon_non, isNon_int, isNon_str, isNon_bl, isNon_tup, isNon_lst, isi_int, isi_bl, isi_str, isi_tup, isi_lst, isi_non, isTy, ix_tup, ix_lst, ix_ro, at0, at1, at2, at3, at4, at5, bl_len, len_tup, len_lst, len_ro, bl_tuple, tup_tup, tup_lst, bl_list, seq_tup, seq_lst, seq_ro, lstO_lst, lstO_ro, bl_int, bl_abs, bl_max2, bl_min2, bl_max1, bl_min1, bl_maxd, bl_mind, bl_sum, bl_all, bl_any, bl_s, tru_int, tru_bl, tru_tup, tru_lst, get_app, get_app0, set_app, set_app0, m_append, rc_append, ite_ok, List.any_cons, List.any_nil, List.getElem?_cons_zero, List.getElem?_cons_succ, List.set_cons_zero, List.set_cons_succ, List.length_cons, List.length_nil, List.length_append, List.length_map, List.append_assoc, List.cons_append, List.nil_append, Option.map_some, Option.bind_some, Option.map_none, Option.bind_none, intsOf_map, blsOf_map, Nat.reduceAdd, Nat.reduceLT, Nat.reduceLeDiff, Nat.add_zero, Nat.zero_add, if_true, if_false, ite_self, decide_eq_true_eq, Bool.not_true, Bool.not_false, Bool.or_false, Bool.or_true, Bool.true_or, Bool.false_or, Bool.and_true, Bool.true_and, Bool.false_and, Bool.and_false, decide_true, decide_false, reduceCtorEq, eq_self, not_true_eq_false, not_false_eq_true, Bool.false_eq_true, Int.cast_ofNat_Int, Int.natCast_add, ln, ix, hp2, -List.length_append]
    rw [evW]
    by_cases hp : 0 < l
    · have hl2 : (acc ++ [l]).length < line := by rw [List.length_append]; simp; omega
      have e : evSs C f335_1 [x0, x1, x2, x3, some (.int s), some (.loc M.length)] (M ++ [.lst ((acc ++ [l]).map D.int)]) = .nx [x0, x1, x2, x3, some (.int s), some (.loc M.length)] (M ++ [.lst ((acc ++ [l] ++ [max 0 (l - s)]).map D.int)]) := by
        rw [f335_1]
        simp only [x_seq, seq_nx, seq_ret, seq_exc, seq_brk, seq_cnt, x_asg, x_asgt, asgT_name, asgT_tup, asgTs_nil, asgTs_cons, rsopt, x_ite, x_var, get_some, x_tvar, tru_some, x_setI, rsmem, bind_ok, bind_exc, toRS_ok, toRS_exc, opt_some, fin_keep, fin_nxk, fin_exc, fin_ret, fin_nx, leave_keep, leave_dat, leave_nil, leave_spot, leave_spot0, nn1, Int.reduceLT, Int.reduceLE, Int.reduceAdd, Int.reduceSub, Int.reduceNeg, Int.reduceMul, dat_non, dat_int, dat_str, dat_bl, dat_tup, dat_lst, dats_nil, dats_cons, dats_ints, dats_bls, dats_strs, evE_cst, evE_glob, evE_op, evE_neg, evE_cmp, evE_cmp2, evE_land, evE_lor, evE_lnot, evE_ite, evE_tup, evE_lst, evE_lstC, evE_dictK, evE_idx, evE_slc, evE_isi, evE_call, evE_blt, evE_cell, evE_meth, evT_land, evT_lor, evT_lnot, evT_cmp, evT_cmp2, evT_isi, evT_call, evT_blt, evT_idx, evT_cst, evT_op, evS_par, evS_expr, evS_ret, evS_pass, evS_brk, evS_cnt, evS_raise, x_try, catch_ret, catch_nx, catch_exc, evEs_nil, evEs_cons, evTs_nil, evTs_one, evAnd_one, evOr_one, evTAnd_one, evTOr_one, evSs_nil, evAnd_cons, evOr_cons, evTAnd_cons, evTOr_cons, op_add, op_sub, op_mul, op_mod, op_fdiv, op_tadd, op_ladd, op_sadd, cmp_lt, cmp_le, cmp_gt, cmp_ge, cmp_eq, cmp_ne, cmp_is, cmp_isnt, cmp_in, cmp_notin, eq_int, eq_str, eq_bl, isNon_non, isNon_int, isNon_str, isNon_bl, isNon_tup, isNon_lst, isi_int, isi_bl, isi_str, isi_tup, isi_lst, isi_non, isTy, ix_tup, ix_lst, ix_ro, at0, at1, at2, at3, at4, at5, bl_len, len_tup, len_lst, len_ro, bl_tuple, tup_tup, tup_lst, bl_list, seq_tup, seq_lst, seq_ro, lstO_lst, lstO_ro, bl_int, bl_abs, bl_max2, bl_min2, bl_max1, bl_min1, bl_maxd, bl_mind, bl_sum, bl_all, bl_any, bl_s, tru_int, tru_bl, tru_tup, tru_lst, get_app, get_app0, set_app, set_app0, m_append, rc_append, ite_ok, List.any_cons, List.any_nil, List.getElem?_cons_zero, List.getElem?_cons_succ, List.set_cons_zero, List.set_cons_succ, List.length_cons, List.length_nil, List.length_append, List.length_map, List.append_assoc, List.cons_append, List.nil_append, Option.map_some, Option.bind_some, Option.map_none, Option.bind_none, intsOf_map, blsOf_map, Nat.reduceAdd, Nat.reduceLT, Nat.reduceLeDiff, Nat.add_zero, Nat.zero_add, if_true, if_false, ite_self, decide_eq_true_eq, Bool.not_true, Bool.not_false, Bool.or_false, Bool.or_true, Bool.true_or, Bool.false_or, Bool.and_true, Bool.true_and, Bool.false_and, Bool.and_false, decide_true, decide_false, reduceCtorEq, eq_self, not_true_eq_false, not_false_eq_true, Bool.false_eq_true, Int.cast_ofNat_Int, Int.natCast_add, ix, rc1, append1 _ _ _ hl2, -rc_append, -m_append, -List.append_assoc]
      have ih := left_loop (C := C) (M := M) (x0 := x0) (x1 := x1) (x2 := x2) (x3 := x3) hs f (acc ++ [l]) (max 0 (l - s)) (by omega) (by rw [List.length_append]; simp; omega)
      simp only [ht, decide_eq_true hp, e]
      rw [ih, tl, if_pos hp]
      simp
    · simp only [ht, decide_eq_false hp]
      rw [tl, if_neg hp, List.append_nil]
theorem lines_left_ok (k : Nat) (ns pre : List Int) (l n s : Int) (h : Ok ns) (hn : 1 ≤ n ∧ n ≤ 30) (hs : 1 ≤ s ∧ s ≤ 30) (he : lin (n * s) 0 ns = pre ++ [l]) (hll : l ≤ 50000) (M : Mem) :
    callF T G (k + 5) 335 [.tup (ns.map D.int), .int n, .int s] M = .ok (.tup ((pre ++ [l] ++ tl (n * s) 100000 l).map D.int)) M := by
  have p1 : 0 < n * s := Int.mul_pos (by omega) (by omega)
  have m : mulOk n s := mulOk_l (a := n) (by constructor <;> omega) s
  have l0 : ns.length ≤ 1000 := by have := h.2; omega
  have hlen : pre.length + 1 ≤ 48 := by
    have q := lin_length (n * s) ns 0
    rw [he, List.length_append] at q
    simp at q
    have := h.2
    omega
  have q1 := lines_in_ok (k + 3) ns (n * s) M l0
  rw [he] at q1
  have hw : evS ⟨callF T G (k + 4), G⟩ l335_1 [some (.tup (ns.map D.int)), some (.int n), some (.int s), some (.tup (ns.map D.int)), some (.int (n * s)), some (.loc M.length)] (M ++ [.lst ((pre ++ [l]).map D.int)]) = .nx [some (.tup (ns.map D.int)), some (.int n), some (.int s), some (.tup (ns.map D.int)), some (.int (n * s)), some (.loc M.length)] (M ++ [.lst ((pre ++ [l] ++ tl (n * s) 100000 l).map D.int)]) := by
    rw [l335_1, evS_whl]
    exact left_loop p1 100000 pre l (by omega) (by show _ < 16777216; omega)
  have ht : tupS (M ++ [.lst ((pre ++ [l] ++ tl (n * s) 100000 l).map D.int)]) (.loc M.length) = some (.tup ((pre ++ [l] ++ tl (n * s) 100000 l).map D.int)) := tup_loc _ _ _ (by rw [get_app0]; rfl)
  rw [r335, b335]
  simp only [x_seq, seq_nx, seq_ret, seq_exc, seq_brk, seq_cnt, x_asg, x_asgt, asgT_name, asgT_tup, asgTs_nil, asgTs_cons, rsopt, x_ite, x_var, get_some, x_tvar, tru_some, x_setI, rsmem, bind_ok, bind_exc, toRS_ok, toRS_exc, opt_some, fin_keep, fin_nxk, fin_exc, fin_ret, fin_nx, leave_keep, leave_dat, leave_nil, leave_spot, leave_spot0, nn1, Int.reduceLT, Int.reduceLE, Int.reduceAdd, Int.reduceSub, Int.reduceNeg, Int.reduceMul, dat_non, dat_int, dat_str, dat_bl, dat_tup, dat_lst, dats_nil, dats_cons, dats_ints, dats_bls, dats_strs, evE_cst, evE_glob, evE_op, evE_neg, evE_cmp, evE_cmp2, evE_land, evE_lor, evE_lnot, evE_ite, evE_tup, evE_lst, evE_lstC, evE_dictK, evE_idx, evE_slc, evE_isi, evE_call, evE_blt, evE_cell, evE_meth, evT_land, evT_lor, evT_lnot, evT_cmp, evT_cmp2, evT_isi, evT_call, evT_blt, evT_idx, evT_cst, evT_op, evS_par, evS_expr, evS_ret, evS_pass, evS_brk, evS_cnt, evS_raise, x_try, catch_ret, catch_nx, catch_exc, evEs_nil, evEs_cons, evTs_nil, evTs_one, evAnd_one, evOr_one, evTAnd_one, evTOr_one, evSs_nil, evAnd_cons, evOr_cons, evTAnd_cons, evTOr_cons, op_add, op_sub, op_mul, op_mod, op_fdiv, op_tadd, op_ladd, op_sadd, cmp_lt, cmp_le, cmp_gt, cmp_ge, cmp_eq, cmp_ne, cmp_is, cmp_isnt, cmp_in, cmp_notin, eq_int, eq_str, eq_bl, isNon_non, isNon_int, isNon_str, isNon_bl, isNon_tup, isNon_lst, isi_int, isi_bl, isi_str, isi_tup, isi_lst, isi_non, isTy, ix_tup, ix_lst, ix_ro, at0, at1, at2, at3, at4, at5, bl_len, len_tup, len_lst, len_ro, bl_tuple, tup_tup, tup_lst, bl_list, seq_tup, seq_lst, seq_ro, lstO_lst, lstO_ro, bl_int, bl_abs, bl_max2, bl_min2, bl_max1, bl_min1, bl_maxd, bl_mind, bl_sum, bl_all, bl_any, bl_s, tru_int, tru_bl, tru_tup, tru_lst, get_app, get_app0, set_app, set_app0, m_append, rc_append, ite_ok, List.any_cons, List.any_nil, List.getElem?_cons_zero, List.getElem?_cons_succ, List.set_cons_zero, List.set_cons_succ, List.length_cons, List.length_nil, List.length_append, List.length_map, List.append_assoc, List.cons_append, List.nil_append, Option.map_some, Option.bind_some, Option.map_none, Option.bind_none, intsOf_map, blsOf_map, Nat.reduceAdd, Nat.reduceLT, Nat.reduceLeDiff, Nat.add_zero, Nat.zero_add, if_true, if_false, ite_self, decide_eq_true_eq, Bool.not_true, Bool.not_false, Bool.or_false, Bool.or_true, Bool.true_or, Bool.false_or, Bool.and_true, Bool.true_and, Bool.false_and, Bool.and_false, decide_true, decide_false, reduceCtorEq, eq_self, not_true_eq_false, not_false_eq_true, Bool.false_eq_true, Int.cast_ofNat_Int, Int.natCast_add, slots_in_ok _ _ _ _ h.1 h.2, integer_in_ok, g34, g35, hn, hs, m, q1, hw, ht, -List.append_assoc]
/-! ### fewest_desks -/
def L (e : Int) (ns : List Int) (m : Int) : Int := mxL (lon (m * e) ns (lin (m * e) 0 ns))
theorem fewest_desks_ok (k : Nat) (ns : List Int) (e w : Int) (M : Mem) (h : Ok ns) (he : 1 ≤ e ∧ e ≤ 30) (hw : 0 ≤ w ∧ w ≤ 10) :
    (∃ m, 1 ≤ m ∧ m < 31 ∧ L e ns m ≤ w ∧ (∀ j, 1 ≤ j → j < m → w < L e ns j) ∧ callF T G (k + 5) 337 [.tup (ns.map D.int), .int e, .int w] M = .ok (.int m) M) ∨
    ((∀ j, 1 ≤ j → j < 31 → w < L e ns j) ∧ callF T G (k + 5) 337 [.tup (ns.map D.int), .int e, .int w] M = .exc 0 [] M) := by
  have l0 : ns.length ≤ 1000 := by have := h.2; omega
  let E : Option Nat → Env := fun o => [some (.tup (ns.map D.int)), some (.int e), some (.int w), some (.tup (ns.map D.int)), some (.int e), some (.int w), o.map fun (j : Nat) => D.int (1 + (j : Int))]
  have key := for_find (b := asgT (.name 6)) (f := fun ρ M => evSs ⟨callF T G (k + 4), G⟩ f337_1 ρ M) (M := M) (fun j : Nat => D.int (1 + (j : Int))) E (fun j => decide (L e ns (1 + (j : Int)) ≤ w)) (fun j => .int (1 + (j : Int))) (List.range 30) none (fun o x _ => rfl) (fun x hx => by
    have hx2 : x < 30 := List.mem_range.mp hx
    have p1 : 0 < (1 + (x : Int)) * e := Int.mul_pos (by omega) (by omega)
    have p2 : (1 + (x : Int)) * e ≤ 31 * 30 := Int.mul_le_mul (by omega) he.2 (by omega) (by omega)
    have p3 : (1 + (x : Int)) * e < 1000000 := by omega
    have m : mulOk (1 + (x : Int)) e := mulOk_l (a := 1 + (x : Int)) (by constructor <;> omega) e
    show evSs _ f337_1 [some (.tup (ns.map D.int)), some (.int e), some (.int w), some (.tup (ns.map D.int)), some (.int e), some (.int w), some (.int (1 + (x : Int)))] M = _
    rw [f337_1]
    by_cases hc : L e ns (1 + (x : Int)) ≤ w
    · have hc2 := hc
      rw [L] at hc2
      simp only [x_seq, seq_nx, seq_ret, seq_exc, seq_brk, seq_cnt, x_asg, x_asgt, asgT_name, asgT_tup, asgTs_nil, asgTs_cons, rsopt, x_ite, x_var, get_some, x_tvar, tru_some, x_setI, rsmem, bind_ok, bind_exc, toRS_ok, toRS_exc, opt_some, fin_keep, fin_nxk, fin_exc, fin_ret, fin_nx, leave_keep, leave_dat, leave_nil, leave_spot, leave_spot0, nn1, Int.reduceLT, Int.reduceLE, Int.reduceAdd, Int.reduceSub, Int.reduceNeg, Int.reduceMul, dat_non, dat_int, dat_str, dat_bl, dat_tup, dat_lst, dats_nil, dats_cons, dats_ints, dats_bls, dats_strs, evE_cst, evE_glob, evE_op, evE_neg, evE_cmp, evE_cmp2, evE_land, evE_lor, evE_lnot, evE_ite, evE_tup, evE_lst, evE_lstC, evE_dictK, evE_idx, evE_slc, evE_isi, evE_call, evE_blt, evE_cell, evE_meth, evT_land, evT_lor, evT_lnot, evT_cmp, evT_cmp2, evT_isi, evT_call, evT_blt, evT_idx, evT_cst, evT_op, evS_par, evS_expr, evS_ret, evS_pass, evS_brk, evS_cnt, evS_raise, x_try, catch_ret, catch_nx, catch_exc, evEs_nil, evEs_cons, evTs_nil, evTs_one, evAnd_one, evOr_one, evTAnd_one, evTOr_one, evSs_nil, evAnd_cons, evOr_cons, evTAnd_cons, evTOr_cons, op_add, op_sub, op_mul, op_mod, op_fdiv, op_tadd, op_ladd, op_sadd, cmp_lt, cmp_le, cmp_gt, cmp_ge, cmp_eq, cmp_ne, cmp_is, cmp_isnt, cmp_in, cmp_notin, eq_int, eq_str, eq_bl, isNon_non, isNon_int, isNon_str, isNon_bl, isNon_tup, isNon_lst, isi_int, isi_bl, isi_str, isi_tup, isi_lst, isi_non, isTy, ix_tup, ix_lst, ix_ro, at0, at1, at2, at3, at4, at5, bl_len, len_tup, len_lst, len_ro, bl_tuple, tup_tup, tup_lst, bl_list, seq_tup, seq_lst, seq_ro, lstO_lst, lstO_ro, bl_int, bl_abs, bl_max2, bl_min2, bl_max1, bl_min1, bl_maxd, bl_mind, bl_sum, bl_all, bl_any, bl_s, tru_int, tru_bl, tru_tup, tru_lst, get_app, get_app0, set_app, set_app0, m_append, rc_append, ite_ok, List.any_cons, List.any_nil, List.getElem?_cons_zero, List.getElem?_cons_succ, List.set_cons_zero, List.set_cons_succ, List.length_cons, List.length_nil, List.length_append, List.length_map, List.append_assoc, List.cons_append, List.nil_append, Option.map_some, Option.bind_some, Option.map_none, Option.bind_none, intsOf_map, blsOf_map, Nat.reduceAdd, Nat.reduceLT, Nat.reduceLeDiff, Nat.add_zero, Nat.zero_add, if_true, if_false, ite_self, decide_eq_true_eq, Bool.not_true, Bool.not_false, Bool.or_false, Bool.or_true, Bool.true_or, Bool.false_or, Bool.and_true, Bool.true_and, Bool.false_and, Bool.and_false, decide_true, decide_false, reduceCtorEq, eq_self, not_true_eq_false, not_false_eq_true, Bool.false_eq_true, Int.cast_ofNat_Int, Int.natCast_add, m, longest_in_ok, l0, p1, p3, hc, hc2, E]
    · have hc2 := hc
      rw [L] at hc2
      simp only [x_seq, seq_nx, seq_ret, seq_exc, seq_brk, seq_cnt, x_asg, x_asgt, asgT_name, asgT_tup, asgTs_nil, asgTs_cons, rsopt, x_ite, x_var, get_some, x_tvar, tru_some, x_setI, rsmem, bind_ok, bind_exc, toRS_ok, toRS_exc, opt_some, fin_keep, fin_nxk, fin_exc, fin_ret, fin_nx, leave_keep, leave_dat, leave_nil, leave_spot, leave_spot0, nn1, Int.reduceLT, Int.reduceLE, Int.reduceAdd, Int.reduceSub, Int.reduceNeg, Int.reduceMul, dat_non, dat_int, dat_str, dat_bl, dat_tup, dat_lst, dats_nil, dats_cons, dats_ints, dats_bls, dats_strs, evE_cst, evE_glob, evE_op, evE_neg, evE_cmp, evE_cmp2, evE_land, evE_lor, evE_lnot, evE_ite, evE_tup, evE_lst, evE_lstC, evE_dictK, evE_idx, evE_slc, evE_isi, evE_call, evE_blt, evE_cell, evE_meth, evT_land, evT_lor, evT_lnot, evT_cmp, evT_cmp2, evT_isi, evT_call, evT_blt, evT_idx, evT_cst, evT_op, evS_par, evS_expr, evS_ret, evS_pass, evS_brk, evS_cnt, evS_raise, x_try, catch_ret, catch_nx, catch_exc, evEs_nil, evEs_cons, evTs_nil, evTs_one, evAnd_one, evOr_one, evTAnd_one, evTOr_one, evSs_nil, evAnd_cons, evOr_cons, evTAnd_cons, evTOr_cons, op_add, op_sub, op_mul, op_mod, op_fdiv, op_tadd, op_ladd, op_sadd, cmp_lt, cmp_le, cmp_gt, cmp_ge, cmp_eq, cmp_ne, cmp_is, cmp_isnt, cmp_in, cmp_notin, eq_int, eq_str, eq_bl, isNon_non, isNon_int, isNon_str, isNon_bl, isNon_tup, isNon_lst, isi_int, isi_bl, isi_str, isi_tup, isi_lst, isi_non, isTy, ix_tup, ix_lst, ix_ro, at0, at1, at2, at3, at4, at5, bl_len, len_tup, len_lst, len_ro, bl_tuple, tup_tup, tup_lst, bl_list, seq_tup, seq_lst, seq_ro, lstO_lst, lstO_ro, bl_int, bl_abs, bl_max2, bl_min2, bl_max1, bl_min1, bl_maxd, bl_mind, bl_sum, bl_all, bl_any, bl_s, tru_int, tru_bl, tru_tup, tru_lst, get_app, get_app0, set_app, set_app0, m_append, rc_append, ite_ok, List.any_cons, List.any_nil, List.getElem?_cons_zero, List.getElem?_cons_succ, List.set_cons_zero, List.set_cons_succ, List.length_cons, List.length_nil, List.length_append, List.length_map, List.append_assoc, List.cons_append, List.nil_append, Option.map_some, Option.bind_some, Option.map_none, Option.bind_none, intsOf_map, blsOf_map, Nat.reduceAdd, Nat.reduceLT, Nat.reduceLeDiff, Nat.add_zero, Nat.zero_add, if_true, if_false, ite_self, decide_eq_true_eq, Bool.not_true, Bool.not_false, Bool.or_false, Bool.or_true, Bool.true_or, Bool.false_or, Bool.and_true, Bool.true_and, Bool.false_and, Bool.and_false, decide_true, decide_false, reduceCtorEq, eq_self, not_true_eq_false, not_false_eq_true, Bool.false_eq_true, Int.cast_ofNat_Int, Int.natCast_add, m, longest_in_ok, l0, p1, p3, hc, hc2, E])
  have el : evS ⟨callF T G (k + 4), G⟩ l337_1 (E none) M = evF [] (asgT (.name 6)) (fun ρ M => evSs ⟨callF T G (k + 4), G⟩ f337_1 ρ M) ((List.range 30).map fun j : Nat => D.int (1 + (j : Int))) (E none) M := by
    rw [l337_1, for_rng2 (M1 := M) (M2 := M) 1 31 (by simp only [x_seq, seq_nx, seq_ret, seq_exc, seq_brk, seq_cnt, x_asg, x_asgt, asgT_name, asgT_tup, asgTs_nil, asgTs_cons, rsopt, x_ite, x_var, get_some, x_tvar, tru_some, x_setI, rsmem, bind_ok, bind_exc, toRS_ok, toRS_exc, opt_some, fin_keep, fin_nxk, fin_exc, fin_ret, fin_nx, leave_keep, leave_dat, leave_nil, leave_spot, leave_spot0, nn1, Int.reduceLT, Int.reduceLE, Int.reduceAdd, Int.reduceSub, Int.reduceNeg, Int.reduceMul, dat_non, dat_int, dat_str, dat_bl, dat_tup, dat_lst, dats_nil, dats_cons, dats_ints, dats_bls, dats_strs, evE_cst, evE_glob, evE_op, evE_neg, evE_cmp, evE_cmp2, evE_land, evE_lor, evE_lnot, evE_ite, evE_tup, evE_lst, evE_lstC, evE_dictK, evE_idx, evE_slc, evE_isi, evE_call, evE_blt, evE_cell, evE_meth, evT_land, evT_lor, evT_lnot, evT_cmp, evT_cmp2, evT_isi, evT_call, evT_blt, evT_idx, evT_cst, evT_op, evS_par, evS_expr, evS_ret, evS_pass, evS_brk, evS_cnt, evS_raise, x_try, catch_ret, catch_nx, catch_exc, evEs_nil, evEs_cons, evTs_nil, evTs_one, evAnd_one, evOr_one, evTAnd_one, evTOr_one, evSs_nil, evAnd_cons, evOr_cons, evTAnd_cons, evTOr_cons, op_add, op_sub, op_mul, op_mod, op_fdiv, op_tadd, op_ladd, op_sadd, cmp_lt, cmp_le, cmp_gt, cmp_ge, cmp_eq, cmp_ne, cmp_is, cmp_isnt, cmp_in, cmp_notin, eq_int, eq_str, eq_bl, isNon_non, isNon_int, isNon_str, isNon_bl, isNon_tup, isNon_lst, isi_int, isi_bl, isi_str, isi_tup, isi_lst, isi_non, isTy, ix_tup, ix_lst, ix_ro, at0, at1, at2, at3, at4, at5, bl_len, len_tup, len_lst, len_ro, bl_tuple, tup_tup, tup_lst, bl_list, seq_tup, seq_lst, seq_ro, lstO_lst, lstO_ro, bl_int, bl_abs, bl_max2, bl_min2, bl_max1, bl_min1, bl_maxd, bl_mind, bl_sum, bl_all, bl_any, bl_s, tru_int, tru_bl, tru_tup, tru_lst, get_app, get_app0, set_app, set_app0, m_append, rc_append, ite_ok, List.any_cons, List.any_nil, List.getElem?_cons_zero, List.getElem?_cons_succ, List.set_cons_zero, List.set_cons_succ, List.length_cons, List.length_nil, List.length_append, List.length_map, List.append_assoc, List.cons_append, List.nil_append, Option.map_some, Option.bind_some, Option.map_none, Option.bind_none, intsOf_map, blsOf_map, Nat.reduceAdd, Nat.reduceLT, Nat.reduceLeDiff, Nat.add_zero, Nat.zero_add, if_true, if_false, ite_self, decide_eq_true_eq, Bool.not_true, Bool.not_false, Bool.or_false, Bool.or_true, Bool.true_or, Bool.false_or, Bool.and_true, Bool.true_and, Bool.false_and, Bool.and_false, decide_true, decide_false, reduceCtorEq, eq_self, not_true_eq_false, not_false_eq_true, Bool.false_eq_true, Int.cast_ofNat_Int, Int.natCast_add]) (by simp only [x_seq, seq_nx, seq_ret, seq_exc, seq_brk, seq_cnt, x_asg, x_asgt, asgT_name, asgT_tup, asgTs_nil, asgTs_cons, rsopt, x_ite, x_var, get_some, x_tvar, tru_some, x_setI, rsmem, bind_ok, bind_exc, toRS_ok, toRS_exc, opt_some, fin_keep, fin_nxk, fin_exc, fin_ret, fin_nx, leave_keep, leave_dat, leave_nil, leave_spot, leave_spot0, nn1, Int.reduceLT, Int.reduceLE, Int.reduceAdd, Int.reduceSub, Int.reduceNeg, Int.reduceMul, dat_non, dat_int, dat_str, dat_bl, dat_tup, dat_lst, dats_nil, dats_cons, dats_ints, dats_bls, dats_strs, evE_cst, evE_glob, evE_op, evE_neg, evE_cmp, evE_cmp2, evE_land, evE_lor, evE_lnot, evE_ite, evE_tup, evE_lst, evE_lstC, evE_dictK, evE_idx, evE_slc, evE_isi, evE_call, evE_blt, evE_cell, evE_meth, evT_land, evT_lor, evT_lnot, evT_cmp, evT_cmp2, evT_isi, evT_call, evT_blt, evT_idx, evT_cst, evT_op, evS_par, evS_expr, evS_ret, evS_pass, evS_brk, evS_cnt, evS_raise, x_try, catch_ret, catch_nx, catch_exc, evEs_nil, evEs_cons, evTs_nil, evTs_one, evAnd_one, evOr_one, evTAnd_one, evTOr_one, evSs_nil, evAnd_cons, evOr_cons, evTAnd_cons, evTOr_cons, op_add, op_sub, op_mul, op_mod, op_fdiv, op_tadd, op_ladd, op_sadd, cmp_lt, cmp_le, cmp_gt, cmp_ge, cmp_eq, cmp_ne, cmp_is, cmp_isnt, cmp_in, cmp_notin, eq_int, eq_str, eq_bl, isNon_non, isNon_int, isNon_str, isNon_bl, isNon_tup, isNon_lst, isi_int, isi_bl, isi_str, isi_tup, isi_lst, isi_non, isTy, ix_tup, ix_lst, ix_ro, at0, at1, at2, at3, at4, at5, bl_len, len_tup, len_lst, len_ro, bl_tuple, tup_tup, tup_lst, bl_list, seq_tup, seq_lst, seq_ro, lstO_lst, lstO_ro, bl_int, bl_abs, bl_max2, bl_min2, bl_max1, bl_min1, bl_maxd, bl_mind, bl_sum, bl_all, bl_any, bl_s, tru_int, tru_bl, tru_tup, tru_lst, get_app, get_app0, set_app, set_app0, m_append, rc_append, ite_ok, List.any_cons, List.any_nil, List.getElem?_cons_zero, List.getElem?_cons_succ, List.set_cons_zero, List.set_cons_succ, List.length_cons, List.length_nil, List.length_append, List.length_map, List.append_assoc, List.cons_append, List.nil_append, Option.map_some, Option.bind_some, Option.map_none, Option.bind_none, intsOf_map, blsOf_map, Nat.reduceAdd, Nat.reduceLT, Nat.reduceLeDiff, Nat.add_zero, Nat.zero_add, if_true, if_false, ite_self, decide_eq_true_eq, Bool.not_true, Bool.not_false, Bool.or_false, Bool.or_true, Bool.true_or, Bool.false_or, Bool.and_true, Bool.true_and, Bool.false_and, Bool.and_false, decide_true, decide_false, reduceCtorEq, eq_self, not_true_eq_false, not_false_eq_true, Bool.false_eq_true, Int.cast_ofNat_Int, Int.natCast_add, g34]) (by decide) (by decide)]
    rfl
  have fr : ∀ (p : Nat → Bool) (n : Nat) {x : Nat}, (List.range n).find? p = some x → ∀ j, j < x → p j = false := by
    intro p n x hx j hj
    rw [List.find?_range_eq_some] at hx
    simpa using hx.2.2 j hj
  rcases key with ⟨x, hx, a1, a2, a3⟩ | ⟨a1, o, a2⟩
  · have hx2 : x < 30 := List.mem_range.mp hx
    refine .inl ⟨1 + (x : Int), by omega, by omega, of_decide_eq_true a2, fun j b1 b2 => ?_, ?_⟩
    · have q := of_decide_eq_false (fr _ _ a1 (j - 1).toNat (by omega))
      rw [show (1 : Int) + ((j - 1).toNat : Int) = j by omega] at q
      omega
    · rw [a3] at el
      simp only [E, Option.map_none] at el
      rw [r337, b337]
      simp only [x_seq, seq_nx, seq_ret, seq_exc, seq_brk, seq_cnt, x_asg, x_asgt, asgT_name, asgT_tup, asgTs_nil, asgTs_cons, rsopt, x_ite, x_var, get_some, x_tvar, tru_some, x_setI, rsmem, bind_ok, bind_exc, toRS_ok, toRS_exc, opt_some, fin_keep, fin_nxk, fin_exc, fin_ret, fin_nx, leave_keep, leave_dat, leave_nil, leave_spot, leave_spot0, nn1, Int.reduceLT, Int.reduceLE, Int.reduceAdd, Int.reduceSub, Int.reduceNeg, Int.reduceMul, dat_non, dat_int, dat_str, dat_bl, dat_tup, dat_lst, dats_nil, dats_cons, dats_ints, dats_bls, dats_strs, evE_cst, evE_glob, evE_op, evE_neg, evE_cmp, evE_cmp2, evE_land, evE_lor, evE_lnot, evE_ite, evE_tup, evE_lst, evE_lstC, evE_dictK, evE_idx, evE_slc, evE_isi, evE_call, evE_blt, evE_cell, evE_meth, evT_land, evT_lor, evT_lnot, evT_cmp, evT_cmp2, evT_isi, evT_call, evT_blt, evT_idx, evT_cst, evT_op, evS_par, evS_expr, evS_ret, evS_pass, evS_brk, evS_cnt, evS_raise, x_try, catch_ret, catch_nx, catch_exc, evEs_nil, evEs_cons, evTs_nil, evTs_one, evAnd_one, evOr_one, evTAnd_one, evTOr_one, evSs_nil, evAnd_cons, evOr_cons, evTAnd_cons, evTOr_cons, op_add, op_sub, op_mul, op_mod, op_fdiv, op_tadd, op_ladd, op_sadd, cmp_lt, cmp_le, cmp_gt, cmp_ge, cmp_eq, cmp_ne, cmp_is, cmp_isnt, cmp_in, cmp_notin, eq_int, eq_str, eq_bl, isNon_non, isNon_int, isNon_str, isNon_bl, isNon_tup, isNon_lst, isi_int, isi_bl, isi_str, isi_tup, isi_lst, isi_non, isTy, ix_tup, ix_lst, ix_ro, at0, at1, at2, at3, at4, at5, bl_len, len_tup, len_lst, len_ro, bl_tuple, tup_tup, tup_lst, bl_list, seq_tup, seq_lst, seq_ro, lstO_lst, lstO_ro, bl_int, bl_abs, bl_max2, bl_min2, bl_max1, bl_min1, bl_maxd, bl_mind, bl_sum, bl_all, bl_any, bl_s, tru_int, tru_bl, tru_tup, tru_lst, get_app, get_app0, set_app, set_app0, m_append, rc_append, ite_ok, List.any_cons, List.any_nil, List.getElem?_cons_zero, List.getElem?_cons_succ, List.set_cons_zero, List.set_cons_succ, List.length_cons, List.length_nil, List.length_append, List.length_map, List.append_assoc, List.cons_append, List.nil_append, Option.map_some, Option.bind_some, Option.map_none, Option.bind_none, intsOf_map, blsOf_map, Nat.reduceAdd, Nat.reduceLT, Nat.reduceLeDiff, Nat.add_zero, Nat.zero_add, if_true, if_false, ite_self, decide_eq_true_eq, Bool.not_true, Bool.not_false, Bool.or_false, Bool.or_true, Bool.true_or, Bool.false_or, Bool.and_true, Bool.true_and, Bool.false_and, Bool.and_false, decide_true, decide_false, reduceCtorEq, eq_self, not_true_eq_false, not_false_eq_true, Bool.false_eq_true, Int.cast_ofNat_Int, Int.natCast_add, slots_in_ok _ _ _ _ h.1 h.2, integer_in_ok, g35, g36, he, hw, el]
  · refine .inr ⟨fun j b1 b2 => ?_, ?_⟩
    · rw [List.find?_eq_none] at a1
      have q := a1 (j - 1).toNat (List.mem_range.mpr (by omega))
      rw [decide_eq_true_eq, show (1 : Int) + ((j - 1).toNat : Int) = j by omega] at q
      omega
    · rw [a2] at el
      simp only [E, Option.map_none] at el
      rw [r337, b337]
      simp only [x_seq, seq_nx, seq_ret, seq_exc, seq_brk, seq_cnt, x_asg, x_asgt, asgT_name, asgT_tup, asgTs_nil, asgTs_cons, rsopt, x_ite, x_var, get_some, x_tvar, tru_some, x_setI, rsmem, bind_ok, bind_exc, toRS_ok, toRS_exc, opt_some, fin_keep, fin_nxk, fin_exc, fin_ret, fin_nx, leave_keep, leave_dat, leave_nil, leave_spot, leave_spot0, nn1, Int.reduceLT, Int.reduceLE, Int.reduceAdd, Int.reduceSub, Int.reduceNeg, Int.reduceMul, dat_non, dat_int, dat_str, dat_bl, dat_tup, dat_lst, dats_nil, dats_cons, dats_ints, dats_bls, dats_strs, evE_cst, evE_glob, evE_op, evE_neg, evE_cmp, evE_cmp2, evE_land, evE_lor, evE_lnot, evE_ite, evE_tup, evE_lst, evE_lstC, evE_dictK, evE_idx, evE_slc, evE_isi, evE_call, evE_blt, evE_cell, evE_meth, evT_land, evT_lor, evT_lnot, evT_cmp, evT_cmp2, evT_isi, evT_call, evT_blt, evT_idx, evT_cst, evT_op, evS_par, evS_expr, evS_ret, evS_pass, evS_brk, evS_cnt, evS_raise, x_try, catch_ret, catch_nx, catch_exc, evEs_nil, evEs_cons, evTs_nil, evTs_one, evAnd_one, evOr_one, evTAnd_one, evTOr_one, evSs_nil, evAnd_cons, evOr_cons, evTAnd_cons, evTOr_cons, op_add, op_sub, op_mul, op_mod, op_fdiv, op_tadd, op_ladd, op_sadd, cmp_lt, cmp_le, cmp_gt, cmp_ge, cmp_eq, cmp_ne, cmp_is, cmp_isnt, cmp_in, cmp_notin, eq_int, eq_str, eq_bl, isNon_non, isNon_int, isNon_str, isNon_bl, isNon_tup, isNon_lst, isi_int, isi_bl, isi_str, isi_tup, isi_lst, isi_non, isTy, ix_tup, ix_lst, ix_ro, at0, at1, at2, at3, at4, at5, bl_len, len_tup, len_lst, len_ro, bl_tuple, tup_tup, tup_lst, bl_list, seq_tup, seq_lst, seq_ro, lstO_lst, lstO_ro, bl_int, bl_abs, bl_max2, bl_min2, bl_max1, bl_min1, bl_maxd, bl_mind, bl_sum, bl_all, bl_any, bl_s, tru_int, tru_bl, tru_tup, tru_lst, get_app, get_app0, set_app, set_app0, m_append, rc_append, ite_ok, List.any_cons, List.any_nil, List.getElem?_cons_zero, List.getElem?_cons_succ, List.set_cons_zero, List.set_cons_succ, List.length_cons, List.length_nil, List.length_append, List.length_map, List.append_assoc, List.cons_append, List.nil_append, Option.map_some, Option.bind_some, Option.map_none, Option.bind_none, intsOf_map, blsOf_map, Nat.reduceAdd, Nat.reduceLT, Nat.reduceLeDiff, Nat.add_zero, Nat.zero_add, if_true, if_false, ite_self, decide_eq_true_eq, Bool.not_true, Bool.not_false, Bool.or_false, Bool.or_true, Bool.true_or, Bool.false_or, Bool.and_true, Bool.true_and, Bool.false_and, Bool.and_false, decide_true, decide_false, reduceCtorEq, eq_self, not_true_eq_false, not_false_eq_true, Bool.false_eq_true, Int.cast_ofNat_Int, Int.natCast_add, slots_in_ok _ _ _ _ h.1 h.2, integer_in_ok, g35, g36, he, hw, el]
theorem told_ok (k : Nat) (ns : List Int) (e w : Int) (M : Mem) (h : Ok ns) (he : 1 ≤ e ∧ e ≤ 30) (hw : 0 ≤ w ∧ w ≤ 10) :
    (∃ m, 1 ≤ m ∧ m < 31 ∧ L e ns m ≤ w ∧ (∀ j, 1 ≤ j → j < m → w < L e ns j) ∧ callF T G (k + 6) 341 [.tup (ns.map D.int), .int e, .int w] M = .ok (.int m) M) ∨
    ((∀ j, 1 ≤ j → j < 31 → w < L e ns j) ∧ callF T G (k + 6) 341 [.tup (ns.map D.int), .int e, .int w] M = .ok .non M) := by
  rcases fewest_desks_ok k ns e w M h he hw with ⟨m, a1, a2, a3, a4, a5⟩ | ⟨a1, a2⟩
  · refine .inl ⟨m, a1, a2, a3, a4, ?_⟩
    rw [r341, b341]
    simp only [x_seq, seq_nx, seq_ret, seq_exc, seq_brk, seq_cnt, x_asg, x_asgt, asgT_name, asgT_tup, asgTs_nil, asgTs_cons, rsopt, x_ite, x_var, get_some, x_tvar, tru_some, x_setI, rsmem, bind_ok, bind_exc, toRS_ok, toRS_exc, opt_some, fin_keep, fin_nxk, fin_exc, fin_ret, fin_nx, leave_keep, leave_dat, leave_nil, leave_spot, leave_spot0, nn1, Int.reduceLT, Int.reduceLE, Int.reduceAdd, Int.reduceSub, Int.reduceNeg, Int.reduceMul, dat_non, dat_int, dat_str, dat_bl, dat_tup, dat_lst, dats_nil, dats_cons, dats_ints, dats_bls, dats_strs, evE_cst, evE_glob, evE_op, evE_neg, evE_cmp, evE_cmp2, evE_land, evE_lor, evE_lnot, evE_ite, evE_tup, evE_lst, evE_lstC, evE_dictK, evE_idx, evE_slc, evE_isi, evE_call, evE_blt, evE_cell, evE_meth, evT_land, evT_lor, evT_lnot, evT_cmp, evT_cmp2, evT_isi, evT_call, evT_blt, evT_idx, evT_cst, evT_op, evS_par, evS_expr, evS_ret, evS_pass, evS_brk, evS_cnt, evS_raise, x_try, catch_ret, catch_nx, catch_exc, evEs_nil, evEs_cons, evTs_nil, evTs_one, evAnd_one, evOr_one, evTAnd_one, evTOr_one, evSs_nil, evAnd_cons, evOr_cons, evTAnd_cons, evTOr_cons, op_add, op_sub, op_mul, op_mod, op_fdiv, op_tadd, op_ladd, op_sadd, cmp_lt, cmp_le, cmp_gt, cmp_ge, cmp_eq, cmp_ne, cmp_is, cmp_isnt, cmp_in, cmp_notin, eq_int, eq_str, eq_bl, isNon_non, isNon_int, isNon_str, isNon_bl, isNon_tup, isNon_lst, isi_int, isi_bl, isi_str, isi_tup, isi_lst, isi_non, isTy, ix_tup, ix_lst, ix_ro, at0, at1, at2, at3, at4, at5, bl_len, len_tup, len_lst, len_ro, bl_tuple, tup_tup, tup_lst, bl_list, seq_tup, seq_lst, seq_ro, lstO_lst, lstO_ro, bl_int, bl_abs, bl_max2, bl_min2, bl_max1, bl_min1, bl_maxd, bl_mind, bl_sum, bl_all, bl_any, bl_s, tru_int, tru_bl, tru_tup, tru_lst, get_app, get_app0, set_app, set_app0, m_append, rc_append, ite_ok, List.any_cons, List.any_nil, List.getElem?_cons_zero, List.getElem?_cons_succ, List.set_cons_zero, List.set_cons_succ, List.length_cons, List.length_nil, List.length_append, List.length_map, List.append_assoc, List.cons_append, List.nil_append, Option.map_some, Option.bind_some, Option.map_none, Option.bind_none, intsOf_map, blsOf_map, Nat.reduceAdd, Nat.reduceLT, Nat.reduceLeDiff, Nat.add_zero, Nat.zero_add, if_true, if_false, ite_self, decide_eq_true_eq, Bool.not_true, Bool.not_false, Bool.or_false, Bool.or_true, Bool.true_or, Bool.false_or, Bool.and_true, Bool.true_and, Bool.false_and, Bool.and_false, decide_true, decide_false, reduceCtorEq, eq_self, not_true_eq_false, not_false_eq_true, Bool.false_eq_true, Int.cast_ofNat_Int, Int.natCast_add, a5]
  · refine .inr ⟨a1, ?_⟩
    rw [r341, b341]
    simp only [x_seq, seq_nx, seq_ret, seq_exc, seq_brk, seq_cnt, x_asg, x_asgt, asgT_name, asgT_tup, asgTs_nil, asgTs_cons, rsopt, x_ite, x_var, get_some, x_tvar, tru_some, x_setI, rsmem, bind_ok, bind_exc, toRS_ok, toRS_exc, opt_some, fin_keep, fin_nxk, fin_exc, fin_ret, fin_nx, leave_keep, leave_dat, leave_nil, leave_spot, leave_spot0, nn1, Int.reduceLT, Int.reduceLE, Int.reduceAdd, Int.reduceSub, Int.reduceNeg, Int.reduceMul, dat_non, dat_int, dat_str, dat_bl, dat_tup, dat_lst, dats_nil, dats_cons, dats_ints, dats_bls, dats_strs, evE_cst, evE_glob, evE_op, evE_neg, evE_cmp, evE_cmp2, evE_land, evE_lor, evE_lnot, evE_ite, evE_tup, evE_lst, evE_lstC, evE_dictK, evE_idx, evE_slc, evE_isi, evE_call, evE_blt, evE_cell, evE_meth, evT_land, evT_lor, evT_lnot, evT_cmp, evT_cmp2, evT_isi, evT_call, evT_blt, evT_idx, evT_cst, evT_op, evS_par, evS_expr, evS_ret, evS_pass, evS_brk, evS_cnt, evS_raise, x_try, catch_ret, catch_nx, catch_exc, evEs_nil, evEs_cons, evTs_nil, evTs_one, evAnd_one, evOr_one, evTAnd_one, evTOr_one, evSs_nil, evAnd_cons, evOr_cons, evTAnd_cons, evTOr_cons, op_add, op_sub, op_mul, op_mod, op_fdiv, op_tadd, op_ladd, op_sadd, cmp_lt, cmp_le, cmp_gt, cmp_ge, cmp_eq, cmp_ne, cmp_is, cmp_isnt, cmp_in, cmp_notin, eq_int, eq_str, eq_bl, isNon_non, isNon_int, isNon_str, isNon_bl, isNon_tup, isNon_lst, isi_int, isi_bl, isi_str, isi_tup, isi_lst, isi_non, isTy, ix_tup, ix_lst, ix_ro, at0, at1, at2, at3, at4, at5, bl_len, len_tup, len_lst, len_ro, bl_tuple, tup_tup, tup_lst, bl_list, seq_tup, seq_lst, seq_ro, lstO_lst, lstO_ro, bl_int, bl_abs, bl_max2, bl_min2, bl_max1, bl_min1, bl_maxd, bl_mind, bl_sum, bl_all, bl_any, bl_s, tru_int, tru_bl, tru_tup, tru_lst, get_app, get_app0, set_app, set_app0, m_append, rc_append, ite_ok, List.any_cons, List.any_nil, List.getElem?_cons_zero, List.getElem?_cons_succ, List.set_cons_zero, List.set_cons_succ, List.length_cons, List.length_nil, List.length_append, List.length_map, List.append_assoc, List.cons_append, List.nil_append, Option.map_some, Option.bind_some, Option.map_none, Option.bind_none, intsOf_map, blsOf_map, Nat.reduceAdd, Nat.reduceLT, Nat.reduceLeDiff, Nat.add_zero, Nat.zero_add, if_true, if_false, ite_self, decide_eq_true_eq, Bool.not_true, Bool.not_false, Bool.or_false, Bool.or_true, Bool.true_or, Bool.false_or, Bool.and_true, Bool.true_and, Bool.false_and, Bool.and_false, decide_true, decide_false, reduceCtorEq, eq_self, not_true_eq_false, not_false_eq_true, Bool.false_eq_true, Int.cast_ofNat_Int, Int.natCast_add, a2]
theorem opened_ok (k : Nat) (ns : List Int) (e : Int) (M : Mem) (h : Ok ns) (he : 1 ≤ e ∧ e ≤ 30) (hm : ∀ i ∈ ns, up i e ≤ 30) :
    callF T G (k + 5) 338 [.tup (ns.map D.int), .int e] M = .ok (.tup ((ns.map fun i => max 1 (up i e)).map D.int)) M := by
  have l0 : ns.length ≤ line := Nat.le_trans h.2 (by decide)
  have e1 : 0 < e := by omega
  have e2 : e < 1000000 := by omega
  have c1 : ∀ x0 x1 : Option D, evE ⟨callF T G (k + 4), G⟩ c338_1 [x0, x1, some (.tup (ns.map D.int)), some (.int e), none, none] M = .ok (.lst ((ns.map fun i => max 1 (up i e)).map D.int)) M := by
    intro x0 x1
    rw [c338_1, comp_tup ns D.int (fun i => some (D.int (max 1 (up i e)))) (M1 := M) (by simp only [x_seq, seq_nx, seq_ret, seq_exc, seq_brk, seq_cnt, x_asg, x_asgt, asgT_name, asgT_tup, asgTs_nil, asgTs_cons, rsopt, x_ite, x_var, get_some, x_tvar, tru_some, x_setI, rsmem, bind_ok, bind_exc, toRS_ok, toRS_exc, opt_some, fin_keep, fin_nxk, fin_exc, fin_ret, fin_nx, leave_keep, leave_dat, leave_nil, leave_spot, leave_spot0, nn1, Int.reduceLT, Int.reduceLE, Int.reduceAdd, Int.reduceSub, Int.reduceNeg, Int.reduceMul, dat_non, dat_int, dat_str, dat_bl, dat_tup, dat_lst, dats_nil, dats_cons, dats_ints, dats_bls, dats_strs, evE_cst, evE_glob, evE_op, evE_neg, evE_cmp, evE_cmp2, evE_land, evE_lor, evE_lnot, evE_ite, evE_tup, evE_lst, evE_lstC, evE_dictK, evE_idx, evE_slc, evE_isi, evE_call, evE_blt, evE_cell, evE_meth, evT_land, evT_lor, evT_lnot, evT_cmp, evT_cmp2, evT_isi, evT_call, evT_blt, evT_idx, evT_cst, evT_op, evS_par, evS_expr, evS_ret, evS_pass, evS_brk, evS_cnt, evS_raise, x_try, catch_ret, catch_nx, catch_exc, evEs_nil, evEs_cons, evTs_nil, evTs_one, evAnd_one, evOr_one, evTAnd_one, evTOr_one, evSs_nil, evAnd_cons, evOr_cons, evTAnd_cons, evTOr_cons, op_add, op_sub, op_mul, op_mod, op_fdiv, op_tadd, op_ladd, op_sadd, cmp_lt, cmp_le, cmp_gt, cmp_ge, cmp_eq, cmp_ne, cmp_is, cmp_isnt, cmp_in, cmp_notin, eq_int, eq_str, eq_bl, isNon_non, isNon_int, isNon_str, isNon_bl, isNon_tup, isNon_lst, isi_int, isi_bl, isi_str, isi_tup, isi_lst, isi_non, isTy, ix_tup, ix_lst, ix_ro, at0, at1, at2, at3, at4, at5, bl_len, len_tup, len_lst, len_ro, bl_tuple, tup_tup, tup_lst, bl_list, seq_tup, seq_lst, seq_ro, lstO_lst, lstO_ro, bl_int, bl_abs, bl_max2, bl_min2, bl_max1, bl_min1, bl_maxd, bl_mind, bl_sum, bl_all, bl_any, bl_s, tru_int, tru_bl, tru_tup, tru_lst, get_app, get_app0, set_app, set_app0, m_append, rc_append, ite_ok, List.any_cons, List.any_nil, List.getElem?_cons_zero, List.getElem?_cons_succ, List.set_cons_zero, List.set_cons_succ, List.length_cons, List.length_nil, List.length_append, List.length_map, List.append_assoc, List.cons_append, List.nil_append, Option.map_some, Option.bind_some, Option.map_none, Option.bind_none, intsOf_map, blsOf_map, Nat.reduceAdd, Nat.reduceLT, Nat.reduceLeDiff, Nat.add_zero, Nat.zero_add, if_true, if_false, ite_self, decide_eq_true_eq, Bool.not_true, Bool.not_false, Bool.or_false, Bool.or_true, Bool.true_or, Bool.false_or, Bool.and_true, Bool.true_and, Bool.false_and, Bool.and_false, decide_true, decide_false, reduceCtorEq, eq_self, not_true_eq_false, not_false_eq_true, Bool.false_eq_true, Int.cast_ofNat_Int, Int.natCast_add]) l0 ?_, filterMap_some, List.map_map]
    · rfl
    · intro x hx
      exact ⟨_, rfl, by simp only [x_seq, seq_nx, seq_ret, seq_exc, seq_brk, seq_cnt, x_asg, x_asgt, asgT_name, asgT_tup, asgTs_nil, asgTs_cons, rsopt, x_ite, x_var, get_some, x_tvar, tru_some, x_setI, rsmem, bind_ok, bind_exc, toRS_ok, toRS_exc, opt_some, fin_keep, fin_nxk, fin_exc, fin_ret, fin_nx, leave_keep, leave_dat, leave_nil, leave_spot, leave_spot0, nn1, Int.reduceLT, Int.reduceLE, Int.reduceAdd, Int.reduceSub, Int.reduceNeg, Int.reduceMul, dat_non, dat_int, dat_str, dat_bl, dat_tup, dat_lst, dats_nil, dats_cons, dats_ints, dats_bls, dats_strs, evE_cst, evE_glob, evE_op, evE_neg, evE_cmp, evE_cmp2, evE_land, evE_lor, evE_lnot, evE_ite, evE_tup, evE_lst, evE_lstC, evE_dictK, evE_idx, evE_slc, evE_isi, evE_call, evE_blt, evE_cell, evE_meth, evT_land, evT_lor, evT_lnot, evT_cmp, evT_cmp2, evT_isi, evT_call, evT_blt, evT_idx, evT_cst, evT_op, evS_par, evS_expr, evS_ret, evS_pass, evS_brk, evS_cnt, evS_raise, x_try, catch_ret, catch_nx, catch_exc, evEs_nil, evEs_cons, evTs_nil, evTs_one, evAnd_one, evOr_one, evTAnd_one, evTOr_one, evSs_nil, evAnd_cons, evOr_cons, evTAnd_cons, evTOr_cons, op_add, op_sub, op_mul, op_mod, op_fdiv, op_tadd, op_ladd, op_sadd, cmp_lt, cmp_le, cmp_gt, cmp_ge, cmp_eq, cmp_ne, cmp_is, cmp_isnt, cmp_in, cmp_notin, eq_int, eq_str, eq_bl, isNon_non, isNon_int, isNon_str, isNon_bl, isNon_tup, isNon_lst, isi_int, isi_bl, isi_str, isi_tup, isi_lst, isi_non, isTy, ix_tup, ix_lst, ix_ro, at0, at1, at2, at3, at4, at5, bl_len, len_tup, len_lst, len_ro, bl_tuple, tup_tup, tup_lst, bl_list, seq_tup, seq_lst, seq_ro, lstO_lst, lstO_ro, bl_int, bl_abs, bl_max2, bl_min2, bl_max1, bl_min1, bl_maxd, bl_mind, bl_sum, bl_all, bl_any, bl_s, tru_int, tru_bl, tru_tup, tru_lst, get_app, get_app0, set_app, set_app0, m_append, rc_append, ite_ok, List.any_cons, List.any_nil, List.getElem?_cons_zero, List.getElem?_cons_succ, List.set_cons_zero, List.set_cons_succ, List.length_cons, List.length_nil, List.length_append, List.length_map, List.append_assoc, List.cons_append, List.nil_append, Option.map_some, Option.bind_some, Option.map_none, Option.bind_none, intsOf_map, blsOf_map, Nat.reduceAdd, Nat.reduceLT, Nat.reduceLeDiff, Nat.add_zero, Nat.zero_add, if_true, if_false, ite_self, decide_eq_true_eq, Bool.not_true, Bool.not_false, Bool.or_false, Bool.or_true, Bool.true_or, Bool.false_or, Bool.and_true, Bool.true_and, Bool.false_and, Bool.and_false, decide_true, decide_false, reduceCtorEq, eq_self, not_true_eq_false, not_false_eq_true, Bool.false_eq_true, Int.cast_ofNat_Int, Int.natCast_add, wipeD, rounded_up_ok _ _ _ _ e1 e2]⟩
  have c2 : ∀ x0 x1 x2 x3 : Option D, evE ⟨callF T G (k + 4), G⟩ c338_2 [x0, x1, x2, x3, some (.lst ((ns.map fun i => max 1 (up i e)).map D.int)), none] M = .ok (.lst ((ns.map fun i => false).map D.bl)) M := by
    intro x0 x1 x2 x3
    rw [c338_2, comp_lst (ns.map fun i => max 1 (up i e)) D.int (fun i => some (D.bl false)) (M1 := M) (by simp only [x_seq, seq_nx, seq_ret, seq_exc, seq_brk, seq_cnt, x_asg, x_asgt, asgT_name, asgT_tup, asgTs_nil, asgTs_cons, rsopt, x_ite, x_var, get_some, x_tvar, tru_some, x_setI, rsmem, bind_ok, bind_exc, toRS_ok, toRS_exc, opt_some, fin_keep, fin_nxk, fin_exc, fin_ret, fin_nx, leave_keep, leave_dat, leave_nil, leave_spot, leave_spot0, nn1, Int.reduceLT, Int.reduceLE, Int.reduceAdd, Int.reduceSub, Int.reduceNeg, Int.reduceMul, dat_non, dat_int, dat_str, dat_bl, dat_tup, dat_lst, dats_nil, dats_cons, dats_ints, dats_bls, dats_strs, evE_cst, evE_glob, evE_op, evE_neg, evE_cmp, evE_cmp2, evE_land, evE_lor, evE_lnot, evE_ite, evE_tup, evE_lst, evE_lstC, evE_dictK, evE_idx, evE_slc, evE_isi, evE_call, evE_blt, evE_cell, evE_meth, evT_land, evT_lor, evT_lnot, evT_cmp, evT_cmp2, evT_isi, evT_call, evT_blt, evT_idx, evT_cst, evT_op, evS_par, evS_expr, evS_ret, evS_pass, evS_brk, evS_cnt, evS_raise, x_try, catch_ret, catch_nx, catch_exc, evEs_nil, evEs_cons, evTs_nil, evTs_one, evAnd_one, evOr_one, evTAnd_one, evTOr_one, evSs_nil, evAnd_cons, evOr_cons, evTAnd_cons, evTOr_cons, op_add, op_sub, op_mul, op_mod, op_fdiv, op_tadd, op_ladd, op_sadd, cmp_lt, cmp_le, cmp_gt, cmp_ge, cmp_eq, cmp_ne, cmp_is, cmp_isnt, cmp_in, cmp_notin, eq_int, eq_str, eq_bl, isNon_non, isNon_int, isNon_str, isNon_bl, isNon_tup, isNon_lst, isi_int, isi_bl, isi_str, isi_tup, isi_lst, isi_non, isTy, ix_tup, ix_lst, ix_ro, at0, at1, at2, at3, at4, at5, bl_len, len_tup, len_lst, len_ro, bl_tuple, tup_tup, tup_lst, bl_list, seq_tup, seq_lst, seq_ro, lstO_lst, lstO_ro, bl_int, bl_abs, bl_max2, bl_min2, bl_max1, bl_min1, bl_maxd, bl_mind, bl_sum, bl_all, bl_any, bl_s, tru_int, tru_bl, tru_tup, tru_lst, get_app, get_app0, set_app, set_app0, m_append, rc_append, ite_ok, List.any_cons, List.any_nil, List.getElem?_cons_zero, List.getElem?_cons_succ, List.set_cons_zero, List.set_cons_succ, List.length_cons, List.length_nil, List.length_append, List.length_map, List.append_assoc, List.cons_append, List.nil_append, Option.map_some, Option.bind_some, Option.map_none, Option.bind_none, intsOf_map, blsOf_map, Nat.reduceAdd, Nat.reduceLT, Nat.reduceLeDiff, Nat.add_zero, Nat.zero_add, if_true, if_false, ite_self, decide_eq_true_eq, Bool.not_true, Bool.not_false, Bool.or_false, Bool.or_true, Bool.true_or, Bool.false_or, Bool.and_true, Bool.true_and, Bool.false_and, Bool.and_false, decide_true, decide_false, reduceCtorEq, eq_self, not_true_eq_false, not_false_eq_true, Bool.false_eq_true, Int.cast_ofNat_Int, Int.natCast_add]) (by rw [List.length_map]; exact l0) ?_, filterMap_some, List.map_map, List.map_map]
    · rfl
    · intro x hx
      obtain ⟨i, hi, rfl⟩ := List.mem_map.mp hx
      have n1 : ¬ 30 < max 1 (up i e) := by have := hm i hi; omega
      exact ⟨_, rfl, by simp only [x_seq, seq_nx, seq_ret, seq_exc, seq_brk, seq_cnt, x_asg, x_asgt, asgT_name, asgT_tup, asgTs_nil, asgTs_cons, rsopt, x_ite, x_var, get_some, x_tvar, tru_some, x_setI, rsmem, bind_ok, bind_exc, toRS_ok, toRS_exc, opt_some, fin_keep, fin_nxk, fin_exc, fin_ret, fin_nx, leave_keep, leave_dat, leave_nil, leave_spot, leave_spot0, nn1, Int.reduceLT, Int.reduceLE, Int.reduceAdd, Int.reduceSub, Int.reduceNeg, Int.reduceMul, dat_non, dat_int, dat_str, dat_bl, dat_tup, dat_lst, dats_nil, dats_cons, dats_ints, dats_bls, dats_strs, evE_cst, evE_glob, evE_op, evE_neg, evE_cmp, evE_cmp2, evE_land, evE_lor, evE_lnot, evE_ite, evE_tup, evE_lst, evE_lstC, evE_dictK, evE_idx, evE_slc, evE_isi, evE_call, evE_blt, evE_cell, evE_meth, evT_land, evT_lor, evT_lnot, evT_cmp, evT_cmp2, evT_isi, evT_call, evT_blt, evT_idx, evT_cst, evT_op, evS_par, evS_expr, evS_ret, evS_pass, evS_brk, evS_cnt, evS_raise, x_try, catch_ret, catch_nx, catch_exc, evEs_nil, evEs_cons, evTs_nil, evTs_one, evAnd_one, evOr_one, evTAnd_one, evTOr_one, evSs_nil, evAnd_cons, evOr_cons, evTAnd_cons, evTOr_cons, op_add, op_sub, op_mul, op_mod, op_fdiv, op_tadd, op_ladd, op_sadd, cmp_lt, cmp_le, cmp_gt, cmp_ge, cmp_eq, cmp_ne, cmp_is, cmp_isnt, cmp_in, cmp_notin, eq_int, eq_str, eq_bl, isNon_non, isNon_int, isNon_str, isNon_bl, isNon_tup, isNon_lst, isi_int, isi_bl, isi_str, isi_tup, isi_lst, isi_non, isTy, ix_tup, ix_lst, ix_ro, at0, at1, at2, at3, at4, at5, bl_len, len_tup, len_lst, len_ro, bl_tuple, tup_tup, tup_lst, bl_list, seq_tup, seq_lst, seq_ro, lstO_lst, lstO_ro, bl_int, bl_abs, bl_max2, bl_min2, bl_max1, bl_min1, bl_maxd, bl_mind, bl_sum, bl_all, bl_any, bl_s, tru_int, tru_bl, tru_tup, tru_lst, get_app, get_app0, set_app, set_app0, m_append, rc_append, ite_ok, List.any_cons, List.any_nil, List.getElem?_cons_zero, List.getElem?_cons_succ, List.set_cons_zero, List.set_cons_succ, List.length_cons, List.length_nil, List.length_append, List.length_map, List.append_assoc, List.cons_append, List.nil_append, Option.map_some, Option.bind_some, Option.map_none, Option.bind_none, intsOf_map, blsOf_map, Nat.reduceAdd, Nat.reduceLT, Nat.reduceLeDiff, Nat.add_zero, Nat.zero_add, if_true, if_false, ite_self, decide_eq_true_eq, Bool.not_true, Bool.not_false, Bool.or_false, Bool.or_true, Bool.true_or, Bool.false_or, Bool.and_true, Bool.true_and, Bool.false_and, Bool.and_false, decide_true, decide_false, reduceCtorEq, eq_self, not_true_eq_false, not_false_eq_true, Bool.false_eq_true, Int.cast_ofNat_Int, Int.natCast_add, wipeD, g34, n1]⟩
  have ha : (ns.map fun _ => false).any id = false := by simp
  rw [r338, b338]
  simp only [x_seq, seq_nx, seq_ret, seq_exc, seq_brk, seq_cnt, x_asg, x_asgt, asgT_name, asgT_tup, asgTs_nil, asgTs_cons, rsopt, x_ite, x_var, get_some, x_tvar, tru_some, x_setI, rsmem, bind_ok, bind_exc, toRS_ok, toRS_exc, opt_some, fin_keep, fin_nxk, fin_exc, fin_ret, fin_nx, leave_keep, leave_dat, leave_nil, leave_spot, leave_spot0, nn1, Int.reduceLT, Int.reduceLE, Int.reduceAdd, Int.reduceSub, Int.reduceNeg, Int.reduceMul, dat_non, dat_int, dat_str, dat_bl, dat_tup, dat_lst, dats_nil, dats_cons, dats_ints, dats_bls, dats_strs, evE_cst, evE_glob, evE_op, evE_neg, evE_cmp, evE_cmp2, evE_land, evE_lor, evE_lnot, evE_ite, evE_tup, evE_lst, evE_lstC, evE_dictK, evE_idx, evE_slc, evE_isi, evE_call, evE_blt, evE_cell, evE_meth, evT_land, evT_lor, evT_lnot, evT_cmp, evT_cmp2, evT_isi, evT_call, evT_blt, evT_idx, evT_cst, evT_op, evS_par, evS_expr, evS_ret, evS_pass, evS_brk, evS_cnt, evS_raise, x_try, catch_ret, catch_nx, catch_exc, evEs_nil, evEs_cons, evTs_nil, evTs_one, evAnd_one, evOr_one, evTAnd_one, evTOr_one, evSs_nil, evAnd_cons, evOr_cons, evTAnd_cons, evTOr_cons, op_add, op_sub, op_mul, op_mod, op_fdiv, op_tadd, op_ladd, op_sadd, cmp_lt, cmp_le, cmp_gt, cmp_ge, cmp_eq, cmp_ne, cmp_is, cmp_isnt, cmp_in, cmp_notin, eq_int, eq_str, eq_bl, isNon_non, isNon_int, isNon_str, isNon_bl, isNon_tup, isNon_lst, isi_int, isi_bl, isi_str, isi_tup, isi_lst, isi_non, isTy, ix_tup, ix_lst, ix_ro, at0, at1, at2, at3, at4, at5, bl_len, len_tup, len_lst, len_ro, bl_tuple, tup_tup, tup_lst, bl_list, seq_tup, seq_lst, seq_ro, lstO_lst, lstO_ro, bl_int, bl_abs, bl_max2, bl_min2, bl_max1, bl_min1, bl_maxd, bl_mind, bl_sum, bl_all, bl_any, bl_s, tru_int, tru_bl, tru_tup, tru_lst, get_app, get_app0, set_app, set_app0, m_append, rc_append, ite_ok, List.any_cons, List.any_nil, List.getElem?_cons_zero, List.getElem?_cons_succ, List.set_cons_zero, List.set_cons_succ, List.length_cons, List.length_nil, List.length_append, List.length_map, List.append_assoc, List.cons_append, List.nil_append, Option.map_some, Option.bind_some, Option.map_none, Option.bind_none, intsOf_map, blsOf_map, Nat.reduceAdd, Nat.reduceLT, Nat.reduceLeDiff, Nat.add_zero, Nat.zero_add, if_true, if_false, ite_self, decide_eq_true_eq, Bool.not_true, Bool.not_false, Bool.or_false, Bool.or_true, Bool.true_or, Bool.false_or, Bool.and_true, Bool.true_and, Bool.false_and, Bool.and_false, decide_true, decide_false, reduceCtorEq, eq_self, not_true_eq_false, not_false_eq_true, Bool.false_eq_true, Int.cast_ofNat_Int, Int.natCast_add, slots_in_ok _ _ _ _ h.1 h.2, integer_in_ok, g35, he, c1, c2, ha]
/-! ### the plain law -/
def Wf (s : Int) (w : Int) (ns : List Int) : Nat → Int
  | 0 => max 0 (w + ns.getD 0 0 - s)
  | k + 1 => max 0 (Wf s w ns k + ns.getD (k + 1) 0 - s)
theorem Wf_cons (s w m : Int) (ms : List Int) : ∀ k, Wf s w (m :: ms) (k + 1) = Wf s (max 0 (w + m - s)) ms k
  | 0 => by simp [Wf]
  | k + 1 => by rw [Wf, Wf_cons s w m ms k, Wf]; simp
theorem lin_at (s : Int) : ∀ (ns : List Int) (w : Int) (k : Nat), k < ns.length → (lin s w ns)[k]? = some (Wf s w ns k)
  | [], _, _, h => by simp at h
  | m :: ms, w, 0, _ => by simp [lin, Wf]
  | m :: ms, w, k + 1, h => by
    rw [Wf_cons, lin, List.getElem?_cons_succ]
    exact lin_at s ms _ k (by simpa using h)
theorem Wf_nn (s w : Int) (ns : List Int) : ∀ k, 0 ≤ Wf s w ns k
  | 0 => by rw [Wf]; omega
  | k + 1 => by rw [Wf]; omega
theorem Wf_le (s w : Int) (ns : List Int) (hs : 0 < s) (h : ∀ i ∈ ns, 0 ≤ i ∧ i ≤ 500) : ∀ k : Nat, Wf s w ns k ≤ max 0 w + 500 * (k + 1)
  | 0 => by
    have : ns.getD 0 0 ≤ 500 := by
      cases ns with
      | nil => simp
      | cons x xs => have := h x (by simp); simpa using this.2
    rw [Wf]; omega
  | k + 1 => by
    have q : ns.getD (k + 1) 0 ≤ 500 := by
      by_cases hk : k + 1 < ns.length
      · rw [List.getD_eq_getElem?_getD, List.getElem?_eq_getElem hk]
        exact (h _ (List.getElem_mem hk)).2
      · rw [List.getD_eq_getElem?_getD, List.getElem?_eq_none (by omega)]
        simp
    have := Wf_le s w ns hs h k
    rw [Wf]
    omega
theorem Wf_mono (s s' : Int) (ns : List Int) (h : s ≤ s') : ∀ (k : Nat), Wf s' 0 ns k ≤ Wf s 0 ns k
  | 0 => by rw [Wf, Wf]; omega
  | k + 1 => by have := Wf_mono s s' ns h k; rw [Wf, Wf]; omega
/-- behind the slots -/
theorem tl_at (s : Int) (ns : List Int) (hs : 0 < s) : ∀ (f i : Nat), ns.length ≤ i + 1 → (Wf s 0 ns i).toNat < f → ∃ N, i ≤ N ∧ (tl s f (Wf s 0 ns i)).length = N - i ∧ (∀ k, i < k → k ≤ N → (tl s f (Wf s 0 ns i))[k - i - 1]? = some (Wf s 0 ns k)) ∧ Wf s 0 ns N = 0 ∧ ∀ k, i ≤ k → k < N → 0 < Wf s 0 ns k
  | 0, i, _, h => by omega
  | f + 1, i, hi, h => by
    by_cases hp : 0 < Wf s 0 ns i
    · have e : Wf s 0 ns (i + 1) = max 0 (Wf s 0 ns i - s) := by
        rw [Wf, List.getD_eq_getElem?_getD, List.getElem?_eq_none (by omega)]
        simp
      obtain ⟨N, a1, a2, a3, a4, a5⟩ := tl_at s ns hs f (i + 1) (by omega) (by rw [e]; omega)
      refine ⟨N, by omega, ?_, ?_, a4, ?_⟩
      · rw [tl, if_pos hp, List.length_cons, ← e, a2]; omega
      · intro k h1 h2
        rw [tl, if_pos hp, ← e]
        by_cases hk : k = i + 1
        · subst hk
          rw [show i + 1 - i - 1 = 0 by omega]
          rfl
        · rw [show k - i - 1 = (k - (i + 1) - 1) + 1 by omega, List.getElem?_cons_succ]
          exact a3 k (by omega) h2
      · intro k h1 h2
        by_cases hk : k = i
        · subst hk; exact hp
        · exact a5 k (by omega) h2
    · refine ⟨i, Nat.le_refl _, ?_, fun k h1 h2 => by omega, ?_, fun k h1 h2 => by omega⟩
      · rw [tl, if_neg hp]; simp
      · have := Wf_nn s 0 ns i
        omega
/-- all lines: as long as needed -/
theorem left_spec (k0 : Nat) (ns : List Int) (n s : Int) (h : Ok ns) (hne : ns ≠ []) (hn : 1 ≤ n ∧ n ≤ 30) (hs : 1 ≤ s ∧ s ≤ 30) :
    ∃ (now : List Int) (N : Nat), (∀ M, callF T G (k0 + 5) 335 [.tup (ns.map D.int), .int n, .int s] M = .ok (.tup (now.map D.int)) M) ∧ now.length = N + 1 ∧ N ≤ 200000 ∧ ns.length ≤ N + 1 ∧ Wf (n * s) 0 ns N = 0 ∧ (∀ k, ns.length ≤ k + 1 → k < N → 0 < Wf (n * s) 0 ns k) ∧ ∀ k, k ≤ N → now[k]? = some (Wf (n * s) 0 ns k) := by
  have p1 : 0 < n * s := Int.mul_pos (by omega) (by omega)
  have hl : 0 < ns.length := List.length_pos_iff.mpr hne
  have hll := lin_length (n * s) ns 0
  have hne2 : lin (n * s) 0 ns ≠ [] := by intro q; rw [q] at hll; simp at hll; omega
  obtain ⟨pre, l, he⟩ : ∃ pre l, lin (n * s) 0 ns = pre ++ [l] := ⟨_, _, (List.dropLast_concat_getLast hne2).symm⟩
  have hpre : pre.length + 1 = ns.length := by rw [he] at hll; simpa using hll
  have el : l = Wf (n * s) 0 ns pre.length := by
    have q := lin_at (n * s) ns 0 pre.length (by omega)
    rw [he] at q
    simpa using q
  have hle := Wf_le (n * s) 0 ns p1 h.1 pre.length
  have h48 := h.2
  obtain ⟨N, a1, a2, a3, a4, a5⟩ := tl_at (n * s) ns p1 100000 pre.length (by omega) (by omega)
  rw [← el] at a2 a3
  have hN : N - pre.length ≤ 100000 := by
    have : ∀ (f : Nat) (l : Int), (tl (n * s) f l).length ≤ f := by
      intro f
      induction f with
      | zero => intro l; simp [tl]
      | succ f ih =>
        intro l
        rw [tl]
        split
        · have := ih (max 0 (l - n * s)); simp; omega
        · simp
    have := this 100000 l
    omega
  refine ⟨pre ++ [l] ++ tl (n * s) 100000 l, N, fun M => lines_left_ok k0 ns pre l n s h hn hs he (by omega) M, by simp; omega, by omega, by omega, a4, fun k b1 b2 => a5 k (by omega) b2, fun k hk => ?_⟩
  by_cases hk2 : k ≤ pre.length
  · rw [List.getElem?_append_left (by simp; omega), ← he]
    exact lin_at _ _ _ _ (by omega)
  · rw [List.getElem?_append_right (by simp; omega)]
    rw [← a3 k (by omega) hk]
    congr 1
    simp
    omega
theorem up_le {n p q : Int} (hp : 0 < p) : up n p ≤ q ↔ n ≤ q * p := by
  unfold up
  rw [show ((n + p - 1) / p ≤ q) ↔ ((n + p - 1) / p < q + 1) by omega, Int.ediv_lt_iff_lt_mul hp, Int.add_mul]
  omega
theorem up_nn {n p : Int} (hp : 0 < p) (hn : 0 ≤ n) : 0 ≤ up n p := by
  unfold up
  exact Int.ediv_nonneg (by omega) (by omega)
theorem lon_mem (s : Int) : ∀ (a b : List Int) (x : Int), x ∈ lon s a b ↔ ∃ k : Nat, ∃ m l : Int, a[k]? = some m ∧ b[k]? = some l ∧ 0 < m ∧ x = up l s
  | [], b, x => by simp [lon]
  | _ :: _, [], x => by simp [lon]
  | m :: ms, l :: ls, x => by
    have ih := lon_mem s ms ls x
    have step : (∃ k : Nat, ∃ m' l' : Int, (m :: ms)[k]? = some m' ∧ (l :: ls)[k]? = some l' ∧ 0 < m' ∧ x = up l' s) ↔ (0 < m ∧ x = up l s) ∨ ∃ k : Nat, ∃ m' l' : Int, ms[k]? = some m' ∧ ls[k]? = some l' ∧ 0 < m' ∧ x = up l' s := by
      constructor
      · rintro ⟨k, m', l', h1, h2, h3, h4⟩
        cases k with
        | zero =>
          simp at h1 h2
          subst h1 h2
          exact .inl ⟨h3, h4⟩
        | succ k => exact .inr ⟨k, m', l', by simpa using h1, by simpa using h2, h3, h4⟩
      · rintro (⟨h1, h2⟩ | ⟨k, m', l', h1, h2, h3, h4⟩)
        · exact ⟨0, m, l, rfl, rfl, h1, h2⟩
        · exact ⟨k + 1, m', l', by simpa using h1, by simpa using h2, h3, h4⟩
    rw [step, ← ih, lon]
    split
    · rename_i hm
      simp [hm]
    · rename_i hm
      simp [hm]
theorem mxL_le {ns : List Int} {q : Int} (hq : 0 ≤ q) (h : ∀ x ∈ ns, x ≤ q) : mxL ns ≤ q := by
  unfold mxL
  cases e : maxL ns with
  | none => simpa using hq
  | some m => exact h m (maxL_mem e).1
theorem le_mxL {ns : List Int} {x : Int} (h : x ∈ ns) : x ≤ mxL ns := by
  unfold mxL
  obtain ⟨m, e⟩ := maxL_ex (ns := ns) (by intro q; rw [q] at h; cases h)
  rw [e]
  exact (maxL_mem e).2 x h
theorem mxL_nn {ns : List Int} (h : ∀ x ∈ ns, 0 ≤ x) : 0 ≤ mxL ns := by
  unfold mxL
  cases e : maxL ns with
  | none => simp
  | some m => exact h m (maxL_mem e).1
theorem Ls_mem (s : Int) (ns : List Int) (x : Int) : x ∈ lon s ns (lin s 0 ns) ↔ ∃ k : Nat, ∃ m : Int, ns[k]? = some m ∧ 0 < m ∧ x = up (Wf s 0 ns k) s := by
  rw [lon_mem]
  constructor
  · rintro ⟨k, m, l, h1, h2, h3, h4⟩
    have hk : k < ns.length := (List.getElem?_eq_some_iff.mp h1).1
    rw [lin_at s ns 0 k hk] at h2
    cases h2
    exact ⟨k, m, h1, h3, h4⟩
  · rintro ⟨k, m, h1, h3, h4⟩
    have hk : k < ns.length := (List.getElem?_eq_some_iff.mp h1).1
    exact ⟨k, m, _, h1, lin_at s ns 0 k hk, h3, h4⟩
def LL (s : Int) (ns : List Int) : Int := mxL (lon s ns (lin s 0 ns))
theorem LL_nn (s : Int) (ns : List Int) (hs : 0 < s) : 0 ≤ LL s ns := mxL_nn fun x hx => by
  obtain ⟨k, m, _, _, rfl⟩ := (Ls_mem s ns x).mp hx
  exact up_nn hs (Wf_nn ..)
theorem LL_mono (s s' : Int) (ns : List Int) (hs : 0 < s) (h : s ≤ s') : LL s' ns ≤ LL s ns := by
  refine mxL_le (LL_nn s ns hs) fun x hx => ?_
  obtain ⟨k, m, h1, h2, rfl⟩ := (Ls_mem s' ns x).mp hx
  have q : up (Wf s 0 ns k) s ≤ LL s ns := le_mxL ((Ls_mem s ns _).mpr ⟨k, m, h1, h2, rfl⟩)
  have q2 := (up_le hs).mp q
  refine (up_le (by omega)).mpr (Int.le_trans (Int.le_trans (Wf_mono s s' ns h k) q2) ?_)
  exact Int.mul_le_mul_of_nonneg_left h (LL_nn s ns hs)
theorem LL_zero (s : Int) (ns : List Int) (hs : 0 < s) (h : ∀ i ∈ ns, 0 ≤ i) : LL s ns = 0 ↔ ∀ k, k < ns.length → Wf s 0 ns k = 0 := by
  constructor
  · intro h0 k
    induction k with
    | zero =>
      intro hk
      cases ns with
      | nil => simp at hk
      | cons m ms =>
        have hm := h m (by simp)
        by_cases q : 0 < m
        · have q1 : up (Wf s 0 (m :: ms) 0) s ≤ LL s (m :: ms) := le_mxL ((Ls_mem s _ _).mpr ⟨0, m, rfl, q, rfl⟩)
          rw [h0, up_le hs] at q1
          have := Wf_nn s 0 (m :: ms) 0
          omega
        · simp [Wf]; omega
    | succ k ih =>
      intro hk
      have e := ih (by omega)
      have hk2 : ns[k + 1]? = some ns[k + 1] := List.getElem?_eq_getElem hk
      have hm := h ns[k + 1] (List.getElem_mem hk)
      by_cases q : 0 < ns[k + 1]
      · have q1 : up (Wf s 0 ns (k + 1)) s ≤ LL s ns := le_mxL ((Ls_mem s _ _).mpr ⟨k + 1, _, hk2, q, rfl⟩)
        rw [h0, up_le hs] at q1
        have := Wf_nn s 0 ns (k + 1)
        omega
      · rw [Wf, e, List.getD_eq_getElem?_getD, hk2]
        simp
        omega
  · intro h0
    have a : LL s ns ≤ 0 := mxL_le (Int.le_refl 0) fun x hx => by
      obtain ⟨k, m, h1, h2, rfl⟩ := (Ls_mem s ns x).mp hx
      rw [h0 k (List.getElem?_eq_some_iff.mp h1).1, up_le hs]
      omega
    have := LL_nn s ns hs
    omega
/-! ### the law -/
def came (ns : List Int) (k : Nat) : Int := ns.getD k 0
/-- the loop over the lines -/
theorem lines_loop {C : Ctx} (F : ∀ (i : Int) (M : Mem), C.F 59 [.int i, .int i] M = .ok (.bl true) M) {x0 x1 x2 x3 x12 x13 x14 : Option D} {M : Mem} {ns now more : List Int} {n s n1 : Int} {N N1 : Nat} (x5 x11 : Option D)
    (hns : ns.length ≤ 100000) (hm : mulOk n s) (h1 : now.length = N + 1) (hN : N ≤ 200000) (h2 : ∀ k, k ≤ N → now[k]? = some (Wf (n * s) 0 ns k)) (h3 : more.length = N1 + 1) (h4 : ∀ k, k ≤ N1 → more[k]? = some (Wf n1 0 ns k)) (h5 : n * s ≤ n1) :
    ∃ y5 y11, evS C l342_1 [x0, x1, x2, x3, some (.tup (ns.map D.int)), x5, some (.int n), some (.int s), some (.tup (now.map D.int)), some (.tup (more.map D.int)), some (.int 0), x11, x12, x13, x14] M = .nx [x0, x1, x2, x3, some (.tup (ns.map D.int)), y5, some (.int n), some (.int s), some (.tup (now.map D.int)), some (.tup (more.map D.int)), some (.int (Wf (n * s) 0 ns N)), y11, x12, x13, x14] M := by
  let W : Nat → Int := fun k => match k with | 0 => 0 | k + 1 => Wf (n * s) 0 ns k
  obtain ⟨ρ', M', e, y5, y11, rfl, rfl⟩ := for_inv0 (gd := []) (b := asgT (.name 5)) (f := fun ρ M => evSs C f342_1 ρ M) (fun i ρ M' => ∃ y5 y11, ρ = [x0, x1, x2, x3, some (.tup (ns.map D.int)), y5, some (.int n), some (.int s), some (.tup (now.map D.int)), some (.tup (more.map D.int)), some (.int (W i)), y11, x12, x13, x14] ∧ M = M') (rngI 0 (N + 1)) [x0, x1, x2, x3, some (.tup (ns.map D.int)), x5, some (.int n), some (.int s), some (.tup (now.map D.int)), some (.tup (more.map D.int)), some (.int 0), x11, x12, x13, x14] M ⟨_, _, rfl, rfl⟩ (by
    rintro i ρ M' d hd ⟨y5, y11, rfl, rfl⟩
    obtain ⟨hi, rfl⟩ := rng_at hd
    rw [Int.zero_add]
    have hW : max 0 (W i + ns.getD i 0 - n * s) = W (i + 1) := by
      cases i with
      | zero => simp [W, Wf]
      | succ i => simp [W, Wf]
    have e1 : atI (now.map D.int) (i : Int) = some (.int (W (i + 1))) := by
      rw [atI_nat, List.getElem?_map, h2 i (by omega)]
      rfl
    have el : evSs C f342_1 [x0, x1, x2, x3, some (.tup (ns.map D.int)), some (.int (i : Int)), some (.int n), some (.int s), some (.tup (now.map D.int)), some (.tup (more.map D.int)), some (.int (W i)), y11, x12, x13, x14] M = .nx [x0, x1, x2, x3, some (.tup (ns.map D.int)), some (.int (i : Int)), some (.int n), some (.int s), some (.tup (now.map D.int)), some (.tup (more.map D.int)), some (.int (W (i + 1))), some (.int (ns.getD i 0)), x12, x13, x14] M := by
      have tail : (if (i : Int) < (more.length : Int) then decide (Wf (n * s) 0 ns i < (more.getD i 0)) else false) = false := by
        by_cases q : (i : Int) < (more.length : Int)
        · rw [if_pos q, List.getD_eq_getElem?_getD, h4 i (by omega)]
          have := Wf_mono _ _ ns h5 i
          simp
          omega
        · rw [if_neg q]
      by_cases hk : (i : Int) < (ns.length : Int)
      · have e2 : atI (ns.map D.int) (i : Int) = some (.int (ns.getD i 0)) := by
          have := at_ints ns i (by omega) hk
          rwa [Int.toNat_natCast] at this
        by_cases hk2 : (i : Int) < (more.length : Int)
        · have e3 : atI (more.map D.int) (i : Int) = some (.int (Wf n1 0 ns i)) := by
            rw [atI_nat, List.getElem?_map, h4 i (by omega)]
            rfl
          have n3 : ¬ W (i + 1) < Wf n1 0 ns i := by
            have := Wf_mono _ _ ns h5 i
            show ¬ Wf (n * s) 0 ns i < _
            omega
          rw [f342_1]
          simp only [x_seq, seq_nx, seq_ret, seq_exc, seq_brk, seq_cnt, x_asg, x_asgt, asgT_name, asgT_tup, asgTs_nil, asgTs_cons, rsopt, x_ite, x_var, get_some, x_tvar, tru_some, x_setI, rsmem, bind_ok, bind_exc, toRS_ok, toRS_exc, opt_some, fin_keep, fin_nxk, fin_exc, fin_ret, fin_nx, leave_keep, leave_dat, leave_nil, leave_spot, leave_spot0, nn1, Int.reduceLT, Int.reduceLE, Int.reduceAdd, Int.reduceSub, Int.reduceNeg, Int.reduceMul, dat_non, dat_int, dat_str, dat_bl, dat_tup, dat_lst, dats_nil, dats_cons, dats_ints, dats_bls, dats_strs, evE_cst, evE_glob, evE_op, evE_neg, evE_cmp, evE_cmp2, evE_land, evE_lor, evE_lnot, evE_ite, evE_tup, evE_lst, evE_lstC, evE_dictK, evE_idx, evE_slc, evE_isi, evE_call, evE_blt, evE_cell, evE_meth, evT_land, evT_lor, evT_lnot, evT_cmp, evT_cmp2, evT_isi, evT_call, evT_blt, evT_idx, evT_cst, evT_op, evS_par, evS_expr, evS_ret, evS_pass, evS_brk, evS_cnt, evS_raise, x_try, catch_ret, catch_nx, catch_exc, evEs_nil, evEs_cons, evTs_nil, evTs_one, evAnd_one, evOr_one, evTAnd_one, evTOr_one, evSs_nil, evAnd_cons, evOr_cons, evTAnd_cons, evTOr_cons, op_add, op_sub, op_mul, op_mod, op_fdiv, op_tadd, op_ladd, op_sadd, cmp_lt, cmp_le, cmp_gt, cmp_ge, cmp_eq, cmp_ne, cmp_is, cmp_isnt, cmp_in, cmp_notin, eq_int, eq_str, eq_bl, isNon_non, isNon_int, isNon_str, isNon_bl, isNon_tup, isNon_lst, isi_int, isi_bl, isi_str, isi_tup, isi_lst, isi_non, isTy, ix_tup, ix_lst, ix_ro, at0, at1, at2, at3, at4, at5, bl_len, len_tup, len_lst, len_ro, bl_tuple, tup_tup, tup_lst, bl_list, seq_tup, seq_lst, seq_ro, lstO_lst, lstO_ro, bl_int, bl_abs, bl_max2, bl_min2, bl_max1, bl_min1, bl_maxd, bl_mind, bl_sum, bl_all, bl_any, bl_s, tru_int, tru_bl, tru_tup, tru_lst, get_app, get_app0, set_app, set_app0, m_append, rc_append, ite_ok, List.any_cons, List.any_nil, List.getElem?_cons_zero, List.getElem?_cons_succ, List.set_cons_zero, List.set_cons_succ, List.length_cons, List.length_nil, List.length_append, List.length_map, List.append_assoc, List.cons_append, List.nil_append, Option.map_some, Option.bind_some, Option.map_none, Option.bind_none, intsOf_map, blsOf_map, Nat.reduceAdd, Nat.reduceLT, Nat.reduceLeDiff, Nat.add_zero, Nat.zero_add, if_true, if_false, ite_self, decide_eq_true_eq, Bool.not_true, Bool.not_false, Bool.or_false, Bool.or_true, Bool.true_or, Bool.false_or, Bool.and_true, Bool.true_and, Bool.false_and, Bool.and_false, decide_true, decide_false, reduceCtorEq, eq_self, not_true_eq_false, not_false_eq_true, Bool.false_eq_true, Int.cast_ofNat_Int, Int.natCast_add, hk, e2, hm, hW, e1, F, hk2, e3, n3]
        · rw [f342_1]
          simp only [x_seq, seq_nx, seq_ret, seq_exc, seq_brk, seq_cnt, x_asg, x_asgt, asgT_name, asgT_tup, asgTs_nil, asgTs_cons, rsopt, x_ite, x_var, get_some, x_tvar, tru_some, x_setI, rsmem, bind_ok, bind_exc, toRS_ok, toRS_exc, opt_some, fin_keep, fin_nxk, fin_exc, fin_ret, fin_nx, leave_keep, leave_dat, leave_nil, leave_spot, leave_spot0, nn1, Int.reduceLT, Int.reduceLE, Int.reduceAdd, Int.reduceSub, Int.reduceNeg, Int.reduceMul, dat_non, dat_int, dat_str, dat_bl, dat_tup, dat_lst, dats_nil, dats_cons, dats_ints, dats_bls, dats_strs, evE_cst, evE_glob, evE_op, evE_neg, evE_cmp, evE_cmp2, evE_land, evE_lor, evE_lnot, evE_ite, evE_tup, evE_lst, evE_lstC, evE_dictK, evE_idx, evE_slc, evE_isi, evE_call, evE_blt, evE_cell, evE_meth, evT_land, evT_lor, evT_lnot, evT_cmp, evT_cmp2, evT_isi, evT_call, evT_blt, evT_idx, evT_cst, evT_op, evS_par, evS_expr, evS_ret, evS_pass, evS_brk, evS_cnt, evS_raise, x_try, catch_ret, catch_nx, catch_exc, evEs_nil, evEs_cons, evTs_nil, evTs_one, evAnd_one, evOr_one, evTAnd_one, evTOr_one, evSs_nil, evAnd_cons, evOr_cons, evTAnd_cons, evTOr_cons, op_add, op_sub, op_mul, op_mod, op_fdiv, op_tadd, op_ladd, op_sadd, cmp_lt, cmp_le, cmp_gt, cmp_ge, cmp_eq, cmp_ne, cmp_is, cmp_isnt, cmp_in, cmp_notin, eq_int, eq_str, eq_bl, isNon_non, isNon_int, isNon_str, isNon_bl, isNon_tup, isNon_lst, isi_int, isi_bl, isi_str, isi_tup, isi_lst, isi_non, isTy, ix_tup, ix_lst, ix_ro, at0, at1, at2, at3, at4, at5, bl_len, len_tup, len_lst, len_ro, bl_tuple, tup_tup, tup_lst, bl_list, seq_tup, seq_lst, seq_ro, lstO_lst, lstO_ro, bl_int, bl_abs, bl_max2, bl_min2, bl_max1, bl_min1, bl_maxd, bl_mind, bl_sum, bl_all, bl_any, bl_s, tru_int, tru_bl, tru_tup, tru_lst, get_app, get_app0, set_app, set_app0, m_append, rc_append, ite_ok, List.any_cons, List.any_nil, List.getElem?_cons_zero, List.getElem?_cons_succ, List.set_cons_zero, List.set_cons_succ, List.length_cons, List.length_nil, List.length_append, List.length_map, List.append_assoc, List.cons_append, List.nil_append, Option.map_some, Option.bind_some, Option.map_none, Option.bind_none, intsOf_map, blsOf_map, Nat.reduceAdd, Nat.reduceLT, Nat.reduceLeDiff, Nat.add_zero, Nat.zero_add, if_true, if_false, ite_self, decide_eq_true_eq, Bool.not_true, Bool.not_false, Bool.or_false, Bool.or_true, Bool.true_or, Bool.false_or, Bool.and_true, Bool.true_and, Bool.false_and, Bool.and_false, decide_true, decide_false, reduceCtorEq, eq_self, not_true_eq_false, not_false_eq_true, Bool.false_eq_true, Int.cast_ofNat_Int, Int.natCast_add, hk, e2, hm, hW, e1, F, hk2]
      · have e2 : ns.getD i 0 = 0 := by
          rw [List.getD_eq_getElem?_getD, List.getElem?_eq_none (by omega)]
          rfl
        rw [e2] at hW ⊢
        by_cases hk2 : (i : Int) < (more.length : Int)
        · have e3 : atI (more.map D.int) (i : Int) = some (.int (Wf n1 0 ns i)) := by
            rw [atI_nat, List.getElem?_map, h4 i (by omega)]
            rfl
          have n3 : ¬ W (i + 1) < Wf n1 0 ns i := by
            have := Wf_mono _ _ ns h5 i
            show ¬ Wf (n * s) 0 ns i < _
            omega
          rw [f342_1]
          simp only [x_seq, seq_nx, seq_ret, seq_exc, seq_brk, seq_cnt, x_asg, x_asgt, asgT_name, asgT_tup, asgTs_nil, asgTs_cons, rsopt, x_ite, x_var, get_some, x_tvar, tru_some, x_setI, rsmem, bind_ok, bind_exc, toRS_ok, toRS_exc, opt_some, fin_keep, fin_nxk, fin_exc, fin_ret, fin_nx, leave_keep, leave_dat, leave_nil, leave_spot, leave_spot0, nn1, Int.reduceLT, Int.reduceLE, Int.reduceAdd, Int.reduceSub, Int.reduceNeg, Int.reduceMul, dat_non, dat_int, dat_str, dat_bl, dat_tup, dat_lst, dats_nil, dats_cons, dats_ints, dats_bls, dats_strs, evE_cst, evE_glob, evE_op, evE_neg, evE_cmp, evE_cmp2, evE_land, evE_lor, evE_lnot, evE_ite, evE_tup, evE_lst, evE_lstC, evE_dictK, evE_idx, evE_slc, evE_isi, evE_call, evE_blt, evE_cell, evE_meth, evT_land, evT_lor, evT_lnot, evT_cmp, evT_cmp2, evT_isi, evT_call, evT_blt, evT_idx, evT_cst, evT_op, evS_par, evS_expr, evS_ret, evS_pass, evS_brk, evS_cnt, evS_raise, x_try, catch_ret, catch_nx, catch_exc, evEs_nil, evEs_cons, evTs_nil, evTs_one, evAnd_one, evOr_one, evTAnd_one, evTOr_one, evSs_nil, evAnd_cons, evOr_cons, evTAnd_cons, evTOr_cons, op_add, op_sub, op_mul, op_mod, op_fdiv, op_tadd, op_ladd, op_sadd, cmp_lt, cmp_le, cmp_gt, cmp_ge, cmp_eq, cmp_ne, cmp_is, cmp_isnt, cmp_in, cmp_notin, eq_int, eq_str, eq_bl, isNon_non, isNon_int, isNon_str, isNon_bl, isNon_tup, isNon_lst, isi_int, isi_bl, isi_str, isi_tup, isi_lst, isi_non, isTy, ix_tup, ix_lst, ix_ro, at0, at1, at2, at3, at4, at5, bl_len, len_tup, len_lst, len_ro, bl_tuple, tup_tup, tup_lst, bl_list, seq_tup, seq_lst, seq_ro, lstO_lst, lstO_ro, bl_int, bl_abs, bl_max2, bl_min2, bl_max1, bl_min1, bl_maxd, bl_mind, bl_sum, bl_all, bl_any, bl_s, tru_int, tru_bl, tru_tup, tru_lst, get_app, get_app0, set_app, set_app0, m_append, rc_append, ite_ok, List.any_cons, List.any_nil, List.getElem?_cons_zero, List.getElem?_cons_succ, List.set_cons_zero, List.set_cons_succ, List.length_cons, List.length_nil, List.length_append, List.length_map, List.append_assoc, List.cons_append, List.nil_append, Option.map_some, Option.bind_some, Option.map_none, Option.bind_none, intsOf_map, blsOf_map, Nat.reduceAdd, Nat.reduceLT, Nat.reduceLeDiff, Nat.add_zero, Nat.zero_add, if_true, if_false, ite_self, decide_eq_true_eq, Bool.not_true, Bool.not_false, Bool.or_false, Bool.or_true, Bool.true_or, Bool.false_or, Bool.and_true, Bool.true_and, Bool.false_and, Bool.and_false, decide_true, decide_false, reduceCtorEq, eq_self, not_true_eq_false, not_false_eq_true, Bool.false_eq_true, Int.cast_ofNat_Int, Int.natCast_add, hk, hm, hW, e1, F, hk2, e3, n3]
        · rw [f342_1]
          simp only [x_seq, seq_nx, seq_ret, seq_exc, seq_brk, seq_cnt, x_asg, x_asgt, asgT_name, asgT_tup, asgTs_nil, asgTs_cons, rsopt, x_ite, x_var, get_some, x_tvar, tru_some, x_setI, rsmem, bind_ok, bind_exc, toRS_ok, toRS_exc, opt_some, fin_keep, fin_nxk, fin_exc, fin_ret, fin_nx, leave_keep, leave_dat, leave_nil, leave_spot, leave_spot0, nn1, Int.reduceLT, Int.reduceLE, Int.reduceAdd, Int.reduceSub, Int.reduceNeg, Int.reduceMul, dat_non, dat_int, dat_str, dat_bl, dat_tup, dat_lst, dats_nil, dats_cons, dats_ints, dats_bls, dats_strs, evE_cst, evE_glob, evE_op, evE_neg, evE_cmp, evE_cmp2, evE_land, evE_lor, evE_lnot, evE_ite, evE_tup, evE_lst, evE_lstC, evE_dictK, evE_idx, evE_slc, evE_isi, evE_call, evE_blt, evE_cell, evE_meth, evT_land, evT_lor, evT_lnot, evT_cmp, evT_cmp2, evT_isi, evT_call, evT_blt, evT_idx, evT_cst, evT_op, evS_par, evS_expr, evS_ret, evS_pass, evS_brk, evS_cnt, evS_raise, x_try, catch_ret, catch_nx, catch_exc, evEs_nil, evEs_cons, evTs_nil, evTs_one, evAnd_one, evOr_one, evTAnd_one, evTOr_one, evSs_nil, evAnd_cons, evOr_cons, evTAnd_cons, evTOr_cons, op_add, op_sub, op_mul, op_mod, op_fdiv, op_tadd, op_ladd, op_sadd, cmp_lt, cmp_le, cmp_gt, cmp_ge, cmp_eq, cmp_ne, cmp_is, cmp_isnt, cmp_in, cmp_notin, eq_int, eq_str, eq_bl, isNon_non, isNon_int, isNon_str, isNon_bl, isNon_tup, isNon_lst, isi_int, isi_bl, isi_str, isi_tup, isi_lst, isi_non, isTy, ix_tup, ix_lst, ix_ro, at0, at1, at2, at3, at4, at5, bl_len, len_tup, len_lst, len_ro, bl_tuple, tup_tup, tup_lst, bl_list, seq_tup, seq_lst, seq_ro, lstO_lst, lstO_ro, bl_int, bl_abs, bl_max2, bl_min2, bl_max1, bl_min1, bl_maxd, bl_mind, bl_sum, bl_all, bl_any, bl_s, tru_int, tru_bl, tru_tup, tru_lst, get_app, get_app0, set_app, set_app0, m_append, rc_append, ite_ok, List.any_cons, List.any_nil, List.getElem?_cons_zero, List.getElem?_cons_succ, List.set_cons_zero, List.set_cons_succ, List.length_cons, List.length_nil, List.length_append, List.length_map, List.append_assoc, List.cons_append, List.nil_append, Option.map_some, Option.bind_some, Option.map_none, Option.bind_none, intsOf_map, blsOf_map, Nat.reduceAdd, Nat.reduceLT, Nat.reduceLeDiff, Nat.add_zero, Nat.zero_add, if_true, if_false, ite_self, decide_eq_true_eq, Bool.not_true, Bool.not_false, Bool.or_false, Bool.or_true, Bool.true_or, Bool.false_or, Bool.and_true, Bool.true_and, Bool.false_and, Bool.and_false, decide_true, decide_false, reduceCtorEq, eq_self, not_true_eq_false, not_false_eq_true, Bool.false_eq_true, Int.cast_ofNat_Int, Int.natCast_add, hk, hm, hW, e1, F, hk2]
    exact ⟨_, rfl, _, _, .inl el, _, _, rfl, rfl⟩) (fun _ _ _ _ => rfl)
  refine ⟨y5, y11, ?_⟩
  rw [l342_1, for_rngN (M1 := M) (N + 1) (by simp only [x_seq, seq_nx, seq_ret, seq_exc, seq_brk, seq_cnt, x_asg, x_asgt, asgT_name, asgT_tup, asgTs_nil, asgTs_cons, rsopt, x_ite, x_var, get_some, x_tvar, tru_some, x_setI, rsmem, bind_ok, bind_exc, toRS_ok, toRS_exc, opt_some, fin_keep, fin_nxk, fin_exc, fin_ret, fin_nx, leave_keep, leave_dat, leave_nil, leave_spot, leave_spot0, nn1, Int.reduceLT, Int.reduceLE, Int.reduceAdd, Int.reduceSub, Int.reduceNeg, Int.reduceMul, dat_non, dat_int, dat_str, dat_bl, dat_tup, dat_lst, dats_nil, dats_cons, dats_ints, dats_bls, dats_strs, evE_cst, evE_glob, evE_op, evE_neg, evE_cmp, evE_cmp2, evE_land, evE_lor, evE_lnot, evE_ite, evE_tup, evE_lst, evE_lstC, evE_dictK, evE_idx, evE_slc, evE_isi, evE_call, evE_blt, evE_cell, evE_meth, evT_land, evT_lor, evT_lnot, evT_cmp, evT_cmp2, evT_isi, evT_call, evT_blt, evT_idx, evT_cst, evT_op, evS_par, evS_expr, evS_ret, evS_pass, evS_brk, evS_cnt, evS_raise, x_try, catch_ret, catch_nx, catch_exc, evEs_nil, evEs_cons, evTs_nil, evTs_one, evAnd_one, evOr_one, evTAnd_one, evTOr_one, evSs_nil, evAnd_cons, evOr_cons, evTAnd_cons, evTOr_cons, op_add, op_sub, op_mul, op_mod, op_fdiv, op_tadd, op_ladd, op_sadd, cmp_lt, cmp_le, cmp_gt, cmp_ge, cmp_eq, cmp_ne, cmp_is, cmp_isnt, cmp_in, cmp_notin, eq_int, eq_str, eq_bl, isNon_non, isNon_int, isNon_str, isNon_bl, isNon_tup, isNon_lst, isi_int, isi_bl, isi_str, isi_tup, isi_lst, isi_non, isTy, ix_tup, ix_lst, ix_ro, at0, at1, at2, at3, at4, at5, bl_len, len_tup, len_lst, len_ro, bl_tuple, tup_tup, tup_lst, bl_list, seq_tup, seq_lst, seq_ro, lstO_lst, lstO_ro, bl_int, bl_abs, bl_max2, bl_min2, bl_max1, bl_min1, bl_maxd, bl_mind, bl_sum, bl_all, bl_any, bl_s, tru_int, tru_bl, tru_tup, tru_lst, get_app, get_app0, set_app, set_app0, m_append, rc_append, ite_ok, List.any_cons, List.any_nil, List.getElem?_cons_zero, List.getElem?_cons_succ, List.set_cons_zero, List.set_cons_succ, List.length_cons, List.length_nil, List.length_append, List.length_map, List.append_assoc, List.cons_append, List.nil_append, Option.map_some, Option.bind_some, Option.map_none, Option.bind_none, intsOf_map, blsOf_map, Nat.reduceAdd, Nat.reduceLT, Nat.reduceLeDiff, Nat.add_zero, Nat.zero_add, if_true, if_false, ite_self, decide_eq_true_eq, Bool.not_true, Bool.not_false, Bool.or_false, Bool.or_true, Bool.true_or, Bool.false_or, Bool.and_true, Bool.true_and, Bool.false_and, Bool.and_false, decide_true, decide_false, reduceCtorEq, eq_self, not_true_eq_false, not_false_eq_true, Bool.false_eq_true, Int.cast_ofNat_Int, Int.natCast_add, h1] <;> rfl) (by show _ ≤ 16777216; omega), e, rng_len]
/-- the state between two turns -/
def St (a : D) (rs : List Int) (ρ : Env) (M : Mem) : Prop := ∃ (x3 x4 x5 x6 x7 x8 x9 x10 x11 x12 x13 x14 : Option D) (p : Int), 0 ≤ p ∧ ρ = [some a, some (.lst (rs.map D.int)), some (.loc 0), x3, x4, x5, x6, x7, x8, x9, x10, x11, x12, x13, x14] ∧ M = [.lst [.int p]]
theorem slots_draw (k : Nat) (rs : List Int) (hne : rs ≠ []) (x0 x3 x4 x5 x6 x7 x8 x9 x10 x11 x12 x13 x14 : Option D) (p : Int) (hp : 0 ≤ p) :
    ∃ (ns : List Int) (p' : Int), 0 ≤ p' ∧ ns ≠ [] ∧ ns.length ≤ 15 ∧ (∀ i ∈ ns, 0 ≤ i ∧ i ≤ 119) ∧ evE ⟨callF T G (k + 3), G⟩ c342_1 [x0, some (.lst (rs.map D.int)), some (.loc 0), x3, x4, x5, x6, x7, x8, x9, x10, x11, x12, x13, x14] [.lst [.int p]] = .ok (.lst (ns.map D.int)) [.lst [.int p']] := by
  obtain ⟨v, v0, v1, e⟩ := take_in (k + 1) rs p 14 [] hne hp (by decide)
  have hn : (1 + v.toNat : Nat) = 1 + v := by omega
  obtain ⟨ys, p', g1, g2, g3, g4⟩ := comp_drawN (C := ⟨callF T G (k + 3), G⟩) (own := [5]) (tg := .name 5) (e := .op .add (.cst (.int 1)) (.call 62 [.var 1, .var 2, .cst (.int 14)])) (elt := .call 63 [.var 1, .var 2, .lst [.cst (.int 0), .cst (.int 1), .call 62 [.var 1, .var 2, .cst (.int 30)], .call 62 [.var 1, .var 2, .cst (.int 120)]]])
    (ρ := [x0, some (.lst (rs.map D.int)), some (.loc 0), x3, x4, x5, x6, x7, x8, x9, x10, x11, x12, x13, x14]) (M := [.lst [.int p]]) (p := p + 1) (N := []) (1 + v.toNat) D.int (fun i => 0 ≤ i ∧ i ≤ 119) (by rw [hn]; simp only [x_seq, seq_nx, seq_ret, seq_exc, seq_brk, seq_cnt, x_asg, x_asgt, asgT_name, asgT_tup, asgTs_nil, asgTs_cons, rsopt, x_ite, x_var, get_some, x_tvar, tru_some, x_setI, rsmem, bind_ok, bind_exc, toRS_ok, toRS_exc, opt_some, fin_keep, fin_nxk, fin_exc, fin_ret, fin_nx, leave_keep, leave_dat, leave_nil, leave_spot, leave_spot0, nn1, Int.reduceLT, Int.reduceLE, Int.reduceAdd, Int.reduceSub, Int.reduceNeg, Int.reduceMul, dat_non, dat_int, dat_str, dat_bl, dat_tup, dat_lst, dats_nil, dats_cons, dats_ints, dats_bls, dats_strs, evE_cst, evE_glob, evE_op, evE_neg, evE_cmp, evE_cmp2, evE_land, evE_lor, evE_lnot, evE_ite, evE_tup, evE_lst, evE_lstC, evE_dictK, evE_idx, evE_slc, evE_isi, evE_call, evE_blt, evE_cell, evE_meth, evT_land, evT_lor, evT_lnot, evT_cmp, evT_cmp2, evT_isi, evT_call, evT_blt, evT_idx, evT_cst, evT_op, evS_par, evS_expr, evS_ret, evS_pass, evS_brk, evS_cnt, evS_raise, x_try, catch_ret, catch_nx, catch_exc, evEs_nil, evEs_cons, evTs_nil, evTs_one, evAnd_one, evOr_one, evTAnd_one, evTOr_one, evSs_nil, evAnd_cons, evOr_cons, evTAnd_cons, evTOr_cons, op_add, op_sub, op_mul, op_mod, op_fdiv, op_tadd, op_ladd, op_sadd, cmp_lt, cmp_le, cmp_gt, cmp_ge, cmp_eq, cmp_ne, cmp_is, cmp_isnt, cmp_in, cmp_notin, eq_int, eq_str, eq_bl, isNon_non, isNon_int, isNon_str, isNon_bl, isNon_tup, isNon_lst, isi_int, isi_bl, isi_str, isi_tup, isi_lst, isi_non, isTy, ix_tup, ix_lst, ix_ro, at0, at1, at2, at3, at4, at5, bl_len, len_tup, len_lst, len_ro, bl_tuple, tup_tup, tup_lst, bl_list, seq_tup, seq_lst, seq_ro, lstO_lst, lstO_ro, bl_int, bl_abs, bl_max2, bl_min2, bl_max1, bl_min1, bl_maxd, bl_mind, bl_sum, bl_all, bl_any, bl_s, tru_int, tru_bl, tru_tup, tru_lst, get_app, get_app0, set_app, set_app0, m_append, rc_append, ite_ok, List.any_cons, List.any_nil, List.getElem?_cons_zero, List.getElem?_cons_succ, List.set_cons_zero, List.set_cons_succ, List.length_cons, List.length_nil, List.length_append, List.length_map, List.append_assoc, List.cons_append, List.nil_append, Option.map_some, Option.bind_some, Option.map_none, Option.bind_none, intsOf_map, blsOf_map, Nat.reduceAdd, Nat.reduceLT, Nat.reduceLeDiff, Nat.add_zero, Nat.zero_add, if_true, if_false, ite_self, decide_eq_true_eq, Bool.not_true, Bool.not_false, Bool.or_false, Bool.or_true, Bool.true_or, Bool.false_or, Bool.and_true, Bool.true_and, Bool.false_and, Bool.and_false, decide_true, decide_false, reduceCtorEq, eq_self, not_true_eq_false, not_false_eq_true, Bool.false_eq_true, Int.cast_ofNat_Int, Int.natCast_add, e]) (by show _ ≤ 16777216; omega) (by omega) (by
      intro x hx q hq
      refine ⟨_, rfl, ?_⟩
      obtain ⟨a, a0, a1, ea⟩ := take_in (k + 1) rs q 30 [] hne hq (by decide)
      obtain ⟨b, b0, b1, eb⟩ := take_in (k + 1) rs (q + 1) 120 [] hne (by omega) (by decide)
      obtain ⟨d, ⟨i, hd, hi⟩, ed⟩ := pick_in k rs (q + 1 + 1) [.int 0, .int 1, .int a, .int b] [] (fun d => ∃ i : Int, d = .int i ∧ 0 ≤ i ∧ i ≤ 119) hne (by omega) (by simp) (by
        intro d hd
        simp only [List.mem_cons, List.not_mem_nil, or_false] at hd
        rcases hd with rfl | rfl | rfl | rfl
        · exact ⟨_, rfl, by decide, by decide⟩
        · exact ⟨_, rfl, by decide, by decide⟩
        · exact ⟨_, rfl, by omega, by omega⟩
        · exact ⟨_, rfl, by omega, by omega⟩)
      refine ⟨i, q + 1 + 1 + 1, by omega, hi, ?_⟩
      rw [← hd]
      simp only [x_seq, seq_nx, seq_ret, seq_exc, seq_brk, seq_cnt, x_asg, x_asgt, asgT_name, asgT_tup, asgTs_nil, asgTs_cons, rsopt, x_ite, x_var, get_some, x_tvar, tru_some, x_setI, rsmem, bind_ok, bind_exc, toRS_ok, toRS_exc, opt_some, fin_keep, fin_nxk, fin_exc, fin_ret, fin_nx, leave_keep, leave_dat, leave_nil, leave_spot, leave_spot0, nn1, Int.reduceLT, Int.reduceLE, Int.reduceAdd, Int.reduceSub, Int.reduceNeg, Int.reduceMul, dat_non, dat_int, dat_str, dat_bl, dat_tup, dat_lst, dats_nil, dats_cons, dats_ints, dats_bls, dats_strs, evE_cst, evE_glob, evE_op, evE_neg, evE_cmp, evE_cmp2, evE_land, evE_lor, evE_lnot, evE_ite, evE_tup, evE_lst, evE_lstC, evE_dictK, evE_idx, evE_slc, evE_isi, evE_call, evE_blt, evE_cell, evE_meth, evT_land, evT_lor, evT_lnot, evT_cmp, evT_cmp2, evT_isi, evT_call, evT_blt, evT_idx, evT_cst, evT_op, evS_par, evS_expr, evS_ret, evS_pass, evS_brk, evS_cnt, evS_raise, x_try, catch_ret, catch_nx, catch_exc, evEs_nil, evEs_cons, evTs_nil, evTs_one, evAnd_one, evOr_one, evTAnd_one, evTOr_one, evSs_nil, evAnd_cons, evOr_cons, evTAnd_cons, evTOr_cons, op_add, op_sub, op_mul, op_mod, op_fdiv, op_tadd, op_ladd, op_sadd, cmp_lt, cmp_le, cmp_gt, cmp_ge, cmp_eq, cmp_ne, cmp_is, cmp_isnt, cmp_in, cmp_notin, eq_int, eq_str, eq_bl, isNon_non, isNon_int, isNon_str, isNon_bl, isNon_tup, isNon_lst, isi_int, isi_bl, isi_str, isi_tup, isi_lst, isi_non, isTy, ix_tup, ix_lst, ix_ro, at0, at1, at2, at3, at4, at5, bl_len, len_tup, len_lst, len_ro, bl_tuple, tup_tup, tup_lst, bl_list, seq_tup, seq_lst, seq_ro, lstO_lst, lstO_ro, bl_int, bl_abs, bl_max2, bl_min2, bl_max1, bl_min1, bl_maxd, bl_mind, bl_sum, bl_all, bl_any, bl_s, tru_int, tru_bl, tru_tup, tru_lst, get_app, get_app0, set_app, set_app0, m_append, rc_append, ite_ok, List.any_cons, List.any_nil, List.getElem?_cons_zero, List.getElem?_cons_succ, List.set_cons_zero, List.set_cons_succ, List.length_cons, List.length_nil, List.length_append, List.length_map, List.append_assoc, List.cons_append, List.nil_append, Option.map_some, Option.bind_some, Option.map_none, Option.bind_none, intsOf_map, blsOf_map, Nat.reduceAdd, Nat.reduceLT, Nat.reduceLeDiff, Nat.add_zero, Nat.zero_add, if_true, if_false, ite_self, decide_eq_true_eq, Bool.not_true, Bool.not_false, Bool.or_false, Bool.or_true, Bool.true_or, Bool.false_or, Bool.and_true, Bool.true_and, Bool.false_and, Bool.and_false, decide_true, decide_false, reduceCtorEq, eq_self, not_true_eq_false, not_false_eq_true, Bool.false_eq_true, Int.cast_ofNat_Int, Int.natCast_add, wipeD, ea, eb, ed])
  refine ⟨ys, p', g1, ?_, by omega, g3, g4⟩
  intro q
  rw [q] at g2
  simp at g2
  omega
theorem dats_so {ns : List Int} (h : ns.length ≤ 1000000) : datB 6 (.tup (ns.map D.int)) = true := by
  simp only [datB, List.length_map, decide_eq_true h, Bool.and_true]
  exact datsB_map D.int ns fun _ _ => rfl
theorem turn (a : D) (rs : List Int) (hne : rs ≠ []) (x3 x4 x5 x6 x7 x8 x9 x10 x11 x12 x13 x14 : Option D) (p : Int) (hp : 0 ≤ p) :
    ∃ ρ' M', evSs ⟨callF T G 59, G⟩ f342_2 [some a, some (.lst (rs.map D.int)), some (.loc 0), x3, x4, x5, x6, x7, x8, x9, x10, x11, x12, x13, x14] [.lst [.int p]] = .nx ρ' M' ∧ St a rs ρ' M' := by
  obtain ⟨ns, p1, hp1, hns, hl, hin, e1⟩ := slots_draw 56 rs hne (some a) x3 x4 x5 x6 x7 x8 x9 x10 x11 x12 x13 x14 p hp
  obtain ⟨v, v0, v1, e2⟩ := take_in 57 rs p1 29 [] hne hp1 (by decide)
  obtain ⟨w, w0, w1, e3⟩ := take_in 57 rs (p1 + 1) 30 [] hne (by omega) (by decide)
  obtain ⟨t, t0, t1, e4⟩ := take_in 57 rs (p1 + 1 + 1) 11 [] hne (by omega) (by decide)
  have ok : Ok ns := ⟨fun i hi => by have := hin i hi; omega, by omega⟩
  simp only [Nat.reduceAdd] at e1 e2 e3 e4
  have hn : 1 ≤ 1 + v ∧ 1 + v ≤ 30 := by omega
  have hn1 : 1 ≤ 1 + v + 1 ∧ 1 + v + 1 ≤ 30 := by omega
  have hs : 1 ≤ 1 + w ∧ 1 + w ≤ 30 := by omega
  generalize es : 1 + w = s at *
  generalize en : 1 + v = n at *
  have hpos : 0 < n * s := Int.mul_pos (by omega) (by omega)
  have hle : n * s ≤ (n + 1) * s := Int.mul_le_mul_of_nonneg_right (by omega) (by omega)
  obtain ⟨now, N, f1, f2, f3, f4, f5, f6, f7⟩ := left_spec 54 ns n s ok hns hn hs
  obtain ⟨more, N1, h1, h2, h3, h4, h5, h6, h7⟩ := left_spec 54 ns (n + 1) s ok hns hn1 hs
  simp only [Nat.reduceAdd] at f1 h1
  have m : mulOk n s := mulOk_l (a := n) (by constructor <;> omega) s
  have hN1 : N1 ≤ N := by
    by_cases q : N1 ≤ N
    · exact q
    · have := h6 N f4 (by omega)
      have := Wf_mono _ _ ns hle N
      omega
  obtain ⟨y5, y11, e5⟩ := lines_loop (C := ⟨callF T G 59, G⟩) (fun i M => so_ok 52 (.int i) M rfl) (x0 := some a) (x1 := some (.lst (rs.map D.int))) (x2 := some (.loc 0)) (x3 := x3) (x12 := x12) (x13 := x13) (x14 := x14) (M := [.lst [.int (p1 + 1 + 1)]]) x5 x11 (by omega) m f2 f3 f7 h2 h7 hle
  rw [f5] at e5
  have c1 : ¬ ((N : Int) + 1 < (N1 : Int) + 1) := by omega
  have c2 : ¬ ((N : Int) + 1 < (ns.length : Int)) := by omega
  have hl0 : 0 < ns.length := List.length_pos_iff.mpr hns
  -- no zero between
  have sl : slcS [.lst [.int (p1 + 1 + 1)]] (.tup (now.map D.int)) (some ((ns.length : Int) - 1)) (some ((N : Int) + 1 - 1)) = some (.tup ((cut now (some ((ns.length : Int) - 1)) (some ((N : Int) + 1 - 1))).map D.int)) := by
    rw [← cut_ints]
    rfl
  have zin : ∀ M, inS M (.int 0) (.tup ((cut now (some ((ns.length : Int) - 1)) (some ((N : Int) + 1 - 1))).map D.int)) = some false := by
    intro M
    have hcut : cut now (some ((ns.length : Int) - 1)) (some ((N : Int) + 1 - 1)) = (now.drop (ns.length - 1)).take (N - (ns.length - 1)) := by
      have a1 : min ((ns.length : Int) - 1).toNat now.length = ns.length - 1 := by omega
      have a2 : min ((N : Int) + 1 - 1).toNat now.length = N := by omega
      rw [cut_nn _ (by omega) (by omega), a1, a2]
    have hz : ∀ x ∈ cut now (some ((ns.length : Int) - 1)) (some ((N : Int) + 1 - 1)), x ≠ 0 := by
      intro x hx
      rw [hcut] at hx
      obtain ⟨j, hj⟩ := List.mem_iff_getElem?.mp hx
      rw [List.getElem?_take] at hj
      split at hj
      · rename_i hj2
        rw [List.getElem?_drop, f7 _ (by omega)] at hj
        cases hj
        have := f6 (ns.length - 1 + j) (by omega) (by omega)
        omega
      · cases hj
    have hfl : D.flat (.int 0) = true := rfl
    have hall : ∀ l : List Int, (l.map D.int).all D.flat = true := fun l => by rw [List.all_map]; simp [D.flat]
    have hany : ∀ l : List Int, (∀ x ∈ l, x ≠ 0) → ((l.map D.int).any fun d => D.eqv d (.int 0)) = false := by
      intro l hl
      rw [List.any_map, List.any_eq_false]
      intro x hx
      simp [D.eqv, hl x hx]
    show (if (D.flat (.int 0) && List.all _ D.flat) = true then _ else _) = _
    rw [hall, hfl, Bool.and_self, if_pos rfl, hany _ hz]
  have q1 : ∀ d, partQ false (.int d) = some (some d) := fun _ => rfl
  have q2 : Ex.isNon (.op .sub (.blt .len [.var 4]) (.cst (.int 1))) = false := rfl
  have q3 : Ex.isNon (.op .sub (.blt .len [.var 8]) (.cst (.int 1))) = false := rfl
  -- the longest
  have lw : ∀ M, callF T G 59 336 [.tup (ns.map D.int), .int n, .int s] M = .ok (.int (LL (n * s) ns)) M := fun M => longest_wait_ok 54 ns n s M ok hn hs
  have lw1 : ∀ M, callF T G 59 336 [.tup (ns.map D.int), .int (n + 1), .int s] M = .ok (.int (LL ((n + 1) * s) ns)) M := fun M => longest_wait_ok 54 ns (n + 1) s M ok hn1 hs
  have lw30 : ∀ M, callF T G 59 336 [.tup (ns.map D.int), .int 30, .int s] M = .ok (.int (LL (30 * s) ns)) M := fun M => longest_wait_ok 54 ns 30 s M ok (by omega) hs
  have hm1 : ¬ LL (n * s) ns < LL ((n + 1) * s) ns := by have := LL_mono (n * s) ((n + 1) * s) ns hpos hle; omega
  have hnow : now ≠ [] := by intro q; rw [q] at f2; simp at f2
  obtain ⟨mx, emx⟩ := maxL_ex hnow
  have mx0 : (LL (n * s) ns = 0) ↔ (mx = 0) := by
    rw [LL_zero _ _ hpos (fun i hi => (ok.1 i hi).1)]
    obtain ⟨b1, b2⟩ := maxL_mem emx
    constructor
    · intro hz
      obtain ⟨j, hj⟩ := List.mem_iff_getElem?.mp b1
      have hj2 : j < now.length := (List.getElem?_eq_some_iff.mp hj).1
      rw [f7 j (by omega)] at hj
      cases hj
      by_cases q : j < ns.length
      · exact hz j q
      · by_cases q2 : j < N
        · have z := hz (ns.length - 1) (by omega)
          have := f6 (ns.length - 1) (by omega) (by omega)
          omega
        · rw [show j = N by omega]
          exact f5
    · intro hz k hk
      have := b2 (Wf (n * s) 0 ns k) (List.mem_iff_getElem?.mpr ⟨k, f7 k (by omega)⟩)
      have := Wf_nn (n * s) 0 ns k
      omega
  have so1 : ∀ M, callF T G 59 59 [.bl (decide (LL (n * s) ns = 0)), .bl (decide (mx = 0))] M = .ok (.bl true) M := fun M => by
    rw [show decide (LL (n * s) ns = 0) = decide (mx = 0) by simp only [mx0]]
    exact so_ok 52 _ M rfl
  obtain ⟨ms, ems⟩ := maxL_ex hns
  have hms := maxL_mem ems
  have m30 : mulOk 30 s := mulOk_l (a := 30) (by decide) s
  have s0 : 0 < s := by omega
  have s1 : s < 1073741824 := by omega
  -- opened
  have c3 : ∀ x0 x1 x2 x3 x5 x6 x8 x9 x10 x11 x12 x13 x14 : Option D, ∀ M, evE ⟨callF T G 59, G⟩ c342_2 [x0, x1, x2, x3, some (.tup (ns.map D.int)), x5, x6, some (.int s), x8, x9, x10, x11, x12, x13, x14] M = .ok (.lst ((ns.map fun i => max 1 (up i s)).map D.int)) M := by
    intro x0 x1 x2 x3 x5 x6 x8 x9 x10 x11 x12 x13 x14 M
    rw [c342_2, comp_tup ns D.int (fun i => some (D.int (max 1 (up i s)))) (M1 := M) (by simp only [x_seq, seq_nx, seq_ret, seq_exc, seq_brk, seq_cnt, x_asg, x_asgt, asgT_name, asgT_tup, asgTs_nil, asgTs_cons, rsopt, x_ite, x_var, get_some, x_tvar, tru_some, x_setI, rsmem, bind_ok, bind_exc, toRS_ok, toRS_exc, opt_some, fin_keep, fin_nxk, fin_exc, fin_ret, fin_nx, leave_keep, leave_dat, leave_nil, leave_spot, leave_spot0, nn1, Int.reduceLT, Int.reduceLE, Int.reduceAdd, Int.reduceSub, Int.reduceNeg, Int.reduceMul, dat_non, dat_int, dat_str, dat_bl, dat_tup, dat_lst, dats_nil, dats_cons, dats_ints, dats_bls, dats_strs, evE_cst, evE_glob, evE_op, evE_neg, evE_cmp, evE_cmp2, evE_land, evE_lor, evE_lnot, evE_ite, evE_tup, evE_lst, evE_lstC, evE_dictK, evE_idx, evE_slc, evE_isi, evE_call, evE_blt, evE_cell, evE_meth, evT_land, evT_lor, evT_lnot, evT_cmp, evT_cmp2, evT_isi, evT_call, evT_blt, evT_idx, evT_cst, evT_op, evS_par, evS_expr, evS_ret, evS_pass, evS_brk, evS_cnt, evS_raise, x_try, catch_ret, catch_nx, catch_exc, evEs_nil, evEs_cons, evTs_nil, evTs_one, evAnd_one, evOr_one, evTAnd_one, evTOr_one, evSs_nil, evAnd_cons, evOr_cons, evTAnd_cons, evTOr_cons, op_add, op_sub, op_mul, op_mod, op_fdiv, op_tadd, op_ladd, op_sadd, cmp_lt, cmp_le, cmp_gt, cmp_ge, cmp_eq, cmp_ne, cmp_is, cmp_isnt, cmp_in, cmp_notin, eq_int, eq_str, eq_bl, isNon_non, isNon_int, isNon_str, isNon_bl, isNon_tup, isNon_lst, isi_int, isi_bl, isi_str, isi_tup, isi_lst, isi_non, isTy, ix_tup, ix_lst, ix_ro, at0, at1, at2, at3, at4, at5, bl_len, len_tup, len_lst, len_ro, bl_tuple, tup_tup, tup_lst, bl_list, seq_tup, seq_lst, seq_ro, lstO_lst, lstO_ro, bl_int, bl_abs, bl_max2, bl_min2, bl_max1, bl_min1, bl_maxd, bl_mind, bl_sum, bl_all, bl_any, bl_s, tru_int, tru_bl, tru_tup, tru_lst, get_app, get_app0, set_app, set_app0, m_append, rc_append, ite_ok, List.any_cons, List.any_nil, List.getElem?_cons_zero, List.getElem?_cons_succ, List.set_cons_zero, List.set_cons_succ, List.length_cons, List.length_nil, List.length_append, List.length_map, List.append_assoc, List.cons_append, List.nil_append, Option.map_some, Option.bind_some, Option.map_none, Option.bind_none, intsOf_map, blsOf_map, Nat.reduceAdd, Nat.reduceLT, Nat.reduceLeDiff, Nat.add_zero, Nat.zero_add, if_true, if_false, ite_self, decide_eq_true_eq, Bool.not_true, Bool.not_false, Bool.or_false, Bool.or_true, Bool.true_or, Bool.false_or, Bool.and_true, Bool.true_and, Bool.false_and, Bool.and_false, decide_true, decide_false, reduceCtorEq, eq_self, not_true_eq_false, not_false_eq_true, Bool.false_eq_true, Int.cast_ofNat_Int, Int.natCast_add]) (by show _ ≤ 16777216; omega) ?_, filterMap_some, List.map_map]
    · rfl
    · intro x hx
      exact ⟨_, rfl, by simp only [x_seq, seq_nx, seq_ret, seq_exc, seq_brk, seq_cnt, x_asg, x_asgt, asgT_name, asgT_tup, asgTs_nil, asgTs_cons, rsopt, x_ite, x_var, get_some, x_tvar, tru_some, x_setI, rsmem, bind_ok, bind_exc, toRS_ok, toRS_exc, opt_some, fin_keep, fin_nxk, fin_exc, fin_ret, fin_nx, leave_keep, leave_dat, leave_nil, leave_spot, leave_spot0, nn1, Int.reduceLT, Int.reduceLE, Int.reduceAdd, Int.reduceSub, Int.reduceNeg, Int.reduceMul, dat_non, dat_int, dat_str, dat_bl, dat_tup, dat_lst, dats_nil, dats_cons, dats_ints, dats_bls, dats_strs, evE_cst, evE_glob, evE_op, evE_neg, evE_cmp, evE_cmp2, evE_land, evE_lor, evE_lnot, evE_ite, evE_tup, evE_lst, evE_lstC, evE_dictK, evE_idx, evE_slc, evE_isi, evE_call, evE_blt, evE_cell, evE_meth, evT_land, evT_lor, evT_lnot, evT_cmp, evT_cmp2, evT_isi, evT_call, evT_blt, evT_idx, evT_cst, evT_op, evS_par, evS_expr, evS_ret, evS_pass, evS_brk, evS_cnt, evS_raise, x_try, catch_ret, catch_nx, catch_exc, evEs_nil, evEs_cons, evTs_nil, evTs_one, evAnd_one, evOr_one, evTAnd_one, evTOr_one, evSs_nil, evAnd_cons, evOr_cons, evTAnd_cons, evTOr_cons, op_add, op_sub, op_mul, op_mod, op_fdiv, op_tadd, op_ladd, op_sadd, cmp_lt, cmp_le, cmp_gt, cmp_ge, cmp_eq, cmp_ne, cmp_is, cmp_isnt, cmp_in, cmp_notin, eq_int, eq_str, eq_bl, isNon_non, isNon_int, isNon_str, isNon_bl, isNon_tup, isNon_lst, isi_int, isi_bl, isi_str, isi_tup, isi_lst, isi_non, isTy, ix_tup, ix_lst, ix_ro, at0, at1, at2, at3, at4, at5, bl_len, len_tup, len_lst, len_ro, bl_tuple, tup_tup, tup_lst, bl_list, seq_tup, seq_lst, seq_ro, lstO_lst, lstO_ro, bl_int, bl_abs, bl_max2, bl_min2, bl_max1, bl_min1, bl_maxd, bl_mind, bl_sum, bl_all, bl_any, bl_s, tru_int, tru_bl, tru_tup, tru_lst, get_app, get_app0, set_app, set_app0, m_append, rc_append, ite_ok, List.any_cons, List.any_nil, List.getElem?_cons_zero, List.getElem?_cons_succ, List.set_cons_zero, List.set_cons_succ, List.length_cons, List.length_nil, List.length_append, List.length_map, List.append_assoc, List.cons_append, List.nil_append, Option.map_some, Option.bind_some, Option.map_none, Option.bind_none, intsOf_map, blsOf_map, Nat.reduceAdd, Nat.reduceLT, Nat.reduceLeDiff, Nat.add_zero, Nat.zero_add, if_true, if_false, ite_self, decide_eq_true_eq, Bool.not_true, Bool.not_false, Bool.or_false, Bool.or_true, Bool.true_or, Bool.false_or, Bool.and_true, Bool.true_and, Bool.false_and, Bool.and_false, decide_true, decide_false, reduceCtorEq, eq_self, not_true_eq_false, not_false_eq_true, Bool.false_eq_true, Int.cast_ofNat_Int, Int.natCast_add, wipeD, s0, s1, up]⟩
  have so2 : ∀ M, callF T G 59 59 [.tup ((ns.map fun i => max 1 (up i s)).map D.int), .tup ((ns.map fun i => max 1 (up i s)).map D.int)] M = .ok (.bl true) M := fun M => so_ok 52 _ M (dats_so (by rw [List.length_map]; omega))
  have op : ∀ M, ms ≤ 30 * s → callF T G 59 338 [.tup (ns.map D.int), .int s] M = .ok (.tup ((ns.map fun i => max 1 (up i s)).map D.int)) M := fun M h => opened_ok 54 ns s M ok hs fun i hi => by
    rw [up_le s0]
    have := hms.2 i hi
    omega
  have wh : ∀ (i : Int) M, callF T G 59 125 [.int i] M = .ok (.bl true) M := fun i M => whole_int 58 i M
  have key : ∃ (d13 : D) (z14 : Option D), evSs ⟨callF T G 59, G⟩ f342_2 [some a, some (.lst (rs.map D.int)), some (.loc 0), x3, x4, x5, x6, x7, x8, x9, x10, x11, x12, x13, x14] [.lst [.int p]] = .nx [some a, some (.lst (rs.map D.int)), some (.loc 0), x3, some (.tup (ns.map D.int)), y5, some (.int n), some (.int s), some (.tup (now.map D.int)), some (.tup (more.map D.int)), some (.int 0), y11, some (.int t), some d13, z14] [.lst [.int (p1 + 1 + 1 + 1)]] := by
    have s2 : 1 ≤ s ∧ s ≤ 30 := hs
    rcases told_ok 53 ns s t [.lst [.int (p1 + 1 + 1 + 1)]] ok hs (by omega) with ⟨m, m1, m2, m3, m4, m5⟩ | ⟨m4, m5⟩ <;> simp only [Nat.reduceAdd] at m5
    · have lwm : ∀ M, callF T G 59 336 [.tup (ns.map D.int), .int m, .int s] M = .ok (.int (LL (m * s) ns)) M := fun M => longest_wait_ok 54 ns m s M ok (by omega) hs
      have k1 : ¬ t < LL (m * s) ns := by have : LL (m * s) ns ≤ t := m3; omega
      by_cases k2 : 1 < m
      · have lwm1 : ∀ M, callF T G 59 336 [.tup (ns.map D.int), .int (m - 1), .int s] M = .ok (.int (LL ((m - 1) * s) ns)) M := fun M => longest_wait_ok 54 ns (m - 1) s M ok (by omega) hs
        have k3 : ¬ LL ((m - 1) * s) ns ≤ t := by have : t < LL ((m - 1) * s) ns := m4 (m - 1) (by omega) (by omega); omega
        by_cases q : ms ≤ 30 * s
        · refine ⟨.int m, x14, ?_⟩
          rw [f342_2]
          simp only [x_seq, seq_nx, seq_ret, seq_exc, seq_brk, seq_cnt, x_asg, x_asgt, asgT_name, asgT_tup, asgTs_nil, asgTs_cons, rsopt, x_ite, x_var, get_some, x_tvar, tru_some, x_setI, rsmem, bind_ok, bind_exc, toRS_ok, toRS_exc, opt_some, fin_keep, fin_nxk, fin_exc, fin_ret, fin_nx, leave_keep, leave_dat, leave_nil, leave_spot, leave_spot0, nn1, Int.reduceLT, Int.reduceLE, Int.reduceAdd, Int.reduceSub, Int.reduceNeg, Int.reduceMul, dat_non, dat_int, dat_str, dat_bl, dat_tup, dat_lst, dats_nil, dats_cons, dats_ints, dats_bls, dats_strs, evE_cst, evE_glob, evE_op, evE_neg, evE_cmp, evE_cmp2, evE_land, evE_lor, evE_lnot, evE_ite, evE_tup, evE_lst, evE_lstC, evE_dictK, evE_idx, evE_slc, evE_isi, evE_call, evE_blt, evE_cell, evE_meth, evT_land, evT_lor, evT_lnot, evT_cmp, evT_cmp2, evT_isi, evT_call, evT_blt, evT_idx, evT_cst, evT_op, evS_par, evS_expr, evS_ret, evS_pass, evS_brk, evS_cnt, evS_raise, x_try, catch_ret, catch_nx, catch_exc, evEs_nil, evEs_cons, evTs_nil, evTs_one, evAnd_one, evOr_one, evTAnd_one, evTOr_one, evSs_nil, evAnd_cons, evOr_cons, evTAnd_cons, evTOr_cons, op_add, op_sub, op_mul, op_mod, op_fdiv, op_tadd, op_ladd, op_sadd, cmp_lt, cmp_le, cmp_gt, cmp_ge, cmp_eq, cmp_ne, cmp_is, cmp_isnt, cmp_in, cmp_notin, eq_int, eq_str, eq_bl, isNon_non, isNon_int, isNon_str, isNon_bl, isNon_tup, isNon_lst, isi_int, isi_bl, isi_str, isi_tup, isi_lst, isi_non, isTy, ix_tup, ix_lst, ix_ro, at0, at1, at2, at3, at4, at5, bl_len, len_tup, len_lst, len_ro, bl_tuple, tup_tup, tup_lst, bl_list, seq_tup, seq_lst, seq_ro, lstO_lst, lstO_ro, bl_int, bl_abs, bl_max2, bl_min2, bl_max1, bl_min1, bl_maxd, bl_mind, bl_sum, bl_all, bl_any, bl_s, tru_int, tru_bl, tru_tup, tru_lst, get_app, get_app0, set_app, set_app0, m_append, rc_append, ite_ok, List.any_cons, List.any_nil, List.getElem?_cons_zero, List.getElem?_cons_succ, List.set_cons_zero, List.set_cons_succ, List.length_cons, List.length_nil, List.length_append, List.length_map, List.append_assoc, List.cons_append, List.nil_append, Option.map_some, Option.bind_some, Option.map_none, Option.bind_none, intsOf_map, blsOf_map, Nat.reduceAdd, Nat.reduceLT, Nat.reduceLeDiff, Nat.add_zero, Nat.zero_add, if_true, if_false, ite_self, decide_eq_true_eq, Bool.not_true, Bool.not_false, Bool.or_false, Bool.or_true, Bool.true_or, Bool.false_or, Bool.and_true, Bool.true_and, Bool.false_and, Bool.and_false, decide_true, decide_false, reduceCtorEq, eq_self, not_true_eq_false, not_false_eq_true, Bool.false_eq_true, Int.cast_ofNat_Int, Int.natCast_add, es, en, e1, e2, e3, e4, e5, f1, h1, f2, h2, c1, c2, sl, zin, q1, q2, q3, lw, lw1, lw30, hm1, emx, so1, m5, wh, lwm, k1, k2, lwm1, k3, ems, m30, q, op _ q, c3, so2]
        · refine ⟨.int m, x14, ?_⟩
          rw [f342_2]
          simp only [x_seq, seq_nx, seq_ret, seq_exc, seq_brk, seq_cnt, x_asg, x_asgt, asgT_name, asgT_tup, asgTs_nil, asgTs_cons, rsopt, x_ite, x_var, get_some, x_tvar, tru_some, x_setI, rsmem, bind_ok, bind_exc, toRS_ok, toRS_exc, opt_some, fin_keep, fin_nxk, fin_exc, fin_ret, fin_nx, leave_keep, leave_dat, leave_nil, leave_spot, leave_spot0, nn1, Int.reduceLT, Int.reduceLE, Int.reduceAdd, Int.reduceSub, Int.reduceNeg, Int.reduceMul, dat_non, dat_int, dat_str, dat_bl, dat_tup, dat_lst, dats_nil, dats_cons, dats_ints, dats_bls, dats_strs, evE_cst, evE_glob, evE_op, evE_neg, evE_cmp, evE_cmp2, evE_land, evE_lor, evE_lnot, evE_ite, evE_tup, evE_lst, evE_lstC, evE_dictK, evE_idx, evE_slc, evE_isi, evE_call, evE_blt, evE_cell, evE_meth, evT_land, evT_lor, evT_lnot, evT_cmp, evT_cmp2, evT_isi, evT_call, evT_blt, evT_idx, evT_cst, evT_op, evS_par, evS_expr, evS_ret, evS_pass, evS_brk, evS_cnt, evS_raise, x_try, catch_ret, catch_nx, catch_exc, evEs_nil, evEs_cons, evTs_nil, evTs_one, evAnd_one, evOr_one, evTAnd_one, evTOr_one, evSs_nil, evAnd_cons, evOr_cons, evTAnd_cons, evTOr_cons, op_add, op_sub, op_mul, op_mod, op_fdiv, op_tadd, op_ladd, op_sadd, cmp_lt, cmp_le, cmp_gt, cmp_ge, cmp_eq, cmp_ne, cmp_is, cmp_isnt, cmp_in, cmp_notin, eq_int, eq_str, eq_bl, isNon_non, isNon_int, isNon_str, isNon_bl, isNon_tup, isNon_lst, isi_int, isi_bl, isi_str, isi_tup, isi_lst, isi_non, isTy, ix_tup, ix_lst, ix_ro, at0, at1, at2, at3, at4, at5, bl_len, len_tup, len_lst, len_ro, bl_tuple, tup_tup, tup_lst, bl_list, seq_tup, seq_lst, seq_ro, lstO_lst, lstO_ro, bl_int, bl_abs, bl_max2, bl_min2, bl_max1, bl_min1, bl_maxd, bl_mind, bl_sum, bl_all, bl_any, bl_s, tru_int, tru_bl, tru_tup, tru_lst, get_app, get_app0, set_app, set_app0, m_append, rc_append, ite_ok, List.any_cons, List.any_nil, List.getElem?_cons_zero, List.getElem?_cons_succ, List.set_cons_zero, List.set_cons_succ, List.length_cons, List.length_nil, List.length_append, List.length_map, List.append_assoc, List.cons_append, List.nil_append, Option.map_some, Option.bind_some, Option.map_none, Option.bind_none, intsOf_map, blsOf_map, Nat.reduceAdd, Nat.reduceLT, Nat.reduceLeDiff, Nat.add_zero, Nat.zero_add, if_true, if_false, ite_self, decide_eq_true_eq, Bool.not_true, Bool.not_false, Bool.or_false, Bool.or_true, Bool.true_or, Bool.false_or, Bool.and_true, Bool.true_and, Bool.false_and, Bool.and_false, decide_true, decide_false, reduceCtorEq, eq_self, not_true_eq_false, not_false_eq_true, Bool.false_eq_true, Int.cast_ofNat_Int, Int.natCast_add, es, en, e1, e2, e3, e4, e5, f1, h1, f2, h2, c1, c2, sl, zin, q1, q2, q3, lw, lw1, lw30, hm1, emx, so1, m5, wh, lwm, k1, k2, lwm1, k3, ems, m30, q]
      · by_cases q : ms ≤ 30 * s
        · refine ⟨.int m, x14, ?_⟩
          rw [f342_2]
          simp only [x_seq, seq_nx, seq_ret, seq_exc, seq_brk, seq_cnt, x_asg, x_asgt, asgT_name, asgT_tup, asgTs_nil, asgTs_cons, rsopt, x_ite, x_var, get_some, x_tvar, tru_some, x_setI, rsmem, bind_ok, bind_exc, toRS_ok, toRS_exc, opt_some, fin_keep, fin_nxk, fin_exc, fin_ret, fin_nx, leave_keep, leave_dat, leave_nil, leave_spot, leave_spot0, nn1, Int.reduceLT, Int.reduceLE, Int.reduceAdd, Int.reduceSub, Int.reduceNeg, Int.reduceMul, dat_non, dat_int, dat_str, dat_bl, dat_tup, dat_lst, dats_nil, dats_cons, dats_ints, dats_bls, dats_strs, evE_cst, evE_glob, evE_op, evE_neg, evE_cmp, evE_cmp2, evE_land, evE_lor, evE_lnot, evE_ite, evE_tup, evE_lst, evE_lstC, evE_dictK, evE_idx, evE_slc, evE_isi, evE_call, evE_blt, evE_cell, evE_meth, evT_land, evT_lor, evT_lnot, evT_cmp, evT_cmp2, evT_isi, evT_call, evT_blt, evT_idx, evT_cst, evT_op, evS_par, evS_expr, evS_ret, evS_pass, evS_brk, evS_cnt, evS_raise, x_try, catch_ret, catch_nx, catch_exc, evEs_nil, evEs_cons, evTs_nil, evTs_one, evAnd_one, evOr_one, evTAnd_one, evTOr_one, evSs_nil, evAnd_cons, evOr_cons, evTAnd_cons, evTOr_cons, op_add, op_sub, op_mul, op_mod, op_fdiv, op_tadd, op_ladd, op_sadd, cmp_lt, cmp_le, cmp_gt, cmp_ge, cmp_eq, cmp_ne, cmp_is, cmp_isnt, cmp_in, cmp_notin, eq_int, eq_str, eq_bl, isNon_non, isNon_int, isNon_str, isNon_bl, isNon_tup, isNon_lst, isi_int, isi_bl, isi_str, isi_tup, isi_lst, isi_non, isTy, ix_tup, ix_lst, ix_ro, at0, at1, at2, at3, at4, at5, bl_len, len_tup, len_lst, len_ro, bl_tuple, tup_tup, tup_lst, bl_list, seq_tup, seq_lst, seq_ro, lstO_lst, lstO_ro, bl_int, bl_abs, bl_max2, bl_min2, bl_max1, bl_min1, bl_maxd, bl_mind, bl_sum, bl_all, bl_any, bl_s, tru_int, tru_bl, tru_tup, tru_lst, get_app, get_app0, set_app, set_app0, m_append, rc_append, ite_ok, List.any_cons, List.any_nil, List.getElem?_cons_zero, List.getElem?_cons_succ, List.set_cons_zero, List.set_cons_succ, List.length_cons, List.length_nil, List.length_append, List.length_map, List.append_assoc, List.cons_append, List.nil_append, Option.map_some, Option.bind_some, Option.map_none, Option.bind_none, intsOf_map, blsOf_map, Nat.reduceAdd, Nat.reduceLT, Nat.reduceLeDiff, Nat.add_zero, Nat.zero_add, if_true, if_false, ite_self, decide_eq_true_eq, Bool.not_true, Bool.not_false, Bool.or_false, Bool.or_true, Bool.true_or, Bool.false_or, Bool.and_true, Bool.true_and, Bool.false_and, Bool.and_false, decide_true, decide_false, reduceCtorEq, eq_self, not_true_eq_false, not_false_eq_true, Bool.false_eq_true, Int.cast_ofNat_Int, Int.natCast_add, es, en, e1, e2, e3, e4, e5, f1, h1, f2, h2, c1, c2, sl, zin, q1, q2, q3, lw, lw1, lw30, hm1, emx, so1, m5, wh, lwm, k1, k2, ems, m30, q, op _ q, c3, so2]
        · refine ⟨.int m, x14, ?_⟩
          rw [f342_2]
          simp only [x_seq, seq_nx, seq_ret, seq_exc, seq_brk, seq_cnt, x_asg, x_asgt, asgT_name, asgT_tup, asgTs_nil, asgTs_cons, rsopt, x_ite, x_var, get_some, x_tvar, tru_some, x_setI, rsmem, bind_ok, bind_exc, toRS_ok, toRS_exc, opt_some, fin_keep, fin_nxk, fin_exc, fin_ret, fin_nx, leave_keep, leave_dat, leave_nil, leave_spot, leave_spot0, nn1, Int.reduceLT, Int.reduceLE, Int.reduceAdd, Int.reduceSub, Int.reduceNeg, Int.reduceMul, dat_non, dat_int, dat_str, dat_bl, dat_tup, dat_lst, dats_nil, dats_cons, dats_ints, dats_bls, dats_strs, evE_cst, evE_glob, evE_op, evE_neg, evE_cmp, evE_cmp2, evE_land, evE_lor, evE_lnot, evE_ite, evE_tup, evE_lst, evE_lstC, evE_dictK, evE_idx, evE_slc, evE_isi, evE_call, evE_blt, evE_cell, evE_meth, evT_land, evT_lor, evT_lnot, evT_cmp, evT_cmp2, evT_isi, evT_call, evT_blt, evT_idx, evT_cst, evT_op, evS_par, evS_expr, evS_ret, evS_pass, evS_brk, evS_cnt, evS_raise, x_try, catch_ret, catch_nx, catch_exc, evEs_nil, evEs_cons, evTs_nil, evTs_one, evAnd_one, evOr_one, evTAnd_one, evTOr_one, evSs_nil, evAnd_cons, evOr_cons, evTAnd_cons, evTOr_cons, op_add, op_sub, op_mul, op_mod, op_fdiv, op_tadd, op_ladd, op_sadd, cmp_lt, cmp_le, cmp_gt, cmp_ge, cmp_eq, cmp_ne, cmp_is, cmp_isnt, cmp_in, cmp_notin, eq_int, eq_str, eq_bl, isNon_non, isNon_int, isNon_str, isNon_bl, isNon_tup, isNon_lst, isi_int, isi_bl, isi_str, isi_tup, isi_lst, isi_non, isTy, ix_tup, ix_lst, ix_ro, at0, at1, at2, at3, at4, at5, bl_len, len_tup, len_lst, len_ro, bl_tuple, tup_tup, tup_lst, bl_list, seq_tup, seq_lst, seq_ro, lstO_lst, lstO_ro, bl_int, bl_abs, bl_max2, bl_min2, bl_max1, bl_min1, bl_maxd, bl_mind, bl_sum, bl_all, bl_any, bl_s, tru_int, tru_bl, tru_tup, tru_lst, get_app, get_app0, set_app, set_app0, m_append, rc_append, ite_ok, List.any_cons, List.any_nil, List.getElem?_cons_zero, List.getElem?_cons_succ, List.set_cons_zero, List.set_cons_succ, List.length_cons, List.length_nil, List.length_append, List.length_map, List.append_assoc, List.cons_append, List.nil_append, Option.map_some, Option.bind_some, Option.map_none, Option.bind_none, intsOf_map, blsOf_map, Nat.reduceAdd, Nat.reduceLT, Nat.reduceLeDiff, Nat.add_zero, Nat.zero_add, if_true, if_false, ite_self, decide_eq_true_eq, Bool.not_true, Bool.not_false, Bool.or_false, Bool.or_true, Bool.true_or, Bool.false_or, Bool.and_true, Bool.true_and, Bool.false_and, Bool.and_false, decide_true, decide_false, reduceCtorEq, eq_self, not_true_eq_false, not_false_eq_true, Bool.false_eq_true, Int.cast_ofNat_Int, Int.natCast_add, es, en, e1, e2, e3, e4, e5, f1, h1, f2, h2, c1, c2, sl, zin, q1, q2, q3, lw, lw1, lw30, hm1, emx, so1, m5, wh, lwm, k1, k2, ems, m30, q]
    · have k3 : ¬ LL (30 * s) ns ≤ t := by have : t < LL (30 * s) ns := m4 30 (by decide) (by decide); omega
      by_cases q : ms ≤ 30 * s
      · refine ⟨.non, x14, ?_⟩
        rw [f342_2]
        simp only [x_seq, seq_nx, seq_ret, seq_exc, seq_brk, seq_cnt, x_asg, x_asgt, asgT_name, asgT_tup, asgTs_nil, asgTs_cons, rsopt, x_ite, x_var, get_some, x_tvar, tru_some, x_setI, rsmem, bind_ok, bind_exc, toRS_ok, toRS_exc, opt_some, fin_keep, fin_nxk, fin_exc, fin_ret, fin_nx, leave_keep, leave_dat, leave_nil, leave_spot, leave_spot0, nn1, Int.reduceLT, Int.reduceLE, Int.reduceAdd, Int.reduceSub, Int.reduceNeg, Int.reduceMul, dat_non, dat_int, dat_str, dat_bl, dat_tup, dat_lst, dats_nil, dats_cons, dats_ints, dats_bls, dats_strs, evE_cst, evE_glob, evE_op, evE_neg, evE_cmp, evE_cmp2, evE_land, evE_lor, evE_lnot, evE_ite, evE_tup, evE_lst, evE_lstC, evE_dictK, evE_idx, evE_slc, evE_isi, evE_call, evE_blt, evE_cell, evE_meth, evT_land, evT_lor, evT_lnot, evT_cmp, evT_cmp2, evT_isi, evT_call, evT_blt, evT_idx, evT_cst, evT_op, evS_par, evS_expr, evS_ret, evS_pass, evS_brk, evS_cnt, evS_raise, x_try, catch_ret, catch_nx, catch_exc, evEs_nil, evEs_cons, evTs_nil, evTs_one, evAnd_one, evOr_one, evTAnd_one, evTOr_one, evSs_nil, evAnd_cons, evOr_cons, evTAnd_cons, evTOr_cons, op_add, op_sub, op_mul, op_mod, op_fdiv, op_tadd, op_ladd, op_sadd, cmp_lt, cmp_le, cmp_gt, cmp_ge, cmp_eq, cmp_ne, cmp_is, cmp_isnt, cmp_in, cmp_notin, eq_int, eq_str, eq_bl, isNon_non, isNon_int, isNon_str, isNon_bl, isNon_tup, isNon_lst, isi_int, isi_bl, isi_str, isi_tup, isi_lst, isi_non, isTy, ix_tup, ix_lst, ix_ro, at0, at1, at2, at3, at4, at5, bl_len, len_tup, len_lst, len_ro, bl_tuple, tup_tup, tup_lst, bl_list, seq_tup, seq_lst, seq_ro, lstO_lst, lstO_ro, bl_int, bl_abs, bl_max2, bl_min2, bl_max1, bl_min1, bl_maxd, bl_mind, bl_sum, bl_all, bl_any, bl_s, tru_int, tru_bl, tru_tup, tru_lst, get_app, get_app0, set_app, set_app0, m_append, rc_append, ite_ok, List.any_cons, List.any_nil, List.getElem?_cons_zero, List.getElem?_cons_succ, List.set_cons_zero, List.set_cons_succ, List.length_cons, List.length_nil, List.length_append, List.length_map, List.append_assoc, List.cons_append, List.nil_append, Option.map_some, Option.bind_some, Option.map_none, Option.bind_none, intsOf_map, blsOf_map, Nat.reduceAdd, Nat.reduceLT, Nat.reduceLeDiff, Nat.add_zero, Nat.zero_add, if_true, if_false, ite_self, decide_eq_true_eq, Bool.not_true, Bool.not_false, Bool.or_false, Bool.or_true, Bool.true_or, Bool.false_or, Bool.and_true, Bool.true_and, Bool.false_and, Bool.and_false, decide_true, decide_false, reduceCtorEq, eq_self, not_true_eq_false, not_false_eq_true, Bool.false_eq_true, Int.cast_ofNat_Int, Int.natCast_add, es, en, e1, e2, e3, e4, e5, f1, h1, f2, h2, c1, c2, sl, zin, q1, q2, q3, lw, lw1, lw30, hm1, emx, so1, m5, k3, ems, m30, q, op _ q, c3, so2]
      · refine ⟨.non, x14, ?_⟩
        rw [f342_2]
        simp only [x_seq, seq_nx, seq_ret, seq_exc, seq_brk, seq_cnt, x_asg, x_asgt, asgT_name, asgT_tup, asgTs_nil, asgTs_cons, rsopt, x_ite, x_var, get_some, x_tvar, tru_some, x_setI, rsmem, bind_ok, bind_exc, toRS_ok, toRS_exc, opt_some, fin_keep, fin_nxk, fin_exc, fin_ret, fin_nx, leave_keep, leave_dat, leave_nil, leave_spot, leave_spot0, nn1, Int.reduceLT, Int.reduceLE, Int.reduceAdd, Int.reduceSub, Int.reduceNeg, Int.reduceMul, dat_non, dat_int, dat_str, dat_bl, dat_tup, dat_lst, dats_nil, dats_cons, dats_ints, dats_bls, dats_strs, evE_cst, evE_glob, evE_op, evE_neg, evE_cmp, evE_cmp2, evE_land, evE_lor, evE_lnot, evE_ite, evE_tup, evE_lst, evE_lstC, evE_dictK, evE_idx, evE_slc, evE_isi, evE_call, evE_blt, evE_cell, evE_meth, evT_land, evT_lor, evT_lnot, evT_cmp, evT_cmp2, evT_isi, evT_call, evT_blt, evT_idx, evT_cst, evT_op, evS_par, evS_expr, evS_ret, evS_pass, evS_brk, evS_cnt, evS_raise, x_try, catch_ret, catch_nx, catch_exc, evEs_nil, evEs_cons, evTs_nil, evTs_one, evAnd_one, evOr_one, evTAnd_one, evTOr_one, evSs_nil, evAnd_cons, evOr_cons, evTAnd_cons, evTOr_cons, op_add, op_sub, op_mul, op_mod, op_fdiv, op_tadd, op_ladd, op_sadd, cmp_lt, cmp_le, cmp_gt, cmp_ge, cmp_eq, cmp_ne, cmp_is, cmp_isnt, cmp_in, cmp_notin, eq_int, eq_str, eq_bl, isNon_non, isNon_int, isNon_str, isNon_bl, isNon_tup, isNon_lst, isi_int, isi_bl, isi_str, isi_tup, isi_lst, isi_non, isTy, ix_tup, ix_lst, ix_ro, at0, at1, at2, at3, at4, at5, bl_len, len_tup, len_lst, len_ro, bl_tuple, tup_tup, tup_lst, bl_list, seq_tup, seq_lst, seq_ro, lstO_lst, lstO_ro, bl_int, bl_abs, bl_max2, bl_min2, bl_max1, bl_min1, bl_maxd, bl_mind, bl_sum, bl_all, bl_any, bl_s, tru_int, tru_bl, tru_tup, tru_lst, get_app, get_app0, set_app, set_app0, m_append, rc_append, ite_ok, List.any_cons, List.any_nil, List.getElem?_cons_zero, List.getElem?_cons_succ, List.set_cons_zero, List.set_cons_succ, List.length_cons, List.length_nil, List.length_append, List.length_map, List.append_assoc, List.cons_append, List.nil_append, Option.map_some, Option.bind_some, Option.map_none, Option.bind_none, intsOf_map, blsOf_map, Nat.reduceAdd, Nat.reduceLT, Nat.reduceLeDiff, Nat.add_zero, Nat.zero_add, if_true, if_false, ite_self, decide_eq_true_eq, Bool.not_true, Bool.not_false, Bool.or_false, Bool.or_true, Bool.true_or, Bool.false_or, Bool.and_true, Bool.true_and, Bool.false_and, Bool.and_false, decide_true, decide_false, reduceCtorEq, eq_self, not_true_eq_false, not_false_eq_true, Bool.false_eq_true, Int.cast_ofNat_Int, Int.natCast_add, es, en, e1, e2, e3, e4, e5, f1, h1, f2, h2, c1, c2, sl, zin, q1, q2, q3, lw, lw1, lw30, hm1, emx, so1, m5, k3, ems, m30, q]
  obtain ⟨d13, z14, e⟩ := key
  exact ⟨_, _, e, _, _, _, _, _, _, _, _, _, _, _, _, _, by omega, rfl, rfl⟩
theorem law_true : ∀ ns : List Int, ns.length ≤ 63 → ∃ M', callF T G 60 342 [.ro true (ns.map D.int)] [] = .ok (.bl true) M' := by
  intro ns _
  obtain ⟨rs, hne, er⟩ := numbers_ok 58 ns []
  obtain ⟨ρ', M', e, x3, x4, x5, x6, x7, x8, x9, x10, x11, x12, x13, x14, p, hp, rfl, rfl⟩ := for_inv0 (gd := []) (b := asgT (.name 3)) (f := fun ρ M => evSs ⟨callF T G 59, G⟩ f342_2 ρ M) (fun _ ρ M => St (.ro true (ns.map D.int)) rs ρ M) (rngI 0 4) [some (.ro true (ns.map D.int)), some (.lst (rs.map D.int)), some (.loc 0), none, none, none, none, none, none, none, none, none, none, none, none] [.lst [.int 0]] ⟨_, _, _, _, _, _, _, _, _, _, _, _, 0, by decide, rfl, rfl⟩ (by
    rintro i ρ M d hd ⟨x3, x4, x5, x6, x7, x8, x9, x10, x11, x12, x13, x14, p, hp, rfl, rfl⟩
    obtain ⟨ρ', M', e, h⟩ := turn (.ro true (ns.map D.int)) rs hne (some d) x4 x5 x6 x7 x8 x9 x10 x11 x12 x13 x14 p hp
    exact ⟨_, rfl, ρ', M', .inl e, h⟩) (fun _ _ _ _ => rfl)
  have el : evS ⟨callF T G 59, G⟩ l342_2 [some (.ro true (ns.map D.int)), some (.lst (rs.map D.int)), some (.loc 0), none, none, none, none, none, none, none, none, none, none, none, none] [.lst [.int 0]] = .nx [some (.ro true (ns.map D.int)), some (.lst (rs.map D.int)), some (.loc 0), x3, x4, x5, x6, x7, x8, x9, x10, x11, x12, x13, x14] [.lst [.int p]] := by
    rw [l342_2, for_rngN (M1 := [.lst [.int 0]]) 4 (by simp only [x_seq, seq_nx, seq_ret, seq_exc, seq_brk, seq_cnt, x_asg, x_asgt, asgT_name, asgT_tup, asgTs_nil, asgTs_cons, rsopt, x_ite, x_var, get_some, x_tvar, tru_some, x_setI, rsmem, bind_ok, bind_exc, toRS_ok, toRS_exc, opt_some, fin_keep, fin_nxk, fin_exc, fin_ret, fin_nx, leave_keep, leave_dat, leave_nil, leave_spot, leave_spot0, nn1, Int.reduceLT, Int.reduceLE, Int.reduceAdd, Int.reduceSub, Int.reduceNeg, Int.reduceMul, dat_non, dat_int, dat_str, dat_bl, dat_tup, dat_lst, dats_nil, dats_cons, dats_ints, dats_bls, dats_strs, evE_cst, evE_glob, evE_op, evE_neg, evE_cmp, evE_cmp2, evE_land, evE_lor, evE_lnot, evE_ite, evE_tup, evE_lst, evE_lstC, evE_dictK, evE_idx, evE_slc, evE_isi, evE_call, evE_blt, evE_cell, evE_meth, evT_land, evT_lor, evT_lnot, evT_cmp, evT_cmp2, evT_isi, evT_call, evT_blt, evT_idx, evT_cst, evT_op, evS_par, evS_expr, evS_ret, evS_pass, evS_brk, evS_cnt, evS_raise, x_try, catch_ret, catch_nx, catch_exc, evEs_nil, evEs_cons, evTs_nil, evTs_one, evAnd_one, evOr_one, evTAnd_one, evTOr_one, evSs_nil, evAnd_cons, evOr_cons, evTAnd_cons, evTOr_cons, op_add, op_sub, op_mul, op_mod, op_fdiv, op_tadd, op_ladd, op_sadd, cmp_lt, cmp_le, cmp_gt, cmp_ge, cmp_eq, cmp_ne, cmp_is, cmp_isnt, cmp_in, cmp_notin, eq_int, eq_str, eq_bl, isNon_non, isNon_int, isNon_str, isNon_bl, isNon_tup, isNon_lst, isi_int, isi_bl, isi_str, isi_tup, isi_lst, isi_non, isTy, ix_tup, ix_lst, ix_ro, at0, at1, at2, at3, at4, at5, bl_len, len_tup, len_lst, len_ro, bl_tuple, tup_tup, tup_lst, bl_list, seq_tup, seq_lst, seq_ro, lstO_lst, lstO_ro, bl_int, bl_abs, bl_max2, bl_min2, bl_max1, bl_min1, bl_maxd, bl_mind, bl_sum, bl_all, bl_any, bl_s, tru_int, tru_bl, tru_tup, tru_lst, get_app, get_app0, set_app, set_app0, m_append, rc_append, ite_ok, List.any_cons, List.any_nil, List.getElem?_cons_zero, List.getElem?_cons_succ, List.set_cons_zero, List.set_cons_succ, List.length_cons, List.length_nil, List.length_append, List.length_map, List.append_assoc, List.cons_append, List.nil_append, Option.map_some, Option.bind_some, Option.map_none, Option.bind_none, intsOf_map, blsOf_map, Nat.reduceAdd, Nat.reduceLT, Nat.reduceLeDiff, Nat.add_zero, Nat.zero_add, if_true, if_false, ite_self, decide_eq_true_eq, Bool.not_true, Bool.not_false, Bool.or_false, Bool.or_true, Bool.true_or, Bool.false_or, Bool.and_true, Bool.true_and, Bool.false_and, Bool.and_false, decide_true, decide_false, reduceCtorEq, eq_self, not_true_eq_false, not_false_eq_true, Bool.false_eq_true, Int.cast_ofNat_Int, Int.natCast_add] <;> rfl) (by decide)]
    exact e
  refine ⟨[], ?_⟩
  rw [r342, b342]
  simp only [x_seq, seq_nx, seq_ret, seq_exc, seq_brk, seq_cnt, x_asg, x_asgt, asgT_name, asgT_tup, asgTs_nil, asgTs_cons, rsopt, x_ite, x_var, get_some, x_tvar, tru_some, x_setI, rsmem, bind_ok, bind_exc, toRS_ok, toRS_exc, opt_some, fin_keep, fin_nxk, fin_exc, fin_ret, fin_nx, leave_keep, leave_dat, leave_nil, leave_spot, leave_spot0, nn1, Int.reduceLT, Int.reduceLE, Int.reduceAdd, Int.reduceSub, Int.reduceNeg, Int.reduceMul, dat_non, dat_int, dat_str, dat_bl, dat_tup, dat_lst, dats_nil, dats_cons, dats_ints, dats_bls, dats_strs, evE_cst, evE_glob, evE_op, evE_neg, evE_cmp, evE_cmp2, evE_land, evE_lor, evE_lnot, evE_ite, evE_tup, evE_lst, evE_lstC, evE_dictK, evE_idx, evE_slc, evE_isi, evE_call, evE_blt, evE_cell, evE_meth, evT_land, evT_lor, evT_lnot, evT_cmp, evT_cmp2, evT_isi, evT_call, evT_blt, evT_idx, evT_cst, evT_op, evS_par, evS_expr, evS_ret, evS_pass, evS_brk, evS_cnt, evS_raise, x_try, catch_ret, catch_nx, catch_exc, evEs_nil, evEs_cons, evTs_nil, evTs_one, evAnd_one, evOr_one, evTAnd_one, evTOr_one, evSs_nil, evAnd_cons, evOr_cons, evTAnd_cons, evTOr_cons, op_add, op_sub, op_mul, op_mod, op_fdiv, op_tadd, op_ladd, op_sadd, cmp_lt, cmp_le, cmp_gt, cmp_ge, cmp_eq, cmp_ne, cmp_is, cmp_isnt, cmp_in, cmp_notin, eq_int, eq_str, eq_bl, isNon_non, isNon_int, isNon_str, isNon_bl, isNon_tup, isNon_lst, isi_int, isi_bl, isi_str, isi_tup, isi_lst, isi_non, isTy, ix_tup, ix_lst, ix_ro, at0, at1, at2, at3, at4, at5, bl_len, len_tup, len_lst, len_ro, bl_tuple, tup_tup, tup_lst, bl_list, seq_tup, seq_lst, seq_ro, lstO_lst, lstO_ro, bl_int, bl_abs, bl_max2, bl_min2, bl_max1, bl_min1, bl_maxd, bl_mind, bl_sum, bl_all, bl_any, bl_s, tru_int, tru_bl, tru_tup, tru_lst, get_app, get_app0, set_app, set_app0, m_append, rc_append, ite_ok, List.any_cons, List.any_nil, List.getElem?_cons_zero, List.getElem?_cons_succ, List.set_cons_zero, List.set_cons_succ, List.length_cons, List.length_nil, List.length_append, List.length_map, List.append_assoc, List.cons_append, List.nil_append, Option.map_some, Option.bind_some, Option.map_none, Option.bind_none, intsOf_map, blsOf_map, Nat.reduceAdd, Nat.reduceLT, Nat.reduceLeDiff, Nat.add_zero, Nat.zero_add, if_true, if_false, ite_self, decide_eq_true_eq, Bool.not_true, Bool.not_false, Bool.or_false, Bool.or_true, Bool.true_or, Bool.false_or, Bool.and_true, Bool.true_and, Bool.false_and, Bool.and_false, decide_true, decide_false, reduceCtorEq, eq_self, not_true_eq_false, not_false_eq_true, Bool.false_eq_true, Int.cast_ofNat_Int, Int.natCast_add, er, el]
end K74

set_option Elab.async false
set_option linter.all false
set_option maxRecDepth 100000
set_option maxHeartbeats 0
namespace K74
open PySem PySem.Spec PyProof.Rows L2 Pv
def fnm : Nat → Option (Str × Nat × Nat) := fun
  | 19 => some ("is_integer", 1, 0)
  | 20 => some ("is_within", 3, 0)
  | 21 => some ("is_row", 1, 0)
  | 30 => some ("integer_in", 4, 0)
  | 31 => some ("row_in", 4, 0)
  | 89 => some ("integers_in", 6, 0)
  | 333 => some ("slots_in", 2, 0)
  | 334 => some ("rounded_up", 2, 0)
  | 335 => some ("lines_left", 3, 0)
  | 336 => some ("longest_wait", 3, 0)
  | 337 => some ("fewest_desks", 3, 0)
  | 338 => some ("opened", 2, 0)
  | 339 => some ("lines_in", 2, 0)
  | 340 => some ("longest_in", 2, 0)
  | 59 => some ("_law_so", 2, 0)
  | 60 => some ("_law_numbers", 1, 0)
  | 61 => some ("_law_draw", 3, 0)
  | 62 => some ("_law_take", 3, 0)
  | 125 => some ("_law_whole", 1, 0)
  | 63 => some ("_law_pick", 3, 0)
  | 341 => some ("_law_told", 3, 0)
  | 342 => some ("law", 1, 0)
  | _ => none
def con : Nat → Option Str := fun
  | 33 => some "MOST_SLOTS"
  | 22 => some "MOST_PEOPLE"
  | 34 => some "MOST_DESKS"
  | 35 => some "GREATEST_SPEED"
  | 36 => some "MOST_WAIT"
  | _ => none
def free : List Str := ["all", "any", "bool", "int", "isinstance", "len", "list", "max", "range", "str", "tuple", "zip"]
def exs : Nat → Option Str := fun
  | 0 => some "NoPlan"
  | _ => none
def fx (K : PySem.W.Frag) : Bool := true && excB K "NoPlan" && exmB K "NoPlan" "NoPlan" true
def xi (K : PySem.W.Frag) : XTab := fun
  | 0 => some (He.ga K "NoPlan", none)
  | _ => none
def top (i : Nat) : Stmt := PySem.Challenge.pw_gatehold_k74_desks_more_never_longer.main.body.getD i (.Pass ⟨0, 0, 0, 0⟩)
def cc (N : List Str) (sc : Scope) : Cc := ⟨N, sc, fun _ => true, true, fnm, con, free, exs⟩
def N_is_integer : List Str := ["value"]
theorem chk_is_integer : all2 (chkS 40 40 (cc N_is_integer (defScope (top 5)))) b19 (defBody (top 5)) = true := by decide +kernel
theorem sc_is_integer : FnScope N_is_integer ["value"] (defScope (top 5)) := ⟨rfl, rfl, rfl, by decide +kernel, rfl, by decide +kernel, by decide +kernel⟩
def N_is_within : List Str := ["value", "low", "high"]
theorem chk_is_within : all2 (chkS 40 40 (cc N_is_within (defScope (top 6)))) b20 (defBody (top 6)) = true := by decide +kernel
theorem sc_is_within : FnScope N_is_within ["value", "low", "high"] (defScope (top 6)) := ⟨rfl, rfl, rfl, by decide +kernel, rfl, by decide +kernel, by decide +kernel⟩
def N_is_row : List Str := ["value"]
theorem chk_is_row : all2 (chkS 40 40 (cc N_is_row (defScope (top 7)))) b21 (defBody (top 7)) = true := by decide +kernel
theorem sc_is_row : FnScope N_is_row ["value"] (defScope (top 7)) := ⟨rfl, rfl, rfl, by decide +kernel, rfl, by decide +kernel, by decide +kernel⟩
def N_integer_in : List Str := ["value", "at", "low", "high"]
theorem chk_integer_in : all2 (chkS 40 40 (cc N_integer_in (defScope (top 8)))) b30 (defBody (top 8)) = true := by decide +kernel
theorem sc_integer_in : FnScope N_integer_in ["value", "at", "low", "high"] (defScope (top 8)) := ⟨rfl, rfl, rfl, by decide +kernel, rfl, by decide +kernel, by decide +kernel⟩
def N_row_in : List Str := ["value", "at", "least", "most"]
theorem chk_row_in : all2 (chkS 40 40 (cc N_row_in (defScope (top 9)))) b31 (defBody (top 9)) = true := by decide +kernel
theorem sc_row_in : FnScope N_row_in ["value", "at", "least", "most"] (defScope (top 9)) := ⟨rfl, rfl, rfl, by decide +kernel, rfl, by decide +kernel, by decide +kernel⟩
def N_integers_in : List Str := ["value", "at", "low", "high", "least", "most", "row", "one"]
theorem chk_integers_in : all2 (chkS 40 40 (cc N_integers_in (defScope (top 10)))) b89 (defBody (top 10)) = true := by decide +kernel
theorem sc_integers_in : FnScope N_integers_in ["value", "at", "low", "high", "least", "most"] (defScope (top 10)) := ⟨rfl, rfl, rfl, by decide +kernel, rfl, by decide +kernel, by decide +kernel⟩
def N_slots_in : List Str := ["value", "at"]
theorem chk_slots_in : all2 (chkS 40 40 (cc N_slots_in (defScope (top 14)))) b333 (defBody (top 14)) = true := by decide +kernel
theorem sc_slots_in : FnScope N_slots_in ["value", "at"] (defScope (top 14)) := ⟨rfl, rfl, rfl, by decide +kernel, rfl, by decide +kernel, by decide +kernel⟩
def N_rounded_up : List Str := ["number", "parts"]
theorem chk_rounded_up : all2 (chkS 40 40 (cc N_rounded_up (defScope (top 16)))) b334 (defBody (top 16)) = true := by decide +kernel
theorem sc_rounded_up : FnScope N_rounded_up ["number", "parts"] (defScope (top 16)) := ⟨rfl, rfl, rfl, by decide +kernel, rfl, by decide +kernel, by decide +kernel⟩
def N_lines_left : List Str := ["slots", "n", "speed", "people", "served", "lines"]
theorem chk_lines_left : all2 (chkS 40 40 (cc N_lines_left (defScope (top 21)))) b335 (defBody (top 21)) = true := by decide +kernel
theorem sc_lines_left : FnScope N_lines_left ["slots", "n", "speed"] (defScope (top 21)) := ⟨rfl, rfl, rfl, by decide +kernel, rfl, by decide +kernel, by decide +kernel⟩
def N_longest_wait : List Str := ["slots", "n", "speed", "people", "served"]
theorem chk_longest_wait : all2 (chkS 40 40 (cc N_longest_wait (defScope (top 22)))) b336 (defBody (top 22)) = true := by decide +kernel
theorem sc_longest_wait : FnScope N_longest_wait ["slots", "n", "speed"] (defScope (top 22)) := ⟨rfl, rfl, rfl, by decide +kernel, rfl, by decide +kernel, by decide +kernel⟩
def N_fewest_desks : List Str := ["slots", "speed", "wait", "people", "each", "most", "many"]
theorem chk_fewest_desks : all2 (chkS 40 40 (cc N_fewest_desks (defScope (top 23)))) b337 (defBody (top 23)) = true := by decide +kernel
theorem sc_fewest_desks : FnScope N_fewest_desks ["slots", "speed", "wait"] (defScope (top 23)) := ⟨rfl, rfl, rfl, by decide +kernel, rfl, by decide +kernel, by decide +kernel⟩
def N_opened : List Str := ["slots", "speed", "people", "each", "desks", "many"]
theorem chk_opened : all2 (chkS 40 40 (cc N_opened (defScope (top 24)))) b338 (defBody (top 24)) = true := by decide +kernel
theorem sc_opened : FnScope N_opened ["slots", "speed"] (defScope (top 24)) := ⟨rfl, rfl, rfl, by decide +kernel, rfl, by decide +kernel, by decide +kernel⟩
def N_lines_in : List Str := ["people", "served", "lines", "waiting", "many"]
theorem chk_lines_in : all2 (chkS 40 40 (cc N_lines_in (defScope (top 25)))) b339 (defBody (top 25)) = true := by decide +kernel
theorem sc_lines_in : FnScope N_lines_in ["people", "served"] (defScope (top 25)) := ⟨rfl, rfl, rfl, by decide +kernel, rfl, by decide +kernel, by decide +kernel⟩
def N_longest_in : List Str := ["people", "served", "lines", "many", "line"]
theorem chk_longest_in : all2 (chkS 40 40 (cc N_longest_in (defScope (top 26)))) b340 (defBody (top 26)) = true := by decide +kernel
theorem sc_longest_in : FnScope N_longest_in ["people", "served"] (defScope (top 26)) := ⟨rfl, rfl, rfl, by decide +kernel, rfl, by decide +kernel, by decide +kernel⟩
def N__law_so : List Str := ["found", "meant", "k"]
theorem chk__law_so : all2 (chkS 40 40 (cc N__law_so (defScope (top 28)))) b59 (defBody (top 28)) = true := by decide +kernel
theorem sc__law_so : FnScope N__law_so ["found", "meant"] (defScope (top 28)) := ⟨rfl, rfl, rfl, by decide +kernel, rfl, by decide +kernel, by decide +kernel⟩
def N__law_numbers : List Str := ["script", "row", "cell", "rest", "k", "stirred"]
theorem chk__law_numbers : all2 (chkS 40 40 (cc N__law_numbers (defScope (top 29)))) b60 (defBody (top 29)) = true := by decide +kernel
theorem sc__law_numbers : FnScope N__law_numbers ["script"] (defScope (top 29)) := ⟨rfl, rfl, rfl, by decide +kernel, rfl, by decide +kernel, by decide +kernel⟩
def N__law_draw : List Str := ["row", "at", "limit", "stirred"]
theorem chk__law_draw : all2 (chkS 40 40 (cc N__law_draw (defScope (top 30)))) b61 (defBody (top 30)) = true := by decide +kernel
theorem sc__law_draw : FnScope N__law_draw ["row", "at", "limit"] (defScope (top 30)) := ⟨rfl, rfl, rfl, by decide +kernel, rfl, by decide +kernel, by decide +kernel⟩
def N__law_take : List Str := ["row", "spot", "limit"]
theorem chk__law_take : all2 (chkS 40 40 (cc N__law_take (defScope (top 31)))) b62 (defBody (top 31)) = true := by decide +kernel
theorem sc__law_take : FnScope N__law_take ["row", "spot", "limit"] (defScope (top 31)) := ⟨rfl, rfl, rfl, by decide +kernel, rfl, by decide +kernel, by decide +kernel⟩
def N__law_whole : List Str := ["thing"]
theorem chk__law_whole : all2 (chkS 40 40 (cc N__law_whole (defScope (top 32)))) b125 (defBody (top 32)) = true := by decide +kernel
theorem sc__law_whole : FnScope N__law_whole ["thing"] (defScope (top 32)) := ⟨rfl, rfl, rfl, by decide +kernel, rfl, by decide +kernel, by decide +kernel⟩
def N__law_pick : List Str := ["row", "spot", "things"]
theorem chk__law_pick : all2 (chkS 40 40 (cc N__law_pick (defScope (top 33)))) b63 (defBody (top 33)) = true := by decide +kernel
theorem sc__law_pick : FnScope N__law_pick ["row", "spot", "things"] (defScope (top 33)) := ⟨rfl, rfl, rfl, by decide +kernel, rfl, by decide +kernel, by decide +kernel⟩
def N__law_told : List Str := ["slots", "speed", "wait"]
theorem chk__law_told : all2 (chkS 40 40 (cc N__law_told (defScope (top 34)))) b341 (defBody (top 34)) = true := by decide +kernel
theorem sc__law_told : FnScope N__law_told ["slots", "speed", "wait"] (defScope (top 34)) := ⟨rfl, rfl, rfl, by decide +kernel, rfl, by decide +kernel, by decide +kernel⟩
def N_law : List Str := ["script", "row", "spot", "again", "slots", "k", "n", "speed", "now", "more", "wait_here", "came", "wait", "least", "one"]
theorem chk_law : all2 (chkS 40 40 (cc N_law (defScope (top 35)))) b342 (defBody (top 35)) = true := by decide +kernel
theorem sc_law : FnScope N_law ["script"] (defScope (top 35)) := ⟨rfl, rfl, rfl, by decide +kernel, rfl, by decide +kernel, by decide +kernel⟩
def fn : List He.DefD := [⟨("is_integer", none), "is_integer", "is_integer", defArgs (top 5), defBody (top 5), defScope (top 5), [], []⟩,
 ⟨("is_within", none), "is_within", "is_within", defArgs (top 6), defBody (top 6), defScope (top 6), [], []⟩,
 ⟨("is_row", none), "is_row", "is_row", defArgs (top 7), defBody (top 7), defScope (top 7), [], []⟩,
 ⟨("integer_in", none), "integer_in", "integer_in", defArgs (top 8), defBody (top 8), defScope (top 8), [], []⟩,
 ⟨("row_in", none), "row_in", "row_in", defArgs (top 9), defBody (top 9), defScope (top 9), [], []⟩,
 ⟨("integers_in", none), "integers_in", "integers_in", defArgs (top 10), defBody (top 10), defScope (top 10), [], []⟩,
 ⟨("slots_in", none), "slots_in", "slots_in", defArgs (top 14), defBody (top 14), defScope (top 14), [], []⟩,
 ⟨("rounded_up", none), "rounded_up", "rounded_up", defArgs (top 16), defBody (top 16), defScope (top 16), [], []⟩,
 ⟨("lines_left", none), "lines_left", "lines_left", defArgs (top 21), defBody (top 21), defScope (top 21), [], []⟩,
 ⟨("longest_wait", none), "longest_wait", "longest_wait", defArgs (top 22), defBody (top 22), defScope (top 22), [], []⟩,
 ⟨("fewest_desks", none), "fewest_desks", "fewest_desks", defArgs (top 23), defBody (top 23), defScope (top 23), [], []⟩,
 ⟨("opened", none), "opened", "opened", defArgs (top 24), defBody (top 24), defScope (top 24), [], []⟩,
 ⟨("lines_in", none), "lines_in", "lines_in", defArgs (top 25), defBody (top 25), defScope (top 25), [], []⟩,
 ⟨("longest_in", none), "longest_in", "longest_in", defArgs (top 26), defBody (top 26), defScope (top 26), [], []⟩,
 ⟨("_law_so", none), "_law_so", "_law_so", defArgs (top 28), defBody (top 28), defScope (top 28), [], []⟩,
 ⟨("_law_numbers", none), "_law_numbers", "_law_numbers", defArgs (top 29), defBody (top 29), defScope (top 29), [], []⟩,
 ⟨("_law_draw", none), "_law_draw", "_law_draw", defArgs (top 30), defBody (top 30), defScope (top 30), [], []⟩,
 ⟨("_law_take", none), "_law_take", "_law_take", defArgs (top 31), defBody (top 31), defScope (top 31), [], []⟩,
 ⟨("_law_whole", none), "_law_whole", "_law_whole", defArgs (top 32), defBody (top 32), defScope (top 32), [], []⟩,
 ⟨("_law_pick", none), "_law_pick", "_law_pick", defArgs (top 33), defBody (top 33), defScope (top 33), [], []⟩,
 ⟨("_law_told", none), "_law_told", "_law_told", defArgs (top 34), defBody (top 34), defScope (top 34), [], []⟩,
 ⟨("law", none), "law", "law", defArgs (top 35), defBody (top 35), defScope (top 35), [], []⟩]
def fa : List He.Fa := [.glo "is_integer", .glo "is_within", .glo "is_row", .glo "integer_in", .glo "row_in", .glo "integers_in", .glo "slots_in", .glo "rounded_up", .glo "lines_left", .glo "longest_wait", .glo "fewest_desks", .glo "opened", .glo "lines_in", .glo "longest_in", .glo "_law_so", .glo "_law_numbers", .glo "_law_draw", .glo "_law_take", .glo "_law_whole", .glo "_law_pick", .glo "_law_told", .glo "law", .int "MOST_SLOTS" 48, .int "MOST_PEOPLE" 500, .int "MOST_DESKS" 30, .int "GREATEST_SPEED" 30, .int "MOST_WAIT" 10, .free "all", .free "any", .free "bool", .free "int", .free "isinstance", .free "len", .free "list", .free "max", .free "range", .free "str", .free "tuple", .free "zip"]
def loose0 : List Str := ["GateError", "BadValue", "NoPlan", "is_integer", "is_within", "is_row", "integer_in", "row_in", "integers_in", "MOST_SLOTS", "MOST_PEOPLE", "slots_in", "rounded_up", "MOST_DESKS", "GREATEST_SPEED", "MOST_WAIT", "lines_left", "longest_wait", "fewest_desks", "opened", "lines_in", "longest_in", "_law_so", "_law_numbers", "_law_draw", "_law_take", "_law_whole", "_law_pick", "_law_told"]
def loose : List Str := loose0
abbrev R : PySem.W.OpenRow := PySem.W.OpenLaw.row PySem.Challenge.rw_gatehold_k74_desks_more_never_longer
abbrev hk : PySem.W.Hook := hookX 4 fa fn fx
def ob (s : PySem.W.SharedT) : He.AlD × Bool := obsX 4 fa fn fx (HandSHeadRun.getT s)
theorem ob_eq (s : PySem.W.SharedT) : ob s = hk.obs s.abs := obsX_eq (HandSHeadRun.getT_eq s)
theorem run (w : World) : HandSHeadRun.RunEq R (PySem.W.view R.prog [35]) hk ob 6000 loose w := by
  intro os
  kernel_rfl
def md (w : World) (K : PySem.W.Frag) (mg : Str → Option Value) (base : Heap) : Md := ⟨(PySem.Challenge.rw_gatehold_k74_desks_more_never_longer).prog, w, K, mg, base, xi K, T, G, fnm, con, free, exs⟩
section
variable {w : World} {K : PySem.W.Frag} {mg : Str → Option Value} {base h : Heap}
theorem fd_is_integer (X : K.In h) (Gn : h.Ns mainGlobals mg) (c : He.SaysD fa fn K) : (md w K mg base).Fd 19 "is_integer" 1 0 := by
  obtain ⟨fd, F⟩ := c.def_ 0 (d := ⟨("is_integer", none), "is_integer", "is_integer", defArgs (top 5), defBody (top 5), defScope (top 5), [], []⟩) rfl
  exact ⟨d19, _, fd, _, _, _, _, _, N_is_integer, ["value"], _, _, rfl, He.glo_ok X Gn (c.fact 0 (f := .glo "is_integer") rfl), F, sc_is_integer, rfl, rfl, rfl, rfl, by decide, fun j hj => ⟨[], [], F.bindsN (fun _ _ _ _ _ _ us hl => match us, hl with | [_], _ => rfl), .nil, fun S => by have : j = 0 := Nat.le_zero.mp hj; subst this; exact .nil⟩, chk_is_integer⟩
theorem fd_is_within (X : K.In h) (Gn : h.Ns mainGlobals mg) (c : He.SaysD fa fn K) : (md w K mg base).Fd 20 "is_within" 3 0 := by
  obtain ⟨fd, F⟩ := c.def_ 1 (d := ⟨("is_within", none), "is_within", "is_within", defArgs (top 6), defBody (top 6), defScope (top 6), [], []⟩) rfl
  exact ⟨d20, _, fd, _, _, _, _, _, N_is_within, ["value", "low", "high"], _, _, rfl, He.glo_ok X Gn (c.fact 1 (f := .glo "is_within") rfl), F, sc_is_within, rfl, rfl, rfl, rfl, by decide, fun j hj => ⟨[], [], F.bindsN (fun _ _ _ _ _ _ us hl => match us, hl with | [_, _, _], _ => rfl), .nil, fun S => by have : j = 0 := Nat.le_zero.mp hj; subst this; exact .nil⟩, chk_is_within⟩
theorem fd_is_row (X : K.In h) (Gn : h.Ns mainGlobals mg) (c : He.SaysD fa fn K) : (md w K mg base).Fd 21 "is_row" 1 0 := by
  obtain ⟨fd, F⟩ := c.def_ 2 (d := ⟨("is_row", none), "is_row", "is_row", defArgs (top 7), defBody (top 7), defScope (top 7), [], []⟩) rfl
  exact ⟨d21, _, fd, _, _, _, _, _, N_is_row, ["value"], _, _, rfl, He.glo_ok X Gn (c.fact 2 (f := .glo "is_row") rfl), F, sc_is_row, rfl, rfl, rfl, rfl, by decide, fun j hj => ⟨[], [], F.bindsN (fun _ _ _ _ _ _ us hl => match us, hl with | [_], _ => rfl), .nil, fun S => by have : j = 0 := Nat.le_zero.mp hj; subst this; exact .nil⟩, chk_is_row⟩
theorem fd_integer_in (X : K.In h) (Gn : h.Ns mainGlobals mg) (c : He.SaysD fa fn K) : (md w K mg base).Fd 30 "integer_in" 4 0 := by
  obtain ⟨fd, F⟩ := c.def_ 3 (d := ⟨("integer_in", none), "integer_in", "integer_in", defArgs (top 8), defBody (top 8), defScope (top 8), [], []⟩) rfl
  exact ⟨d30, _, fd, _, _, _, _, _, N_integer_in, ["value", "at", "low", "high"], _, _, rfl, He.glo_ok X Gn (c.fact 3 (f := .glo "integer_in") rfl), F, sc_integer_in, rfl, rfl, rfl, rfl, by decide, fun j hj => ⟨[], [], F.bindsN (fun _ _ _ _ _ _ us hl => match us, hl with | [_, _, _, _], _ => rfl), .nil, fun S => by have : j = 0 := Nat.le_zero.mp hj; subst this; exact .nil⟩, chk_integer_in⟩
theorem fd_row_in (X : K.In h) (Gn : h.Ns mainGlobals mg) (c : He.SaysD fa fn K) : (md w K mg base).Fd 31 "row_in" 4 0 := by
  obtain ⟨fd, F⟩ := c.def_ 4 (d := ⟨("row_in", none), "row_in", "row_in", defArgs (top 9), defBody (top 9), defScope (top 9), [], []⟩) rfl
  exact ⟨d31, _, fd, _, _, _, _, _, N_row_in, ["value", "at", "least", "most"], _, _, rfl, He.glo_ok X Gn (c.fact 4 (f := .glo "row_in") rfl), F, sc_row_in, rfl, rfl, rfl, rfl, by decide, fun j hj => ⟨[], [], F.bindsN (fun _ _ _ _ _ _ us hl => match us, hl with | [_, _, _, _], _ => rfl), .nil, fun S => by have : j = 0 := Nat.le_zero.mp hj; subst this; exact .nil⟩, chk_row_in⟩
theorem fd_integers_in (X : K.In h) (Gn : h.Ns mainGlobals mg) (c : He.SaysD fa fn K) : (md w K mg base).Fd 89 "integers_in" 6 0 := by
  obtain ⟨fd, F⟩ := c.def_ 5 (d := ⟨("integers_in", none), "integers_in", "integers_in", defArgs (top 10), defBody (top 10), defScope (top 10), [], []⟩) rfl
  exact ⟨d89, _, fd, _, _, _, _, _, N_integers_in, ["value", "at", "low", "high", "least", "most"], _, _, rfl, He.glo_ok X Gn (c.fact 5 (f := .glo "integers_in") rfl), F, sc_integers_in, rfl, rfl, rfl, rfl, by decide, fun j hj => ⟨[], [], F.bindsN (fun _ _ _ _ _ _ us hl => match us, hl with | [_, _, _, _, _, _], _ => rfl), .nil, fun S => by have : j = 0 := Nat.le_zero.mp hj; subst this; exact .nil⟩, chk_integers_in⟩
theorem fd_slots_in (X : K.In h) (Gn : h.Ns mainGlobals mg) (c : He.SaysD fa fn K) : (md w K mg base).Fd 333 "slots_in" 2 0 := by
  obtain ⟨fd, F⟩ := c.def_ 6 (d := ⟨("slots_in", none), "slots_in", "slots_in", defArgs (top 14), defBody (top 14), defScope (top 14), [], []⟩) rfl
  exact ⟨d333, _, fd, _, _, _, _, _, N_slots_in, ["value", "at"], _, _, rfl, He.glo_ok X Gn (c.fact 6 (f := .glo "slots_in") rfl), F, sc_slots_in, rfl, rfl, rfl, rfl, by decide, fun j hj => ⟨[], [], F.bindsN (fun _ _ _ _ _ _ us hl => match us, hl with | [_, _], _ => rfl), .nil, fun S => by have : j = 0 := Nat.le_zero.mp hj; subst this; exact .nil⟩, chk_slots_in⟩
theorem fd_rounded_up (X : K.In h) (Gn : h.Ns mainGlobals mg) (c : He.SaysD fa fn K) : (md w K mg base).Fd 334 "rounded_up" 2 0 := by
  obtain ⟨fd, F⟩ := c.def_ 7 (d := ⟨("rounded_up", none), "rounded_up", "rounded_up", defArgs (top 16), defBody (top 16), defScope (top 16), [], []⟩) rfl
  exact ⟨d334, _, fd, _, _, _, _, _, N_rounded_up, ["number", "parts"], _, _, rfl, He.glo_ok X Gn (c.fact 7 (f := .glo "rounded_up") rfl), F, sc_rounded_up, rfl, rfl, rfl, rfl, by decide, fun j hj => ⟨[], [], F.bindsN (fun _ _ _ _ _ _ us hl => match us, hl with | [_, _], _ => rfl), .nil, fun S => by have : j = 0 := Nat.le_zero.mp hj; subst this; exact .nil⟩, chk_rounded_up⟩
theorem fd_lines_left (X : K.In h) (Gn : h.Ns mainGlobals mg) (c : He.SaysD fa fn K) : (md w K mg base).Fd 335 "lines_left" 3 0 := by
  obtain ⟨fd, F⟩ := c.def_ 8 (d := ⟨("lines_left", none), "lines_left", "lines_left", defArgs (top 21), defBody (top 21), defScope (top 21), [], []⟩) rfl
  exact ⟨d335, _, fd, _, _, _, _, _, N_lines_left, ["slots", "n", "speed"], _, _, rfl, He.glo_ok X Gn (c.fact 8 (f := .glo "lines_left") rfl), F, sc_lines_left, rfl, rfl, rfl, rfl, by decide, fun j hj => ⟨[], [], F.bindsN (fun _ _ _ _ _ _ us hl => match us, hl with | [_, _, _], _ => rfl), .nil, fun S => by have : j = 0 := Nat.le_zero.mp hj; subst this; exact .nil⟩, chk_lines_left⟩
theorem fd_longest_wait (X : K.In h) (Gn : h.Ns mainGlobals mg) (c : He.SaysD fa fn K) : (md w K mg base).Fd 336 "longest_wait" 3 0 := by
  obtain ⟨fd, F⟩ := c.def_ 9 (d := ⟨("longest_wait", none), "longest_wait", "longest_wait", defArgs (top 22), defBody (top 22), defScope (top 22), [], []⟩) rfl
  exact ⟨d336, _, fd, _, _, _, _, _, N_longest_wait, ["slots", "n", "speed"], _, _, rfl, He.glo_ok X Gn (c.fact 9 (f := .glo "longest_wait") rfl), F, sc_longest_wait, rfl, rfl, rfl, rfl, by decide, fun j hj => ⟨[], [], F.bindsN (fun _ _ _ _ _ _ us hl => match us, hl with | [_, _, _], _ => rfl), .nil, fun S => by have : j = 0 := Nat.le_zero.mp hj; subst this; exact .nil⟩, chk_longest_wait⟩
theorem fd_fewest_desks (X : K.In h) (Gn : h.Ns mainGlobals mg) (c : He.SaysD fa fn K) : (md w K mg base).Fd 337 "fewest_desks" 3 0 := by
  obtain ⟨fd, F⟩ := c.def_ 10 (d := ⟨("fewest_desks", none), "fewest_desks", "fewest_desks", defArgs (top 23), defBody (top 23), defScope (top 23), [], []⟩) rfl
  exact ⟨d337, _, fd, _, _, _, _, _, N_fewest_desks, ["slots", "speed", "wait"], _, _, rfl, He.glo_ok X Gn (c.fact 10 (f := .glo "fewest_desks") rfl), F, sc_fewest_desks, rfl, rfl, rfl, rfl, by decide, fun j hj => ⟨[], [], F.bindsN (fun _ _ _ _ _ _ us hl => match us, hl with | [_, _, _], _ => rfl), .nil, fun S => by have : j = 0 := Nat.le_zero.mp hj; subst this; exact .nil⟩, chk_fewest_desks⟩
theorem fd_opened (X : K.In h) (Gn : h.Ns mainGlobals mg) (c : He.SaysD fa fn K) : (md w K mg base).Fd 338 "opened" 2 0 := by
  obtain ⟨fd, F⟩ := c.def_ 11 (d := ⟨("opened", none), "opened", "opened", defArgs (top 24), defBody (top 24), defScope (top 24), [], []⟩) rfl
  exact ⟨d338, _, fd, _, _, _, _, _, N_opened, ["slots", "speed"], _, _, rfl, He.glo_ok X Gn (c.fact 11 (f := .glo "opened") rfl), F, sc_opened, rfl, rfl, rfl, rfl, by decide, fun j hj => ⟨[], [], F.bindsN (fun _ _ _ _ _ _ us hl => match us, hl with | [_, _], _ => rfl), .nil, fun S => by have : j = 0 := Nat.le_zero.mp hj; subst this; exact .nil⟩, chk_opened⟩
theorem fd_lines_in (X : K.In h) (Gn : h.Ns mainGlobals mg) (c : He.SaysD fa fn K) : (md w K mg base).Fd 339 "lines_in" 2 0 := by
  obtain ⟨fd, F⟩ := c.def_ 12 (d := ⟨("lines_in", none), "lines_in", "lines_in", defArgs (top 25), defBody (top 25), defScope (top 25), [], []⟩) rfl
  exact ⟨d339, _, fd, _, _, _, _, _, N_lines_in, ["people", "served"], _, _, rfl, He.glo_ok X Gn (c.fact 12 (f := .glo "lines_in") rfl), F, sc_lines_in, rfl, rfl, rfl, rfl, by decide, fun j hj => ⟨[], [], F.bindsN (fun _ _ _ _ _ _ us hl => match us, hl with | [_, _], _ => rfl), .nil, fun S => by have : j = 0 := Nat.le_zero.mp hj; subst this; exact .nil⟩, chk_lines_in⟩
theorem fd_longest_in (X : K.In h) (Gn : h.Ns mainGlobals mg) (c : He.SaysD fa fn K) : (md w K mg base).Fd 340 "longest_in" 2 0 := by
  obtain ⟨fd, F⟩ := c.def_ 13 (d := ⟨("longest_in", none), "longest_in", "longest_in", defArgs (top 26), defBody (top 26), defScope (top 26), [], []⟩) rfl
  exact ⟨d340, _, fd, _, _, _, _, _, N_longest_in, ["people", "served"], _, _, rfl, He.glo_ok X Gn (c.fact 13 (f := .glo "longest_in") rfl), F, sc_longest_in, rfl, rfl, rfl, rfl, by decide, fun j hj => ⟨[], [], F.bindsN (fun _ _ _ _ _ _ us hl => match us, hl with | [_, _], _ => rfl), .nil, fun S => by have : j = 0 := Nat.le_zero.mp hj; subst this; exact .nil⟩, chk_longest_in⟩
theorem fd__law_so (X : K.In h) (Gn : h.Ns mainGlobals mg) (c : He.SaysD fa fn K) : (md w K mg base).Fd 59 "_law_so" 2 0 := by
  obtain ⟨fd, F⟩ := c.def_ 14 (d := ⟨("_law_so", none), "_law_so", "_law_so", defArgs (top 28), defBody (top 28), defScope (top 28), [], []⟩) rfl
  exact ⟨d59, _, fd, _, _, _, _, _, N__law_so, ["found", "meant"], _, _, rfl, He.glo_ok X Gn (c.fact 14 (f := .glo "_law_so") rfl), F, sc__law_so, rfl, rfl, rfl, rfl, by decide, fun j hj => ⟨[], [], F.bindsN (fun _ _ _ _ _ _ us hl => match us, hl with | [_, _], _ => rfl), .nil, fun S => by have : j = 0 := Nat.le_zero.mp hj; subst this; exact .nil⟩, chk__law_so⟩
theorem fd__law_numbers (X : K.In h) (Gn : h.Ns mainGlobals mg) (c : He.SaysD fa fn K) : (md w K mg base).Fd 60 "_law_numbers" 1 0 := by
  obtain ⟨fd, F⟩ := c.def_ 15 (d := ⟨("_law_numbers", none), "_law_numbers", "_law_numbers", defArgs (top 29), defBody (top 29), defScope (top 29), [], []⟩) rfl
  exact ⟨d60, _, fd, _, _, _, _, _, N__law_numbers, ["script"], _, _, rfl, He.glo_ok X Gn (c.fact 15 (f := .glo "_law_numbers") rfl), F, sc__law_numbers, rfl, rfl, rfl, rfl, by decide, fun j hj => ⟨[], [], F.bindsN (fun _ _ _ _ _ _ us hl => match us, hl with | [_], _ => rfl), .nil, fun S => by have : j = 0 := Nat.le_zero.mp hj; subst this; exact .nil⟩, chk__law_numbers⟩
theorem fd__law_draw (X : K.In h) (Gn : h.Ns mainGlobals mg) (c : He.SaysD fa fn K) : (md w K mg base).Fd 61 "_law_draw" 3 0 := by
  obtain ⟨fd, F⟩ := c.def_ 16 (d := ⟨("_law_draw", none), "_law_draw", "_law_draw", defArgs (top 30), defBody (top 30), defScope (top 30), [], []⟩) rfl
  exact ⟨d61, _, fd, _, _, _, _, _, N__law_draw, ["row", "at", "limit"], _, _, rfl, He.glo_ok X Gn (c.fact 16 (f := .glo "_law_draw") rfl), F, sc__law_draw, rfl, rfl, rfl, rfl, by decide, fun j hj => ⟨[], [], F.bindsN (fun _ _ _ _ _ _ us hl => match us, hl with | [_, _, _], _ => rfl), .nil, fun S => by have : j = 0 := Nat.le_zero.mp hj; subst this; exact .nil⟩, chk__law_draw⟩
theorem fd__law_take (X : K.In h) (Gn : h.Ns mainGlobals mg) (c : He.SaysD fa fn K) : (md w K mg base).Fd 62 "_law_take" 3 0 := by
  obtain ⟨fd, F⟩ := c.def_ 17 (d := ⟨("_law_take", none), "_law_take", "_law_take", defArgs (top 31), defBody (top 31), defScope (top 31), [], []⟩) rfl
  exact ⟨d62, _, fd, _, _, _, _, _, N__law_take, ["row", "spot", "limit"], _, _, rfl, He.glo_ok X Gn (c.fact 17 (f := .glo "_law_take") rfl), F, sc__law_take, rfl, rfl, rfl, rfl, by decide, fun j hj => ⟨[], [], F.bindsN (fun _ _ _ _ _ _ us hl => match us, hl with | [_, _, _], _ => rfl), .nil, fun S => by have : j = 0 := Nat.le_zero.mp hj; subst this; exact .nil⟩, chk__law_take⟩
theorem fd__law_whole (X : K.In h) (Gn : h.Ns mainGlobals mg) (c : He.SaysD fa fn K) : (md w K mg base).Fd 125 "_law_whole" 1 0 := by
  obtain ⟨fd, F⟩ := c.def_ 18 (d := ⟨("_law_whole", none), "_law_whole", "_law_whole", defArgs (top 32), defBody (top 32), defScope (top 32), [], []⟩) rfl
  exact ⟨d125, _, fd, _, _, _, _, _, N__law_whole, ["thing"], _, _, rfl, He.glo_ok X Gn (c.fact 18 (f := .glo "_law_whole") rfl), F, sc__law_whole, rfl, rfl, rfl, rfl, by decide, fun j hj => ⟨[], [], F.bindsN (fun _ _ _ _ _ _ us hl => match us, hl with | [_], _ => rfl), .nil, fun S => by have : j = 0 := Nat.le_zero.mp hj; subst this; exact .nil⟩, chk__law_whole⟩
theorem fd__law_pick (X : K.In h) (Gn : h.Ns mainGlobals mg) (c : He.SaysD fa fn K) : (md w K mg base).Fd 63 "_law_pick" 3 0 := by
  obtain ⟨fd, F⟩ := c.def_ 19 (d := ⟨("_law_pick", none), "_law_pick", "_law_pick", defArgs (top 33), defBody (top 33), defScope (top 33), [], []⟩) rfl
  exact ⟨d63, _, fd, _, _, _, _, _, N__law_pick, ["row", "spot", "things"], _, _, rfl, He.glo_ok X Gn (c.fact 19 (f := .glo "_law_pick") rfl), F, sc__law_pick, rfl, rfl, rfl, rfl, by decide, fun j hj => ⟨[], [], F.bindsN (fun _ _ _ _ _ _ us hl => match us, hl with | [_, _, _], _ => rfl), .nil, fun S => by have : j = 0 := Nat.le_zero.mp hj; subst this; exact .nil⟩, chk__law_pick⟩
theorem fd__law_told (X : K.In h) (Gn : h.Ns mainGlobals mg) (c : He.SaysD fa fn K) : (md w K mg base).Fd 341 "_law_told" 3 0 := by
  obtain ⟨fd, F⟩ := c.def_ 20 (d := ⟨("_law_told", none), "_law_told", "_law_told", defArgs (top 34), defBody (top 34), defScope (top 34), [], []⟩) rfl
  exact ⟨d341, _, fd, _, _, _, _, _, N__law_told, ["slots", "speed", "wait"], _, _, rfl, He.glo_ok X Gn (c.fact 20 (f := .glo "_law_told") rfl), F, sc__law_told, rfl, rfl, rfl, rfl, by decide, fun j hj => ⟨[], [], F.bindsN (fun _ _ _ _ _ _ us hl => match us, hl with | [_, _, _], _ => rfl), .nil, fun S => by have : j = 0 := Nat.le_zero.mp hj; subst this; exact .nil⟩, chk__law_told⟩
theorem fd_law (X : K.In h) (Gn : h.Ns mainGlobals mg) (c : He.SaysD fa fn K) : (md w K mg base).Fd 342 "law" 1 0 := by
  obtain ⟨fd, F⟩ := c.def_ 21 (d := ⟨("law", none), "law", "law", defArgs (top 35), defBody (top 35), defScope (top 35), [], []⟩) rfl
  exact ⟨d342, _, fd, _, _, _, _, _, N_law, ["script"], _, _, rfl, He.glo_ok X Gn (c.fact 21 (f := .glo "law") rfl), F, sc_law, rfl, rfl, rfl, rfl, by decide, fun j hj => ⟨[], [], F.bindsN (fun _ _ _ _ _ _ us hl => match us, hl with | [_], _ => rfl), .nil, fun S => by have : j = 0 := Nat.le_zero.mp hj; subst this; exact .nil⟩, chk_law⟩
theorem ok (X : K.In h) (Gn : h.Ns mainGlobals mg) (c : He.SaysD fa fn K) (cx : fx K = true) : (md w K mg base).Ok where
  fns := by
    intro f x np nd e
    change fnm f = _ at e
    unfold fnm at e
    split at e
    · cases e; exact fd_is_integer X Gn c
    · cases e; exact fd_is_within X Gn c
    · cases e; exact fd_is_row X Gn c
    · cases e; exact fd_integer_in X Gn c
    · cases e; exact fd_row_in X Gn c
    · cases e; exact fd_integers_in X Gn c
    · cases e; exact fd_slots_in X Gn c
    · cases e; exact fd_rounded_up X Gn c
    · cases e; exact fd_lines_left X Gn c
    · cases e; exact fd_longest_wait X Gn c
    · cases e; exact fd_fewest_desks X Gn c
    · cases e; exact fd_opened X Gn c
    · cases e; exact fd_lines_in X Gn c
    · cases e; exact fd_longest_in X Gn c
    · cases e; exact fd__law_so X Gn c
    · cases e; exact fd__law_numbers X Gn c
    · cases e; exact fd__law_draw X Gn c
    · cases e; exact fd__law_take X Gn c
    · cases e; exact fd__law_whole X Gn c
    · cases e; exact fd__law_pick X Gn c
    · cases e; exact fd__law_told X Gn c
    · cases e; exact fd_law X Gn c
    · cases e
  con := by
    intro n x e
    change con n = _ at e
    unfold con at e
    split at e
    · cases e; obtain ⟨t, q⟩ := He.int_ok X Gn (c.fact 22 (f := .int "MOST_SLOTS" 48) rfl); exact ⟨.int 48, _, .int 48, rfl, q, ⟨t, rfl⟩, fun _ => .int _⟩
    · cases e; obtain ⟨t, q⟩ := He.int_ok X Gn (c.fact 23 (f := .int "MOST_PEOPLE" 500) rfl); exact ⟨.int 500, _, .int 500, rfl, q, ⟨t, rfl⟩, fun _ => .int _⟩
    · cases e; obtain ⟨t, q⟩ := He.int_ok X Gn (c.fact 24 (f := .int "MOST_DESKS" 30) rfl); exact ⟨.int 30, _, .int 30, rfl, q, ⟨t, rfl⟩, fun _ => .int _⟩
    · cases e; obtain ⟨t, q⟩ := He.int_ok X Gn (c.fact 25 (f := .int "GREATEST_SPEED" 30) rfl); exact ⟨.int 30, _, .int 30, rfl, q, ⟨t, rfl⟩, fun _ => .int _⟩
    · cases e; obtain ⟨t, q⟩ := He.int_ok X Gn (c.fact 26 (f := .int "MOST_WAIT" 10) rfl); exact ⟨.int 10, _, .int 10, rfl, q, ⟨t, rfl⟩, fun _ => .int _⟩
    · cases e
  free := by
    intro x hx
    change x ∈ free at hx
    unfold free at hx
    simp only [List.mem_cons, List.not_mem_nil, or_false] at hx
    rcases hx with rfl | rfl | rfl | rfl | rfl | rfl | rfl | rfl | rfl | rfl | rfl | rfl
    · exact He.free_ok X Gn (c.fact 27 (f := .free "all") rfl)
    · exact He.free_ok X Gn (c.fact 28 (f := .free "any") rfl)
    · exact He.free_ok X Gn (c.fact 29 (f := .free "bool") rfl)
    · exact He.free_ok X Gn (c.fact 30 (f := .free "int") rfl)
    · exact He.free_ok X Gn (c.fact 31 (f := .free "isinstance") rfl)
    · exact He.free_ok X Gn (c.fact 32 (f := .free "len") rfl)
    · exact He.free_ok X Gn (c.fact 33 (f := .free "list") rfl)
    · exact He.free_ok X Gn (c.fact 34 (f := .free "max") rfl)
    · exact He.free_ok X Gn (c.fact 35 (f := .free "range") rfl)
    · exact He.free_ok X Gn (c.fact 36 (f := .free "str") rfl)
    · exact He.free_ok X Gn (c.fact 37 (f := .free "tuple") rfl)
    · exact He.free_ok X Gn (c.fact 38 (f := .free "zip") rfl)
  exs := by
    intro x nm e
    change exs x = _ at e
    unfold fx at cx
    simp only [Bool.and_eq_true, true_and] at cx
    unfold exs at e
    split at e
    · cases e; obtain ⟨q1, q2, q3, q4, q5⟩ := excB_ok X Gn cx.1; exact ⟨_, q1, rfl, q2, q3, q4, q5⟩
    · cases e
  exm := by
    intro y B f e x nm A e2 e3
    change xi K y = _ at e
    change exs x = _ at e2
    unfold fx at cx
    simp only [Bool.and_eq_true, true_and] at cx
    unfold xi at e
    split at e
    · cases e
      unfold exs at e2
      split at e2
      · cases e2
        have q := (excB_ok X Gn cx.1).1.symm.trans e3
        cases q
        exact of_decide_eq_true cx.2
      · cases e2
    · cases e
theorem facts {f : Addr} (X : K.In h) (Gn : h.Ns mainGlobals mg) (hfa : mg ("law" : Str) = some (.ref f)) (c : He.SaysD fa fn K) (cx : fx K = true) :
    ∃ fd : FuncData, (∀ (s : Shared) (v : Value), BindsTo s fd ⟨[v], []⟩ [("script", v)]) ∧ ∀ base : Heap, K.In base → base.Ns mainGlobals mg → FnOk (PySem.Challenge.rw_gatehold_k74_desks_more_never_longer).prog w K mg base (CXe (PySem.Challenge.rw_gatehold_k74_desks_more_never_longer).prog) 60 f fd ["script"] (spF K (xi K) (callF T G 60) 342 1) := by
  obtain ⟨fd, F⟩ := c.def_ 21 (d := ⟨("law", none), "law", "law", defArgs (top 35), defBody (top 35), defScope (top 35), [], []⟩) rfl
  have e := hfa.symm.trans (He.glo_ok X Gn (c.fact 21 (f := .glo "law") rfl))
  cases e
  have b := FunD.bindsA (ps := ["script"]) F fun _ _ _ _ _ _ us hl => match us, hl with | [_], _ => rfl
  refine ⟨fd, fun s v => b s [v] rfl, fun base _ _ => ?_⟩
  have o := ok (w := w) (base := base) X Gn c cx
  exact Pv.FnOk.cx (fn_one (m := md w K mg base) (f := 342) (np := 1) (d := d342) (fns_ok o 59) o rfl F sc_law rfl rfl rfl (by decide) chk_law) fun _ _ _ _ _ _ h => ⟨w, h⟩
end
end K74

set_option Elab.async false
set_option linter.all false
set_option maxRecDepth 100000
set_option maxHeartbeats 0
open PySem PySem.W PySem.Calls PyProof.Rows Pv
theorem PySem.Challenge.cw_gatehold_k74_desks_more_never_longer_holds : PySem.Challenge.rw_gatehold_k74_desks_more_never_longer.Holds := by
  w_on; o_law
  refine HandSHeadRun.head_any (r := OpenLaw.row PySem.Challenge.rw_gatehold_k74_desks_more_never_longer) (q := view (OpenLaw.row PySem.Challenge.rw_gatehold_k74_desks_more_never_longer).prog [35]) (H := K74.hk) (ob := K74.ob) (M := 6000) (loose := K74.loose) (d := HandSHeadRun.topDef (OpenLaw.row PySem.Challenge.rw_gatehold_k74_desks_more_never_longer).prog 35) (kwd := []) K74.ob_eq
    (by kernel_rfl) (fun s => by kernel_rfl) K74.run (by kernel_rfl) (by kernel_rfl) (by kernel_rfl) (by rfl) (by first | assumption | decide +kernel) (by decide +kernel) ⟨rfl, rfl, rfl, rfl, rfl, by decide +kernel⟩ ?hw ?hc
  case hw => w_witness2
  case hc =>
    refine L2.walk_ofE (l := PySem.Challenge.rw_gatehold_k74_desks_more_never_longer) (n := 63) (k := 60) (x := "script") (CX := CXe (PySem.Challenge.rw_gatehold_k74_desks_more_never_longer).prog) rfl (by decide) (by kernel_rfl) ⟨rfl, by decide, by decide⟩ ?F cxe_none
    intro w mg fa h Y G hmg0
    obtain ⟨K, KX, c, cx⟩ := Y
    have hmg : mg ("law" : PySem.Str) = some (.ref fa) := by
      have e : (HandSHeadRun.topDef (OpenLaw.row PySem.Challenge.rw_gatehold_k74_desks_more_never_longer).prog 35).name = ("law" : PySem.Str) := by kernel_rfl
      rw [← e]
      exact hmg0
    obtain ⟨fd, hb, hF⟩ := K74.facts (w := w) KX G hmg c cx
    exact ⟨K, fd, _, KX, hb, fun H a ns hl hO hS => law_sp (m := K74.md w K mg h) K74.law_true H a ns hl hO hS, hF⟩


