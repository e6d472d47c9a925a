import PyProof.Rows.All
import Wide.All
import OpenK.AllK
import Wide.FinOn
import KE.DataEq
import KE.DataCmp
import KE.DataMinMax
import KE.SortData
import HandS.ForMost
import HandS.Exc
import HandS.CallSlots
import HandS.IsInst
import HandS.TupAny
import HandS.TupMul
import HandS.TupLe
import HandS.Zip
import HandS.Deep
import HandS.SetFor
import HandS.SortInts
import KE.KTupSum
import HandS.TupSets
import HandS.ExcOwn
import HandS.WordsExc
import HandS.OwnEq
import PyProof.InstNe
import OpenK.KMake
import HandS.Style
import KE.KRevSl
import HandS.Walk
import KE.GoesEnum
import HandS.Comp
import HandS.Conv
import HandS.ExcInit
import HandS.ExcField
import HandS.Defaults
import HandS.Words
import HandS.HeadHook1
import HandS.HeadHook2
import HandS.HeadEnd
import KE.KStateDown
import Lean
import HandS.Ends
import HandS.Head0
import HandS.Head1
import HandS.Head2
import PySem.Challenge.RW_borderplans_k03_whole_plans
set_option Elab.async false
set_option linter.all false
set_option maxRecDepth 100000
/-! BpCore: a small language over trees: values, programs, what they give. No model here. -/
namespace Bp
open PySem

/-- a value as a tree: lst, dct, obj are frozen (never written again); ref i is the store's cell i -/
inductive D where
  | non | bl (b : Bool) | int (i : Int) | str (s : Str)
  | tup (ds : List D) | lst (ds : List D)
  | dct (ks vs : List D) | obj (c : Nat) (ds : List D)
  | ref (i : Nat)
  /-- the script: read only -/
  | scr (ns : List Int)
  deriving Inhabited

/-- a cell of the store: a list that is written, an instance of a class with its fields (by the fields' numbers, in the order in which they were first stored) -/
inductive Cell where
  | lst (ds : List D) | inst (c : Nat) (fs : List (Nat × D))
abbrev Store := List Cell
/-- what is owned by a slot: a list that is written, no one else has it -/
inductive Obj where
  | lst (ds : List D)
inductive Slot where
  | val (d : D) | own (o : Bp.Obj)
abbrev Env := List (Option Slot)
inductive Res (α : Type) where
  | ok (a : α) (st : Store) | exc (c : Nat) (d : D) (st : Store) | bad
def Res.bind {α β : Type} (r : Res α) (k : α → Store → Res β) : Res β := match r with
  | .ok a st => k a st
  | .exc c d st => .exc c d st
  | .bad => .bad
/-- what is not told: no answer -/
def Res.of {α : Type} (o : Option α) (st : Store) : Res α := match o with
  | some a => .ok a st
  | none => .bad

inductive Op2 | add | sub | mul | mod | fdiv | pow
inductive Cm | eq | ne | lt | le | gt | ge | isin | notin | is | isnot
inductive Bi | len | abs | min2 | max2 | int | str | sum | all | any | minl | maxl | sorted | tuple | list | lenset | lrange | trange
inductive Ty | int | bool | str | tuple | list | cls (c : Nat)
  deriving DecidableEq
inductive Tg where
  | slot (i : Nat) | tup (ts : List Tg)
inductive Mode | frz | brw | tst
mutual
inductive E where
  | var (i : Nat) | peek (i : Nat) | cst (d : D) | glo (k : Nat)
  | tup (es : List E) | lst (es : List E) | cell (es : List E)
  | bin (o : Op2) (a b : E) | neg (a : E)
  | cmp (o : Cm) (a b : E) | chain (o o' : Cm) (a b c : E)
  | and (a b : E) | or (a b : E) | not (a : E) | ife (t a b : E)
  | call (f : Nat) (es : List E) | meth (c f : Nat) (a : E) (es : List E) | mk (c : Nat) (es : List E) | mkm (c : Nat) (es : List E)
  | app (b : Bi) (es : List E) | isi (a : E) (ts : List Ty)
  | fld (a : E) (k : Nat) | idx (a b : E) | slc (l h : Bool) (a lo hi : E)
  | rev (a : E) | oeq (ne : Bool) (c f : Nat) (a b : E)
  | comp (vs : List Nat) (tg : Tg) (it : It) (c e : E)
  | comp2 (vs : List Nat) (tg : Tg) (it : It) (c : E) (vs2 : List Nat) (tg2 : Tg) (it2 : It) (c2 e : E)
inductive It where
  | seq (b : Bool) (e : E) | rng1 (e : E) | rng2 (a b : E) | enum (b : Bool) (e : E) | zip (a b : E)
end

/-! ### data -/
mutual
def D.dat : Nat → D → Bool
  | _, .non => true
  | _, .bl _ => true
  | _, .int _ => true
  | _, .str _ => true
  | n, .tup ds => match n with
    | 0 => false
    | n + 1 => D.datL n ds
  | n, .lst ds => match n with
    | 0 => false
    | n + 1 => D.datL n ds
  | _, .dct _ _ => false
  | _, .obj _ _ => false
  | _, .ref _ => false
  | _, .scr _ => false
def D.datL : Nat → List D → Bool
  | _, [] => true
  | n, d :: ds => D.dat n d && D.datL n ds
end
/-- data of no great depth -/
def D.data (d : D) : Bool := D.dat 40 d
mutual
/-- the same -/
def D.beq : D → D → Bool
  | .non, b => match b with | .non => true | _ => false
  | .bl x, b => match b with | .bl y => x == y | _ => false
  | .int i, b => match b with | .int j => i == j | _ => false
  | .str x, b => match b with | .str y => decide (x = y) | _ => false
  | .tup xs, b => match b with | .tup ys => D.beqL xs ys | _ => false
  | .lst xs, b => match b with | .lst ys => D.beqL xs ys | _ => false
  | .dct xs ys, b => match b with | .dct us vs => D.beqL xs us && D.beqL ys vs | _ => false
  | .obj c xs, b => match b with | .obj k ys => c == k && D.beqL xs ys | _ => false
  | .ref i, b => match b with | .ref j => i == j | _ => false
  | .scr xs, b => match b with | .scr ys => decide (xs = ys) | _ => false
def D.beqL : List D → List D → Bool
  | [], b => match b with | [] => true | _ :: _ => false
  | x :: xs, b => match b with | [] => false | y :: ys => D.beq x y && D.beqL xs ys
end
mutual
/-- no cell is named -/
def D.noref : D → Bool
  | .tup ds => D.norefL ds
  | .lst ds => D.norefL ds
  | .dct xs ys => D.norefL xs && D.norefL ys
  | .obj _ ds => D.norefL ds
  | .ref _ => false
  | .non => true
  | .bl _ => true
  | .int _ => true
  | .str _ => true
  | .scr _ => true
def D.norefL : List D → Bool
  | [] => true
  | d :: ds => D.noref d && D.norefL ds
end
def beqF : List (Nat × D) → List (Nat × D) → Bool
  | [], [] => true
  | (k, x) :: xs, (j, y) :: ys => k == j && D.beq x y && beqF xs ys
  | _, _ => false
def Cell.beq : Cell → Cell → Bool
  | .lst xs, .lst ys => D.beqL xs ys
  | .inst c xs, .inst k ys => c == k && beqF xs ys
  | _, _ => false
def beqS : List Cell → List Cell → Bool
  | [], [] => true
  | x :: xs, y :: ys => Cell.beq x y && beqS xs ys
  | _, _ => false
mutual
theorem D.beq_eq : ∀ a b : D, D.beq a b = true → a = b
  | .non, b, h => by cases b <;> simp [D.beq] at h ⊢
  | .bl x, b, h => by cases b <;> simp [D.beq] at h ⊢; exact h
  | .int i, b, h => by cases b <;> simp [D.beq] at h ⊢; exact h
  | .str x, b, h => by cases b <;> simp [D.beq] at h ⊢; exact h
  | .tup xs, b, h => by cases b <;> simp [D.beq] at h ⊢; exact D.beqL_eq _ _ h
  | .lst xs, b, h => by cases b <;> simp [D.beq] at h ⊢; exact D.beqL_eq _ _ h
  | .dct xs ys, b, h => by cases b <;> simp [D.beq] at h ⊢; exact ⟨D.beqL_eq _ _ h.1, D.beqL_eq _ _ h.2⟩
  | .obj c xs, b, h => by cases b <;> simp [D.beq] at h ⊢; exact ⟨h.1, D.beqL_eq _ _ h.2⟩
  | .ref i, b, h => by cases b <;> simp [D.beq] at h ⊢; exact h
  | .scr x, b, h => by cases b <;> simp [D.beq] at h ⊢; exact h
theorem D.beqL_eq : ∀ a b : List D, D.beqL a b = true → a = b
  | [], b, h => by cases b <;> simp [D.beqL] at h ⊢
  | x :: xs, b, h => by
    cases b with
    | nil => simp [D.beqL] at h
    | cons y ys =>
      simp only [D.beqL, Bool.and_eq_true] at h
      rw [D.beq_eq x y h.1, D.beqL_eq xs ys h.2]
end
mutual
theorem D.beq_refl : ∀ a : D, D.beq a a = true
  | .non => by simp [D.beq]
  | .bl x => by simp [D.beq]
  | .int i => by simp [D.beq]
  | .str x => by simp [D.beq]
  | .tup xs => by simp [D.beq, D.beqL_refl xs]
  | .lst xs => by simp [D.beq, D.beqL_refl xs]
  | .dct xs ys => by simp [D.beq, D.beqL_refl xs, D.beqL_refl ys]
  | .obj c xs => by simp [D.beq, D.beqL_refl xs]
  | .ref i => by simp [D.beq]
  | .scr x => by simp [D.beq]
theorem D.beqL_refl : ∀ a : List D, D.beqL a a = true
  | [] => by simp [D.beqL]
  | x :: xs => by simp [D.beqL, D.beq_refl x, D.beqL_refl xs]
end
theorem beqF_eq : ∀ a b : List (Nat × D), beqF a b = true → a = b
  | [], [], _ => rfl
  | [], _ :: _, h => by simp [beqF] at h
  | _ :: _, [], h => by simp [beqF] at h
  | (k, x) :: xs, (j, y) :: ys, h => by
    simp only [beqF, Bool.and_eq_true, beq_iff_eq] at h
    rw [h.1.1, D.beq_eq x y h.1.2, beqF_eq xs ys h.2]
theorem beqF_refl : ∀ a : List (Nat × D), beqF a a = true
  | [] => rfl
  | (k, x) :: xs => by simp [beqF, D.beq_refl x, beqF_refl xs]
theorem Cell.beq_eq (a b : Cell) (h : Cell.beq a b = true) : a = b := by
  cases a <;> cases b <;> simp [Cell.beq] at h ⊢
  · exact D.beqL_eq _ _ h
  · exact ⟨h.1, beqF_eq _ _ h.2⟩
theorem Cell.beq_refl (a : Cell) : Cell.beq a a = true := by
  cases a <;> simp [Cell.beq, D.beqL_refl, beqF_refl]
theorem beqS_eq : ∀ a b : List Cell, beqS a b = true → a = b
  | [], [], _ => rfl
  | [], _ :: _, h => by simp [beqS] at h
  | _ :: _, [], h => by simp [beqS] at h
  | x :: xs, y :: ys, h => by
    simp only [beqS, Bool.and_eq_true] at h
    rw [Cell.beq_eq x y h.1, beqS_eq xs ys h.2]
theorem beqS_refl : ∀ a : List Cell, beqS a a = true
  | [] => rfl
  | x :: xs => by simp [beqS, Cell.beq_refl x, beqS_refl xs]
mutual
def D.eqv : D → D → Bool
  | .non, b => match b with | .non => true | _ => false
  | .bl x, b => match b with | .bl y => x == y | .int j => (if x then 1 else 0) == j | _ => false
  | .int i, b => match b with | .bl y => i == (if y then 1 else 0) | .int j => i == j | _ => false
  | .str x, b => match b with | .str y => x == y | _ => false
  | .tup xs, b => match b with | .tup ys => D.eqvL xs ys | _ => false
  | .lst xs, b => match b with | .lst ys => D.eqvL xs ys | _ => false
  | .dct _ _, _ => false
  | .obj _ _, _ => false
  | .ref _, _ => false
  | .scr _, _ => false
def D.eqvL : List D → List D → Bool
  | [], b => match b with | [] => true | _ :: _ => false
  | x :: xs, b => match b with | [] => false | y :: ys => D.eqv x y && D.eqvL xs ys
end
mutual
/-- alike: comparable by < (KE's alike) -/
def D.alike : D → D → Bool
  | .non, b => match b with | .non => true | _ => false
  | .bl _, b => match b with | .bl _ => true | _ => false
  | .int _, b => match b with | .int _ => true | _ => false
  | .str _, b => match b with | .str _ => true | _ => false
  | .tup xs, b => match b with | .tup ys => D.alikeL xs ys | _ => false
  | .lst xs, b => match b with | .lst ys => D.alikeL xs ys | _ => false
  | .dct _ _, _ => false
  | .obj _ _, _ => false
  | .ref _, _ => false
  | .scr _, _ => false
def D.alikeL : List D → List D → Bool
  | [], _ => true
  | x :: xs, b => match b with | [] => true | y :: ys => D.alike x y && D.alikeL xs ys
end
mutual
/-- <, for alike data -/
def D.lt : D → D → Bool
  | .non, _ => false
  | .bl x, b => match b with | .bl y => !x && y | _ => false
  | .int i, b => match b with | .int j => decide (i < j) | _ => false
  | .str x, b => match b with | .str y => decide (x.cps.toList < y.cps.toList) | _ => false
  | .tup xs, b => match b with | .tup ys => D.ltL xs ys | _ => false
  | .lst xs, b => match b with | .lst ys => D.ltL xs ys | _ => false
  | .dct _ _, _ => false
  | .obj _ _, _ => false
  | .ref _, _ => false
  | .scr _, _ => false
def D.ltL : List D → List D → Bool
  | [], b => match b with | [] => false | _ :: _ => true
  | x :: xs, b => match b with | [] => false | y :: ys => if D.eqv x y then D.ltL xs ys else D.lt x y
end
def D.isNon : D → Bool
  | .non => true
  | _ => false
def line : Nat := 16777216

/-! ### operations -/
def fits (n : Nat) : Bool := decide (n ≤ 16777216)
def big (i : Int) : Bool := decide (-(2 ^ 64) < i ∧ i < 2 ^ 64)
def rep {α : Type} (n : Nat) (xs : List α) : List α := (List.replicate n xs).flatten
def opD : Op2 → D → D → Option D
  | .add, .int i, .int j => some (.int (i + j))
  | .add, .str x, .str y => if fits (x.length + y.length) then some (.str (x ++ y)) else none
  | .add, .tup x, .tup y => if fits (x.length + y.length) then some (.tup (x ++ y)) else none
  | .add, .lst x, .lst y => if fits (x.length + y.length) then some (.lst (x ++ y)) else none
  | .sub, .int i, .int j => some (.int (i - j))
  | .mul, .int i, .int j => if big i || big j then some (.int (i * j)) else none
  | .mul, .tup x, .int k => if decide (-1000 ≤ k ∧ k ≤ 1000 ∧ x.length ≤ 1000 ∧ x.isEmpty = false) then some (.tup (rep k.toNat x)) else none
  | .mod, .int i, .int j => if j = 0 then none else some (.int (i.fmod j))
  | .fdiv, .int i, .int j => if j = 0 ∨ 1073741824 ≤ j.natAbs then none else some (.int (i.fdiv j))
  | .pow, .int i, .int j => if 0 ≤ j ∧ j ≤ 1000000 ∧ i.natAbs < 2 ^ 64 then some (.int (i ^ j.toNat)) else none
  | _, _, _ => none
/-- the items of what is walked -/
def D.items : D → Option (List D)
  | .tup ds => some ds
  | .lst ds => some ds
  | _ => none
def ltD (a b : D) : Option Bool := if a.data && b.data && D.alike a b && !a.isNon then some (D.lt a b) else none
def inD (a : D) (ds : List D) : Option Bool := if a.data && D.datL 40 ds then some (ds.any fun z => D.eqv z a) else none
def cmD : Cm → D → D → Option Bool
  | .eq, a, b => if a.data && b.data then some (D.eqv a b) else none
  | .ne, a, b => if a.data && b.data then some (!D.eqv a b) else none
  | .lt, a, b => ltD a b
  | .gt, a, b => ltD b a
  | .le, a, b => (ltD b a).map (!·)
  | .ge, a, b => (ltD a b).map (!·)
  | .isin, a, b => b.items.bind (inD a)
  | .notin, a, b => (b.items.bind (inD a)).map (!·)
  | .is, a, .non => some a.isNon
  | .isnot, a, .non => some (!a.isNon)
  | .is, .bl x, .bl y => some (x == y)
  | .isnot, .bl x, .bl y => some (!(x == y))
  | _, _, _ => none
def truD : D → Option Bool
  | .non => some false
  | .bl b => some b
  | .int i => some (i != 0)
  | .tup ds => some (!ds.isEmpty)
  | .lst ds => some (!ds.isEmpty)
  | _ => none
def intsD : List D → Option (List Int)
  | [] => some []
  | .int i :: ds => (intsD ds).map (i :: ·)
  | _ => none
def boolsD : List D → Option (List Bool)
  | [] => some []
  | .bl i :: ds => (boolsD ds).map (i :: ·)
  | _ => none
def allAlike (ds : List D) : Bool := D.datL 40 ds && ds.all fun a => ds.all fun b => D.alike a b
/-- all are tuples with an item at least, or none is a tuple or None -/
def sortable (ds : List D) : Bool := (ds.all fun d => match d with | .tup (_ :: _) => true | _ => false) || ds.all fun d => match d with | .tup _ => false | .non => false | _ => true
def leB (a b : D) : Bool := !D.lt b a
def minD (x : D) (xs : List D) : D := xs.foldl (fun a y => if D.lt y a then y else a) x
def maxD (x : D) (xs : List D) : D := xs.foldl (fun a y => if D.lt a y then y else a) x
/-- the distinct ones, in the order of their first places -/
def firsts (ns : List Int) : List Int := ns.foldl (fun acc k => if acc.any (· == k) then acc else acc ++ [k]) []
/-- numbers lo, lo + 1, .. -/
def upto (lo : Int) : Nat → List D
  | 0 => []
  | n + 1 => .int lo :: upto (lo + 1) n
def range62 (i : Int) : Bool := decide (-(2 ^ 62) ≤ i ∧ i < 2 ^ 62)
def biD : Bi → List D → Option D
  | .len, [d] => match d with
    | .tup ds => some (.int ds.length)
    | .lst ds => some (.int ds.length)
    | .str s => if fits s.length then some (.int s.length) else none
    | .scr ns => some (.int ns.length)
    | _ => none
  | .abs, [.int i] => some (.int (if i < 0 then -i else i))
  | .min2, [.int i, .int j] => some (.int (if j < i then j else i))
  | .max2, [.int i, .int j] => some (.int (if j > i then j else i))
  | .int, [.int i] => some (.int i)
  | .int, [.bl b] => some (.int (if b then 1 else 0))
  | .str, [.int i] => if i.natAbs.log2 < 1920 then some (.str (toString i : String)) else none
  | .sum, [d] => (d.items.bind intsD).map fun ns => .int ns.sum
  | .all, [.lst ds] => (boolsD ds).map fun bs => .bl (bs.all id)
  | .any, [.lst ds] => (boolsD ds).map fun bs => .bl (bs.any id)
  | .minl, [d] => match d.items with
    | some (x :: xs) => if allAlike (x :: xs) && !x.isNon then some (minD x xs) else none
    | _ => none
  | .maxl, [d] => match d.items with
    | some (x :: xs) => if allAlike (x :: xs) && !x.isNon then some (maxD x xs) else none
    | _ => none
  | .sorted, [.lst ds] => if allAlike ds && sortable ds then some (.lst (ds.mergeSort leB)) else none
  | .tuple, [d] => d.items.map .tup
  | .list, [d] => d.items.map .lst
  | .lenset, [d] => (d.items.bind intsD).bind fun ns => if decide (ns.length ≤ 4000) then some (.int (firsts ns).length) else none
  | .lrange, [.int n] => if range62 n && decide (n ≤ 16777216) then some (.lst (upto 0 n.toNat)) else none
  | .trange, [.int n] => if range62 n && decide (n ≤ 16777216) then some (.tup (upto 0 n.toNat)) else none
  | _, _ => none
def Ty.has : Ty → D → Bool
  | .int, .int _ => true
  | .int, .bl _ => true
  | .bool, .bl _ => true
  | .str, .str _ => true
  | .tuple, .tup _ => true
  | .list, .lst _ => true
  | .cls c, .obj k _ => c == k
  | _, _ => false
def isD (nc : Nat) : D → Bool
  | .ref _ => false
  | .scr _ => false
  | .dct _ _ => false
  | .obj c _ => decide (c < nc)
  | _ => true
/-- Python's place: from the end where it is negative -/
def ixN (n : Nat) (i : Int) : Option Nat := if 0 ≤ i then (if i < n then some i.toNat else none) else if -(n : Int) ≤ i then some (i + n).toNat else none
def atI {α : Type} (xs : List α) (i : Int) : Option α := (ixN xs.length i).bind fun j => xs[j]?
def clip (n d : Nat) : Option Int → Nat
  | none => d
  | some v => if v < 0 then (v + (n : Int)).toNat else min v.toNat n
def cut {α : Type} (xs : List α) (lo hi : Option Int) : List α := (xs.drop (clip xs.length 0 lo)).take (clip xs.length xs.length hi - clip xs.length 0 lo)

/-! ### slots -/
mutual
def bindT : Tg → D → Env → Option Env
  | .slot i, d, env => if i < env.length then some (env.set i (some (.val d))) else none
  | .tup ts, d, env => match d with
    | .tup ds => bindTs ts ds env
    | _ => none
def bindTs : List Tg → List D → Env → Option Env
  | [], ds, env => match ds with
    | [] => some env
    | _ :: _ => none
  | t :: ts, ds, env => match ds with
    | [] => none
    | d :: ds => (bindT t d env).bind (bindTs ts ds)
end
def wipeE (env : Env) : List Nat → Env
  | [] => env
  | v :: vs => (wipeE env vs).set v none
def mapGo (f : D → Store → Res (List D)) : List D → Store → Res (List D)
  | [], st => .ok [] st
  | x :: xs, st => (f x st).bind fun ys st1 => (mapGo f xs st1).bind fun zs st2 => .ok (ys ++ zs) st2
/-- nothing is raised out of a comprehension -/
def Res.calm {α : Type} : Res α → Res α
  | .exc _ _ _ => .bad
  | r => r
def enumD (i : Int) : List D → List D
  | [] => []
  | d :: ds => .tup [.int i, d] :: enumD (i + 1) ds
def zipD : List D → List D → List D
  | a :: as, b :: bs => .tup [a, b] :: zipD as bs
  | _, _ => []
def zipI : D → D → Option (List D)
  | .tup xs, .tup ys => some (zipD xs ys)
  | .lst xs, .lst ys => some (zipD xs ys)
  | _, _ => none

/-- what a program brings: the defs' answers, the module's constants, the classes' fields and their __init__ -/
structure Cf where
  cl : Nat → List D → Store → Res D
  con : Nat → Option D
  fs : Nat → List Nat
  ini : Nat → Option Nat
  nc : Nat
  xs : List Nat
/-- a field of a new instance, frozen: a list that was made for it is taken as it is -/
def derefD (st : Store) (n : Nat) (d : D) : Option D := match d with
  | .ref j => if n < j then (match st[j]? with
    | some (.lst ds) => if D.norefL ds then some (.lst ds) else none
    | _ => none) else none
  | d => if d.noref then some d else none
def derefs (st : Store) (n : Nat) : List D → Option (List D)
  | [] => some []
  | d :: ds => (derefD st n d).bind fun x => (derefs st n ds).map (x :: ·)
/-- C(..), frozen behind its __init__ -/
def mkR (cf : Cf) (c : Nat) (ds : List D) (st : Store) : Res D := match cf.ini c with
  | none => .bad
  | some f => match cf.cl f (.ref st.length :: ds) (st ++ [.inst c []]) with
    | .ok d st1 => match d with
      | .non => if beqS (st1.take st.length) st then (match st1[st.length]? with
        | some (.inst k fs) => if k = c ∧ fs.map (·.1) = cf.fs c then Res.of ((derefs st1 st.length (fs.map (·.2))).map (.obj c)) st else .bad
        | _ => .bad) else .bad
      | _ => .bad
    | .exc k d st1 => .exc k d st1
    | .bad => .bad
/-- C(..), an instance that is written -/
def mkmR (cf : Cf) (c : Nat) (ds : List D) (st : Store) : Res D := match cf.ini c with
  | none => .bad
  | some f => match cf.cl f (.ref st.length :: ds) (st ++ [.inst c []]) with
    | .ok d st1 => match d with
      | .non => .ok (.ref st.length) st1
      | _ => .bad
    | .exc k d st1 => .exc k d st1
    | .bad => .bad
def varR (env : Env) (i : Nat) (st : Store) : Res D := match env[i]? with
  | some (some (.val d)) => .ok d st
  | _ => .bad
def peekR (m : Mode) (env : Env) (i : Nat) (st : Store) : Res D := match m with
  | .frz => .bad
  | _ => match env[i]? with
    | some (some (.own (.lst ds))) => .ok (.lst ds) st
    | _ => .bad
def negD : D → Option D
  | .int i => some (.int (-i))
  | _ => none
/-- an instance of the class c -/
def isC (st : Store) (d : D) (c : Nat) : Bool := match d with
  | .obj k _ => k == c
  | .ref i => match st[i]? with
    | some (.inst k _) => k == c
    | _ => false
  | _ => false
def fldD (cf : Cf) (st : Store) (d : D) (k : Nat) : Option D := match d with
  | .obj c ds => if c < cf.nc then ((cf.fs c).idxOf? k).bind fun j => ds[j]? else none
  | .ref i => match st[i]? with
    | some (.inst c fs) => if c < cf.nc then fs.lookup k else none
    | _ => none
  | _ => none
def idxD (st : Store) (x y : D) : Option D := match y with
  | .int i => match x with
    | .tup ds => atI ds i
    | .lst ds => atI ds i
    | .scr ns => (atI ns i).map .int
    | .ref r => match st[r]? with
      | some (.lst ds) => atI ds i
      | _ => none
    | _ => none
  | _ => none
/-- a part of a slice: an int -/
def partR (r : Res D) : Res (Option Int) := r.bind fun d st => match d with
  | .int i => .ok (some i) st
  | _ => .bad
def slcD (x : D) (l h : Option Int) : Option D := match x with
  | .tup ds => some (.tup (cut ds l h))
  | .lst ds => some (.lst (cut ds l h))
  | _ => none
def revD : D → Option D
  | .tup ds => some (.tup ds.reverse)
  | .lst ds => some (.lst ds.reverse)
  | _ => none
/-- an instance, frozen, of the class c -/
def isO (d : D) (c : Nat) : Bool := match d with
  | .obj k _ => k == c
  | _ => false
/-- an own == has answered -/
def eqR (ne : Bool) (r : Res D) : Res D := match r with
  | .ok (.bl b) st => .ok (.bl (if ne then !b else b)) st
  | _ => .bad
def rng1D : D → Option (List D)
  | .int j => if range62 j then some (upto 0 j.toNat) else none
  | _ => none
def rng2D (x y : D) : Option (List D) := match x with
  | .int i => match y with
    | .int j => if range62 i && range62 j then some (upto i (j - i).toNat) else none
    | _ => none
  | _ => none
def one? : D → Option (List D)
  | .lst ys => some ys
  | _ => none
def fin (m : Mode) (r : Res D) : Res D := match m with
  | .tst => r.bind fun d st => Res.of ((truD d).map .bl) st
  | _ => r
def asBl (r : Res D) (k : Bool → Store → Res D) : Res D := r.bind fun d st => match d with
  | .bl b => k b st
  | _ => .bad
mutual
def evE (cf : Cf) : E → Mode → Env → Store → Res D
  | .var i, m, env, st => fin m (varR env i st)
  | .peek i, m, env, st => fin m (peekR m env i st)
  | .cst d, m, _, st => fin m (.ok d st)
  | .glo k, m, _, st => fin m (Res.of (cf.con k) st)
  | .tup es, m, env, st => fin m ((evEs cf es env st).bind fun ds st => if fits ds.length then .ok (.tup ds) st else .bad)
  | .lst es, m, env, st => fin m ((evEs cf es env st).bind fun ds st => if fits ds.length then .ok (.lst ds) st else .bad)
  | .cell es, m, env, st => fin m ((evEs cf es env st).bind fun ds st => if fits ds.length then .ok (.ref st.length) (st ++ [.lst ds]) else .bad)
  | .bin o a b, m, env, st => fin m ((evE cf a .brw env st).bind fun x st => (evE cf b .brw env st).bind fun y st => Res.of (opD o x y) st)
  | .neg a, m, env, st => fin m ((evE cf a .brw env st).bind fun x st => Res.of (negD x) st)
  | .cmp o a b, m, env, st => fin m ((evE cf a .brw env st).bind fun x st => (evE cf b .brw env st).bind fun y st => Res.of ((cmD o x y).map .bl) st)
  | .chain o o' a b c, m, env, st => fin m ((evE cf a .brw env st).bind fun x st => (evE cf b .brw env st).bind fun y st => (Res.of (cmD o x y) st).bind fun k st =>
      if k then (evE cf c .brw env st).bind fun z st => Res.of ((cmD o' y z).map .bl) st else .ok (.bl false) st)
  | .and a b, m, env, st => match m with
    | .tst => asBl (evE cf a .tst env st) fun k st => if k then evE cf b .tst env st else .ok (.bl false) st
    | _ => asBl (evE cf a .frz env st) fun k st => if k then evE cf b .frz env st else .ok (.bl false) st
  | .or a b, m, env, st => match m with
    | .tst => asBl (evE cf a .tst env st) fun k st => if k then .ok (.bl true) st else evE cf b .tst env st
    | _ => asBl (evE cf a .frz env st) fun k st => if k then .ok (.bl true) st else evE cf b .frz env st
  | .not a, m, env, st => match m with
    | .tst => asBl (evE cf a .tst env st) fun k st => .ok (.bl (!k)) st
    | _ => asBl (evE cf a .frz env st) fun k st => .ok (.bl (!k)) st
  | .ife t a b, m, env, st => fin m (asBl (evE cf t .tst env st) fun k st => if k then evE cf a .frz env st else evE cf b .frz env st)
  | .call f es, m, env, st => fin m ((evEs cf es env st).bind fun ds st => cf.cl f ds st)
  | .meth c f a es, m, env, st => fin m ((evE cf a .frz env st).bind fun x st => if isC st x c then (evEs cf es env st).bind fun ds st => cf.cl f (x :: ds) st else .bad)
  | .mk c es, m, env, st => fin m ((evEs cf es env st).bind fun ds st => mkR cf c ds st)
  | .mkm c es, m, env, st => fin m ((evEs cf es env st).bind fun ds st => mkmR cf c ds st)
  | .app b es, m, env, st => fin m ((evAs cf es env st).bind fun ds st => Res.of (biD b ds) st)
  | .isi a ts, m, env, st => fin m ((evE cf a .brw env st).bind fun d st => if isD cf.nc d then .ok (.bl (ts.any fun t => t.has d)) st else .bad)
  | .fld a k, m, env, st => fin m ((evE cf a .frz env st).bind fun d st => Res.of (fldD cf st d k) st)
  | .idx a b, m, env, st => fin m ((evE cf a .brw env st).bind fun x st => (evE cf b .frz env st).bind fun y st => Res.of (idxD st x y) st)
  | .slc bl bh a lo hi, m, env, st => fin m ((evE cf a .brw env st).bind fun x st => (if bl then partR (evE cf lo .frz env st) else .ok none st).bind fun l st => (if bh then partR (evE cf hi .frz env st) else .ok none st).bind fun h st => Res.of (slcD x l h) st)
  | .rev a, m, env, st => fin m ((evE cf a .brw env st).bind fun x st => Res.of (revD x) st)
  | .oeq ne c f a b, m, env, st => fin m ((evE cf a .frz env st).bind fun x st => (evE cf b .frz env st).bind fun y st => if isO x c && isO y c then eqR ne (cf.cl f [x, y] st) else .bad)
  | .comp vs tg it c e, m, env, st => fin m ((evI cf it env st).bind fun xs st => (mapGo (fun x st => match bindT tg x (wipeE env vs) with
      | some env2 => (asBl (evE cf c .tst env2 st) fun k st => if k then (evE cf e .frz env2 st).bind fun y st => .ok (.lst [y]) st else .ok (.lst []) st).calm.bind fun d st => Res.of (one? d) st
      | none => .bad) xs st).bind fun ys st => if fits ys.length then .ok (.lst ys) st else .bad)
  | .comp2 vs tg it c vs2 tg2 it2 c2 e, m, env, st => fin m ((evI cf it env st).bind fun xs st => (mapGo (fun x st => match bindT tg x (wipeE env vs) with
      | some env2 => (asBl (evE cf c .tst env2 st) fun k st => if k then (evI cf it2 env2 st).bind fun xs2 st => (mapGo (fun x2 st => match bindT tg2 x2 (wipeE env2 vs2) with
          | some env3 => (asBl (evE cf c2 .tst env3 st) fun k st => if k then (evE cf e .frz env3 st).bind fun y st => .ok (.lst [y]) st else .ok (.lst []) st).calm.bind fun d st => Res.of (one? d) st
          | none => .bad) xs2 st).bind fun ys st => .ok (.lst ys) st else .ok (.lst []) st).calm.bind fun d st => Res.of (one? d) st
      | none => .bad) xs st).bind fun ys st => if fits ys.length then .ok (.lst ys) st else .bad)
def evEs (cf : Cf) : List E → Env → Store → Res (List D)
  | [], _, st => .ok [] st
  | e :: es, env, st => (evE cf e .frz env st).bind fun d st => (evEs cf es env st).bind fun ds st => .ok (d :: ds) st
def evAs (cf : Cf) : List E → Env → Store → Res (List D)
  | [], _, st => .ok [] st
  | e :: es, env, st => (evE cf e .brw env st).bind fun d st => (evAs cf es env st).bind fun ds st => .ok (d :: ds) st
def evI (cf : Cf) : It → Env → Store → Res (List D)
  | .seq b e, env, st => (evE cf e (if b then .brw else .frz) env st).bind fun d st => Res.of d.items st
  | .rng1 e, env, st => (evE cf e .frz env st).bind fun d st => Res.of (rng1D d) st
  | .rng2 a b, env, st => (evE cf a .frz env st).bind fun x st => (evE cf b .frz env st).bind fun y st => Res.of (rng2D x y) st
  | .enum b e, env, st => (evE cf e (if b then .brw else .frz) env st).bind fun d st => Res.of (d.items.map (enumD 0)) st
  | .zip a b, env, st => (evE cf a .frz env st).bind fun x st => (evE cf b .frz env st).bind fun y st => Res.of (zipI x y) st
end

/-! ### statements -/
inductive S where
  | asg (t : Tg) (e : E)
  | own (i : Nat) (e : E)
  | push (i : Nat) (e : E) | ext (i : Nat) (e : E) | ins (i : Nat) (k e : E)
  | seti (i : Nat) (k e : E)
  | cset (o k e : E) | fset (o : E) (k : Nat) (e : E) | cpush (o e : E)
  | ex (e : E)
  | iff (t : E) (a b : List S)
  | whl (t : E) (b : List S)
  | for_ (tg : Tg) (it : It) (b : List S)
  | ret (e : E) | retN | brk | pas
  | rais (c : Nat) (e : E)
  /-- what is never reached -/
  | nev
  | frz (i : Nat)
  | par (is : List Nat) (es : List E)
  | tri (b : List S) (i : Nat) (c : Nat) (tag : Str)
inductive Out where
  | nxt (env : Env) | ret (d : D) | brk (env : Env)
def Env.put (env : Env) (i : Nat) (s : Slot) : Option Env := if i < env.length then some (env.set i (some s)) else none
def insAt {α : Type} (xs : List α) (j : Nat) (y : α) : List α := xs.take j ++ [y] ++ xs.drop j
def ownAt (env : Env) (i : Nat) : Option (List D) := match env[i]? with
  | some (some (.own (.lst ds))) => some ds
  | _ => none
def hasOwn (env : Env) (i : Nat) : Bool := (ownAt env i).isSome
def pushE (env : Env) (i : Nat) (d : D) : Option Env := (ownAt env i).bind fun ds => if ds.length < 16777216 then env.put i (.own (.lst (ds ++ [d]))) else none
def extE (env : Env) (i : Nat) (d : D) : Option Env := (ownAt env i).bind fun ds => (one? d).bind fun xs => if fits (ds.length + xs.length) then env.put i (.own (.lst (ds ++ xs))) else none
def intD : D → Option Int
  | .int j => some j
  | _ => none
def insE (env : Env) (i : Nat) (x d : D) : Option Env := (ownAt env i).bind fun ds => (intD x).bind fun j => if range62 j && decide (0 ≤ j) && decide (ds.length < 16777216) then env.put i (.own (.lst (insAt ds j.toNat d))) else none
def setE (env : Env) (i : Nat) (x d : D) : Option Env := (ownAt env i).bind fun ds => (intD x).bind fun j => (ixN ds.length j).bind fun n => env.put i (.own (.lst (ds.set n d)))
def frzE (env : Env) (i : Nat) : Option Env := (ownAt env i).bind fun ds => env.put i (.val (.lst ds))
def cellAt (st : Store) (r : Nat) : Option (List D) := match st[r]? with
  | some (.lst ds) => some ds
  | _ => none
def instAt (st : Store) (r : Nat) : Option (Nat × List (Nat × D)) := match st[r]? with
  | some (.inst c fs) => some (c, fs)
  | _ => none
def putA (k : Nat) (d : D) : List (Nat × D) → List (Nat × D)
  | [] => [(k, d)]
  | (j, x) :: r => if j = k then (j, d) :: r else (j, x) :: putA k d r
def refD : D → Option Nat
  | .ref r => some r
  | _ => none
def isCell (st : Store) (d : D) : Bool := ((refD d).bind (cellAt st)).isSome
def csetS (st : Store) (r x d : D) : Option Store := (refD r).bind fun r => (intD x).bind fun j => (cellAt st r).bind fun ds => (ixN ds.length j).bind fun n => some (st.set r (.lst (ds.set n d)))
def fsetS (nc : Nat) (st : Store) (r : D) (k : Nat) (d : D) : Option Store := (refD r).bind fun r => (instAt st r).bind fun cf => if cf.2.length < 1000 ∧ cf.1 < nc then some (st.set r (.inst cf.1 (putA k d cf.2))) else none
def cpushS (st : Store) (r d : D) : Option Store := (refD r).bind fun r => (cellAt st r).bind fun ds => if ds.length < 16777216 then some (st.set r (.lst (ds ++ [d]))) else none
def wrS (o : Option Store) (env : Env) : Res Out := match o with
  | some st => .ok (.nxt env) st
  | none => .bad
/-- a loop over items: goes on with the environment, or leaves -/
def forGo (f : D → Env → Store → Res Out) : List D → Env → Store → Res Out
  | [], env, st => .ok (.nxt env) st
  | x :: xs, env, st => (f x env st).bind fun o st => match o with
    | .nxt env => forGo f xs env st
    | .brk env => .ok (.nxt env) st
    | .ret d => .ok (.ret d) st
/-- a loop while t: so many turns at most -/
def whlGo (t : Env → Store → Res D) (f : Env → Store → Res Out) : Nat → Env → Store → Res Out
  | 0, _, _ => .bad
  | n + 1, env, st => (t env st).bind fun d st => match d with
    | .bl true => (f env st).bind fun o st => match o with
      | .nxt env => whlGo t f n env st
      | .brk env => .ok (.nxt env) st
      | .ret d => .ok (.ret d) st
    | .bl false => .ok (.nxt env) st
    | _ => .bad
def turns : Nat := 1000000
def wr (o : Option Env) (st : Store) : Res Out := match o with
  | some env => .ok (.nxt env) st
  | none => .bad
def parE : List Nat → List D → Env → Option Env
  | [], [], env => some env
  | i :: is, d :: ds, env => (env.put i (.val d)).bind (parE is ds)
  | _, _, _ => none
mutual
def evS (cf : Cf) : S → Env → Store → Res Out
  | .asg t e, env, st => (evE cf e .frz env st).bind fun d st => wr (bindT t d env) st
  | .own i e, env, st => (evE cf e .frz env st).bind fun d st => wr ((one? d).bind fun ds => env.put i (.own (.lst ds))) st
  | .push i e, env, st => if hasOwn env i then (evE cf e .frz env st).bind fun d st => wr (pushE env i d) st else .bad
  | .ext i e, env, st => if hasOwn env i then (evE cf e .frz env st).bind fun d st => wr (extE env i d) st else .bad
  | .ins i k e, env, st => if hasOwn env i then (evE cf k .frz env st).bind fun x st => (evE cf e .frz env st).bind fun d st => wr (insE env i x d) st else .bad
  | .seti i k e, env, st => (evE cf e .frz env st).bind fun d st => if hasOwn env i then (evE cf k .frz env st).bind fun x st => wr (setE env i x d) st else .bad
  | .cset o k e, env, st => (evE cf e .frz env st).bind fun d st => (evE cf o .frz env st).bind fun r st => (evE cf k .frz env st).bind fun x st => wrS (csetS st r x d) env
  | .fset o k e, env, st => (evE cf e .frz env st).bind fun d st => (evE cf o .frz env st).bind fun r st => wrS (fsetS cf.nc st r k d) env
  | .cpush o e, env, st => (evE cf o .frz env st).bind fun r st => if isCell st r then (evE cf e .frz env st).bind fun d st => wrS (cpushS st r d) env else .bad
  | .ex e, env, st => (evE cf e .frz env st).bind fun _ st => .ok (.nxt env) st
  | .iff t a b, env, st => (evE cf t .tst env st).bind fun d st => match d with
    | .bl true => evSs cf a env st
    | .bl false => evSs cf b env st
    | _ => .bad
  | .whl t b, env, st => whlGo (fun env st => evE cf t .tst env st) (fun env st => evSs cf b env st) turns env st
  | .for_ tg it b, env, st => (evI cf it env st).bind fun xs st => forGo (fun x env st => match bindT tg x env with
    | some env => evSs cf b env st
    | none => .bad) xs env st
  | .ret e, env, st => (evE cf e .frz env st).bind fun d st => .ok (.ret d) st
  | .retN, _, st => .ok (.ret .non) st
  | .brk, env, st => .ok (.brk env) st
  | .pas, env, st => .ok (.nxt env) st
  | .nev, _, _ => .bad
  | .rais c e, env, st => (evE cf e .frz env st).bind fun d st => .exc c d st
  | .frz i, env, st => wr (frzE env i) st
  | .par is es, env, st => (evEs cf es env st).bind fun ds st => wr (parE is ds env) st
  | .tri b _ c tag, env, st => match evSs cf b env st with
    | .exc k d st => if cf.xs.contains k then (if k = c then .ok (.ret (.tup [.str tag, d])) st else .exc k d st) else .bad
    | r => r
def evSs (cf : Cf) : List S → Env → Store → Res Out
  | [], env, st => .ok (.nxt env) st
  | s :: ss, env, st => (evS cf s env st).bind fun o st => match o with
    | .nxt env => evSs cf ss env st
    | .brk env => .ok (.brk env) st
    | .ret d => .ok (.ret d) st
end

/-! ### a program -/
structure Fd where
  np : Nat
  ns : Nat
  body : List S
structure Prog where
  fd : Nat → Option Fd
  con : Nat → Option D
  fs : Nat → List Nat
  ini : Nat → Option Nat
  nc : Nat
  xs : List Nat
def Fd.env (f : Fd) (ds : List D) : Env := ds.map (fun d => some (.val d)) ++ List.replicate (f.ns - ds.length) none
def outD (r : Res Out) : Res D := r.bind fun o st => match o with
  | .ret d => .ok d st
  | .nxt _ => .ok .non st
  | .brk _ => .bad
def Prog.cl (p : Prog) : Nat → Nat → List D → Store → Res D
  | 0, _, _, _ => .bad
  | n + 1, f, ds, st => match p.fd f with
    | some fd => if ds.length = fd.np then outD (evSs ⟨p.cl n, p.con, p.fs, p.ini, p.nc, p.xs⟩ fd.body (fd.env ds) st) else .bad
    | none => .bad
def Prog.cf (p : Prog) (n : Nat) : Cf := ⟨p.cl n, p.con, p.fs, p.ini, p.nc, p.xs⟩
end Bp
set_option Elab.async false
set_option linter.all false
set_option maxRecDepth 100000
/-! BpPy: trees as the library's data. -/
namespace Bp
open PySem PySem.W PyProof.Rows

mutual
def D.py : D → PyData
  | .non => .none
  | .bl b => .bool b
  | .int i => .int i
  | .str s => .str s
  | .tup ds => .tuple (D.pyL ds)
  | .lst ds => .list (D.pyL ds)
  | .dct _ _ => .none
  | .obj _ _ => .none
  | .ref _ => .none
  | .scr _ => .none
def D.pyL : List D → List PyData
  | [] => []
  | d :: ds => D.py d :: D.pyL ds
end
theorem pyL_map : ∀ ds : List D, D.pyL ds = ds.map D.py
  | [] => by simp [D.pyL]
  | d :: ds => by simp [D.pyL, pyL_map ds]

theorem datL_iff (n : Nat) : ∀ ds : List D, D.datL n ds = ds.all (D.dat n)
  | [] => by simp [D.datL]
  | d :: ds => by simp [D.datL, datL_iff n ds]

mutual
theorem dat_plain : ∀ (d : D) (n : Nat), D.dat n d = true → (D.py d).plain = true ∧ (D.py d).depth ≤ n
  | .non, n, h => by simp [D.py, PyData.plain, PyData.depth]
  | .bl _, n, h => by simp [D.py, PyData.plain, PyData.depth]
  | .int _, n, h => by simp [D.py, PyData.plain, PyData.depth]
  | .str _, n, h => by simp [D.py, PyData.plain, PyData.depth]
  | .tup ds, n, h => by
    cases n with
    | zero => simp [D.dat] at h
    | succ n =>
      simp only [D.dat] at h
      obtain ⟨h1, h2⟩ := datL_plain ds n h
      simp only [D.py, PyData.plain, PyData.depth]
      exact ⟨h1, Nat.succ_le_succ h2⟩
  | .lst ds, n, h => by
    cases n with
    | zero => simp [D.dat] at h
    | succ n =>
      simp only [D.dat] at h
      obtain ⟨h1, h2⟩ := datL_plain ds n h
      simp only [D.py, PyData.plain, PyData.depth]
      exact ⟨h1, Nat.succ_le_succ h2⟩
  | .dct _ _, n, h => by simp [D.dat] at h
  | .obj _ _, n, h => by simp [D.dat] at h
  | .ref _, n, h => by simp [D.dat] at h
  | .scr _, n, h => by simp [D.dat] at h
theorem datL_plain : ∀ (ds : List D) (n : Nat), D.datL n ds = true → PyData.plainAll (D.pyL ds) = true ∧ PyData.depthAll (D.pyL ds) ≤ n
  | [], n, h => by simp [D.pyL, PyData.plainAll, PyData.depthAll]
  | d :: ds, n, h => by
    simp only [D.datL, Bool.and_eq_true] at h
    obtain ⟨h1, h2⟩ := dat_plain d n h.1
    obtain ⟨h3, h4⟩ := datL_plain ds n h.2
    simp only [D.pyL, PyData.plainAll, PyData.depthAll, h1, h3, Bool.and_self, true_and]
    exact Nat.max_le.mpr ⟨h2, h4⟩
end
mutual
theorem eqv_py : ∀ (a b : D) (n m : Nat), D.dat n a = true → D.dat m b = true → PyData.eqv (D.py a) (D.py b) = D.eqv a b
  | .non, b, n, m, h, k => by cases b <;> simp [D.py, PyData.eqv, D.eqv, D.dat] at h k ⊢
  | .bl x, b, n, m, h, k => by cases b <;> simp [D.py, PyData.eqv, D.eqv, D.dat] at h k ⊢
  | .int i, b, n, m, h, k => by cases b <;> simp [D.py, PyData.eqv, D.eqv, D.dat] at h k ⊢
  | .str x, b, n, m, h, k => by cases b <;> simp [D.py, PyData.eqv, D.eqv, D.dat] at h k ⊢
  | .tup xs, b, n, m, h, k => by
    cases b with
    | tup ys =>
      cases n with
      | zero => simp [D.dat] at h
      | succ n =>
        cases m with
        | zero => simp [D.dat] at k
        | succ m =>
          simp only [D.dat] at h k
          simp only [D.py, PyData.eqv, D.eqv]
          exact eqvL_py xs ys n m h k
    | _ => simp [D.py, PyData.eqv, D.eqv, D.dat] at k ⊢
  | .lst xs, b, n, m, h, k => by
    cases b with
    | lst ys =>
      cases n with
      | zero => simp [D.dat] at h
      | succ n =>
        cases m with
        | zero => simp [D.dat] at k
        | succ m =>
          simp only [D.dat] at h k
          simp only [D.py, PyData.eqv, D.eqv]
          exact eqvL_py xs ys n m h k
    | _ => simp [D.py, PyData.eqv, D.eqv, D.dat] at k ⊢
  | .dct _ _, b, n, m, h, k => by simp [D.dat] at h
  | .obj _ _, b, n, m, h, k => by simp [D.dat] at h
  | .ref _, b, n, m, h, k => by simp [D.dat] at h
  | .scr _, b, n, m, h, k => by simp [D.dat] at h
theorem eqvL_py : ∀ (xs ys : List D) (n m : Nat), D.datL n xs = true → D.datL m ys = true → PyData.eqvAll (D.pyL xs) (D.pyL ys) = D.eqvL xs ys
  | [], ys, n, m, h, k => by cases ys <;> simp [D.pyL, PyData.eqvAll, D.eqvL]
  | x :: xs, ys, n, m, h, k => by
    cases ys with
    | nil => simp [D.pyL, PyData.eqvAll, D.eqvL]
    | cons y ys =>
      simp only [D.datL, Bool.and_eq_true] at h k
      simp only [D.pyL, PyData.eqvAll, D.eqvL, eqv_py x y n m h.1 k.1, eqvL_py xs ys n m h.2 k.2]
end
mutual
theorem alike_py : ∀ (a b : D) (n m : Nat), D.dat n a = true → D.dat m b = true → alike (D.py a) (D.py b) = D.alike a b
  | .non, b, n, m, h, k => by cases b <;> simp [D.py, alike, D.alike, D.dat] at h k ⊢
  | .bl x, b, n, m, h, k => by cases b <;> simp [D.py, alike, D.alike, D.dat] at h k ⊢
  | .int i, b, n, m, h, k => by cases b <;> simp [D.py, alike, D.alike, D.dat] at h k ⊢
  | .str x, b, n, m, h, k => by cases b <;> simp [D.py, alike, D.alike, D.dat] at h k ⊢
  | .tup xs, b, n, m, h, k => by
    cases b with
    | tup ys =>
      cases n with
      | zero => simp [D.dat] at h
      | succ n =>
        cases m with
        | zero => simp [D.dat] at k
        | succ m =>
          simp only [D.dat] at h k
          simp only [D.py, alike, D.alike]
          exact alikeL_py xs ys n m h k
    | _ => simp [D.py, alike, D.alike, D.dat] at k ⊢
  | .lst xs, b, n, m, h, k => by
    cases b with
    | lst ys =>
      cases n with
      | zero => simp [D.dat] at h
      | succ n =>
        cases m with
        | zero => simp [D.dat] at k
        | succ m =>
          simp only [D.dat] at h k
          simp only [D.py, alike, D.alike]
          exact alikeL_py xs ys n m h k
    | _ => simp [D.py, alike, D.alike, D.dat] at k ⊢
  | .dct _ _, b, n, m, h, k => by simp [D.dat] at h
  | .obj _ _, b, n, m, h, k => by simp [D.dat] at h
  | .ref _, b, n, m, h, k => by simp [D.dat] at h
  | .scr _, b, n, m, h, k => by simp [D.dat] at h
theorem alikeL_py : ∀ (xs ys : List D) (n m : Nat), D.datL n xs = true → D.datL m ys = true → alikeAll (D.pyL xs) (D.pyL ys) = D.alikeL xs ys
  | [], ys, n, m, h, k => by cases ys <;> simp [D.pyL, alikeAll, D.alikeL]
  | x :: xs, ys, n, m, h, k => by
    cases ys with
    | nil => simp [D.pyL, alikeAll, D.alikeL]
    | cons y ys =>
      simp only [D.datL, Bool.and_eq_true] at h k
      simp only [D.pyL, alikeAll, D.alikeL, alike_py x y n m h.1 k.1, alikeL_py xs ys n m h.2 k.2]
end
theorem dataLt_int (a b : Int) : dataLt (.int a) (.int b) = decide (a < b) := by
  simp only [dataLt, keyToks]
  by_cases e : a = b
  · subst e
    rw [lex_irrefl]
    simp
  · rw [lex_cons]
    simp only [lex_irrefl, itemLt]
    simp [e]
theorem dataLt_bool (a b : Bool) : dataLt (.bool a) (.bool b) = (!a && b) := by
  simp only [dataLt, keyToks]
  cases a <;> cases b
  · rw [lex_irrefl]; rfl
  · rw [lex_cons]; simp [itemLt]
  · rw [lex_cons]; simp [itemLt, lex_irrefl]
  · rw [lex_irrefl]; rfl
theorem dataLt_str (a b : Str) : dataLt (.str a) (.str b) = decide (a.cps.toList < b.cps.toList) := by
  have h2 := congrFun (congrFun (dataLe_str (β := Str) id) b) a
  have h3 : (!dataLt (.str a) (.str b)) = decide (b.cps.toList ≤ a.cps.toList) := h2
  by_cases e : a.cps.toList < b.cps.toList
  · have q : ¬ b.cps.toList ≤ a.cps.toList := fun k => absurd e (List.not_lt.mpr k)
    rw [decide_eq_false q] at h3
    rw [decide_eq_true e]
    cases z : dataLt (.str a) (.str b)
    · rw [z] at h3; cases h3
    · rfl
  · have q : b.cps.toList ≤ a.cps.toList := List.not_lt.mp e
    rw [decide_eq_true q] at h3
    rw [decide_eq_false e]
    cases z : dataLt (.str a) (.str b)
    · rfl
    · rw [z] at h3; cases h3
theorem rowLt_eq (xs ys : List PyData) : dataLt (.tuple xs) (.tuple ys) = lexLt itemOrd (keyToksAll xs) (keyToksAll ys) := by
  simp only [dataLt, keyToks]
theorem rowLt_eq' (xs ys : List PyData) : dataLt (.list xs) (.list ys) = lexLt itemOrd (keyToksAll xs) (keyToksAll ys) := by
  simp only [dataLt, keyToks]
theorem lexAll_nil_nil : lexLt itemOrd (keyToksAll []) (keyToksAll []) = false := lex_irrefl _
theorem lexAll_nil_cons (y : PyData) (ys : List PyData) : lexLt itemOrd (keyToksAll []) (keyToksAll (y :: ys)) = true := by
  simp only [keyToksAll]
  rw [lex_cons]
  simp [itemLt]
theorem lexAll_cons_nil (y : PyData) (ys : List PyData) : lexLt itemOrd (keyToksAll (y :: ys)) (keyToksAll []) = false := by
  simp only [keyToksAll]
  rw [lex_cons]
  simp [itemLt]
mutual
theorem lt_py : ∀ (a b : D) (n m : Nat), D.dat n a = true → D.dat m b = true → D.alike a b = true → a.isNon = false → dataLt (D.py a) (D.py b) = D.lt a b
  | .non, b, n, m, h, k, al, nn => by simp [D.isNon] at nn
  | .bl x, b, n, m, h, k, al, nn => by
    cases b <;> simp [D.alike] at al
    simp only [D.py, D.lt, dataLt_bool]
  | .int i, b, n, m, h, k, al, nn => by
    cases b <;> simp [D.alike] at al
    simp only [D.py, D.lt, dataLt_int]
  | .str x, b, n, m, h, k, al, nn => by
    cases b <;> simp [D.alike] at al
    simp only [D.py, D.lt, dataLt_str]
  | .tup xs, b, n, m, h, k, al, nn => by
    cases b with
    | tup ys =>
      cases n with
      | zero => simp [D.dat] at h
      | succ n =>
        cases m with
        | zero => simp [D.dat] at k
        | succ m =>
          simp only [D.dat] at h k
          simp only [D.alike] at al
          simp only [D.py, D.lt, rowLt_eq]
          exact ltL_py xs ys n m h k al
    | _ => simp [D.alike] at al
  | .lst xs, b, n, m, h, k, al, nn => by
    cases b with
    | lst ys =>
      cases n with
      | zero => simp [D.dat] at h
      | succ n =>
        cases m with
        | zero => simp [D.dat] at k
        | succ m =>
          simp only [D.dat] at h k
          simp only [D.alike] at al
          simp only [D.py, D.lt, rowLt_eq']
          exact ltL_py xs ys n m h k al
    | _ => simp [D.alike] at al
  | .dct _ _, b, n, m, h, k, al, nn => by simp [D.dat] at h
  | .obj _ _, b, n, m, h, k, al, nn => by simp [D.dat] at h
  | .ref _, b, n, m, h, k, al, nn => by simp [D.dat] at h
  | .scr _, b, n, m, h, k, al, nn => by simp [D.dat] at h
theorem ltL_py : ∀ (xs ys : List D) (n m : Nat), D.datL n xs = true → D.datL m ys = true → D.alikeL xs ys = true → lexLt itemOrd (keyToksAll (D.pyL xs)) (keyToksAll (D.pyL ys)) = D.ltL xs ys
  | [], ys, n, m, h, k, al => by
    cases ys with
    | nil => simp only [D.pyL, D.ltL, lexAll_nil_nil]
    | cons y ys => simp only [D.pyL, D.ltL, lexAll_nil_cons]
  | x :: xs, ys, n, m, h, k, al => by
    cases ys with
    | nil => simp only [D.pyL, D.ltL, lexAll_cons_nil]
    | cons y ys =>
      simp only [D.datL, Bool.and_eq_true] at h k
      simp only [D.alikeL, Bool.and_eq_true] at al
      simp only [D.pyL, D.ltL]
      rw [dataLt_cons (by rw [alike_py x y n m h.1 k.1]; exact al.1), eqv_py x y n m h.1 k.1, ltL_py xs ys n m h.2 k.2 al.2]
      by_cases e : D.eqv x y = true
      · simp only [e, if_true]
      · simp only [e]
        refine lt_py x y n m h.1 k.1 al.1 ?_
        cases x <;> simp [D.isNon]
        cases y <;> simp [D.alike] at al
        simp [D.eqv] at e
end
theorem alike_comm_D (a b : D) (n m : Nat) (h : D.dat n a = true) (k : D.dat m b = true) : D.alike a b = D.alike b a := by
  rw [← alike_py a b n m h k, ← alike_py b a m n k h, PySem.W.alike_comm]
theorem py_non (d : D) (n : Nat) (h : D.dat n d = true) : D.py d = .none ↔ d.isNon = true := by
  cases d <;> simp [D.py, D.isNon, D.dat] at h ⊢
end Bp
set_option Elab.async false
set_option linter.all false
set_option maxRecDepth 100000
/-! BpRep: what stands for a tree in the abstract heap; worlds; the interpreter's answer as a reading. -/
namespace Bp
open PySem PySem.Spec PyProof.Rows L2

/-- what is told of the text: the written part, class addresses and their fields' names, error classes and their field -/
structure Glob where
  P : Program
  w : World
  K : PySem.W.Frag
  mg : Str → Option Value
  base : Heap
  cA : Nat → Addr
  fs : Nat → List Nat
  at_ : Nat → Str
  xA : Nat → Addr
  xF : Nat → Str

/-- a world: F the frozen part of the abstract heap, α the addresses of the store's cells -/
structure Wd where
  F : Hp
  α : List Addr

mutual
def Rep (g : Glob) (W : Wd) : D → V → Prop
  | .non, v => v = .non
  | .bl b, v => v = .bl b
  | .int i, v => v = .int i
  | .str s, v => v = .str s
  | .tup ds, v => ∃ a vs, v = .ref a ∧ SqT g.K W.F a vs ∧ RepL g W ds vs
  | .lst ds, v => ∃ a vs, v = .ref a ∧ W.F a = some (.lst vs) ∧ RepL g W ds vs
  | .dct _ _, _ => False
  | .obj c ds, v => ∃ a dx vs, v = .ref a ∧ W.F a = some (.ins (g.cA c) dx (((g.fs c).map g.at_).zip vs)) ∧ vs.length = (g.fs c).length ∧ RepL g W ds vs
  | .ref i, v => ∃ a, W.α[i]? = some a ∧ v = .ref a
  | .scr ns, v => ∃ a, v = .ref a ∧ SqL g.K W.F a (ns.map V.int)
def RepL (g : Glob) (W : Wd) : List D → List V → Prop
  | [], vs => vs = []
  | d :: ds, vs => ∃ v vs', vs = v :: vs' ∧ Rep g W d v ∧ RepL g W ds vs'
end

structure Wle (W W' : Wd) : Prop where
  f : ∀ a o, W.F a = some o → W'.F a = some o
  a : W.α <+: W'.α
theorem Wle.refl {W : Wd} : Wle W W := ⟨fun _ _ h => h, List.prefix_rfl⟩
theorem Wle.trans {W W1 W2 : Wd} (h : Wle W W1) (k : Wle W1 W2) : Wle W W2 := ⟨fun a o e => k.f a o (h.f a o e), h.a.trans k.a⟩

def Hle (H H' : Hp) : Prop := ∀ a o, H a = some o → H' a = some o
theorem Rd.mono {H H' : Hp} {a : Addr} {u : HO} (h : Hle H H') (r : Rd H a u) : Rd H' a u := by
  rcases r with r | ⟨o, r⟩
  · exact .inl (h _ _ r)
  · exact .inr ⟨o, h _ _ r⟩
theorem SqL.mono {K : PySem.W.Frag} {H H' : Hp} {a : Addr} {xs : List V} (h : Hle H H') (r : SqL K H a xs) : SqL K H' a xs := by
  rcases r with r | r
  · exact .inl (Rd.mono h r)
  · exact .inr r
theorem SqT.mono {K : PySem.W.Frag} {H H' : Hp} {a : Addr} {xs : List V} (h : Hle H H') (r : SqT K H a xs) : SqT K H' a xs := by
  rcases r with r | r
  · exact .inl (Rd.mono h r)
  · exact .inr r
theorem prefix_get {α : Type} {l m : List α} (h : l <+: m) {i : Nat} {x : α} (e : l[i]? = some x) : m[i]? = some x := by
  obtain ⟨t, rfl⟩ := h
  rw [List.getElem?_append_left (List.getElem?_eq_some_iff.mp e).1]; exact e

mutual
theorem Rep.mono {g : Glob} {W W' : Wd} (h : Wle W W') : ∀ (d : D) (v : V), Rep g W d v → Rep g W' d v
  | .non, v, r => by unfold Rep at r ⊢; exact r
  | .bl b, v, r => by unfold Rep at r ⊢; exact r
  | .int i, v, r => by unfold Rep at r ⊢; exact r
  | .str s, v, r => by unfold Rep at r ⊢; exact r
  | .tup ds, v, r => by
    unfold Rep at r ⊢
    obtain ⟨a, vs, e, s, l⟩ := r
    exact ⟨a, vs, e, SqT.mono h.f s, RepL.mono h ds vs l⟩
  | .lst ds, v, r => by
    unfold Rep at r ⊢
    obtain ⟨a, vs, e, s, l⟩ := r
    exact ⟨a, vs, e, h.f _ _ s, RepL.mono h ds vs l⟩
  | .dct ks xs, v, r => by unfold Rep at r ⊢; exact r
  | .obj c ds, v, r => by
    unfold Rep at r ⊢
    obtain ⟨a, dx, vs, e, s, z, l⟩ := r
    exact ⟨a, dx, vs, e, h.f _ _ s, z, RepL.mono h ds vs l⟩
  | .ref i, v, r => by
    unfold Rep at r ⊢
    obtain ⟨a, e, q⟩ := r
    exact ⟨a, prefix_get h.a e, q⟩
  | .scr ns, v, r => by
    unfold Rep at r ⊢
    obtain ⟨a, e, q⟩ := r
    exact ⟨a, e, SqL.mono h.f q⟩
theorem RepL.mono {g : Glob} {W W' : Wd} (h : Wle W W') : ∀ (ds : List D) (vs : List V), RepL g W ds vs → RepL g W' ds vs
  | [], vs, r => by unfold RepL at r ⊢; exact r
  | d :: ds, vs, r => by
    unfold RepL at r ⊢
    obtain ⟨v, vs', e, q, l⟩ := r
    exact ⟨v, vs', e, Rep.mono h d v q, RepL.mono h ds vs' l⟩
end

section
variable {g : Glob} {W : Wd}
theorem Rep.non_iff {v : V} : Rep g W .non v ↔ v = .non := by unfold Rep; rfl
theorem Rep.bl_iff {b : Bool} {v : V} : Rep g W (.bl b) v ↔ v = .bl b := by unfold Rep; rfl
theorem Rep.int_iff {i : Int} {v : V} : Rep g W (.int i) v ↔ v = .int i := by unfold Rep; rfl
theorem Rep.str_iff {s : Str} {v : V} : Rep g W (.str s) v ↔ v = .str s := by unfold Rep; rfl
theorem Rep.tup_iff {ds : List D} {v : V} : Rep g W (.tup ds) v ↔ ∃ a vs, v = .ref a ∧ SqT g.K W.F a vs ∧ RepL g W ds vs := by
  constructor
  · intro h; unfold Rep at h; exact h
  · intro h; unfold Rep; exact h
theorem Rep.lst_iff {ds : List D} {v : V} : Rep g W (.lst ds) v ↔ ∃ a vs, v = .ref a ∧ W.F a = some (.lst vs) ∧ RepL g W ds vs := by
  constructor
  · intro h; unfold Rep at h; exact h
  · intro h; unfold Rep; exact h
theorem Rep.obj_iff {c : Nat} {ds : List D} {v : V} : Rep g W (.obj c ds) v ↔ ∃ a dx vs, v = .ref a ∧ W.F a = some (.ins (g.cA c) dx (((g.fs c).map g.at_).zip vs)) ∧ vs.length = (g.fs c).length ∧ RepL g W ds vs := by
  constructor
  · intro h; unfold Rep at h; exact h
  · intro h; unfold Rep; exact h
theorem Rep.ref_iff {i : Nat} {v : V} : Rep g W (.ref i) v ↔ ∃ a, W.α[i]? = some a ∧ v = .ref a := by
  constructor
  · intro h; unfold Rep at h; exact h
  · intro h; unfold Rep; exact h
theorem Rep.scr_iff {ns : List Int} {v : V} : Rep g W (.scr ns) v ↔ ∃ a, v = .ref a ∧ SqL g.K W.F a (ns.map V.int) := by
  constructor
  · intro h; unfold Rep at h; exact h
  · intro h; unfold Rep; exact h
theorem RepL.nil_iff {vs : List V} : RepL g W [] vs ↔ vs = [] := by
  constructor
  · intro h; unfold RepL at h; exact h
  · intro h; unfold RepL; exact h
theorem RepL.cons_iff {d : D} {ds : List D} {vs : List V} : RepL g W (d :: ds) vs ↔ ∃ v vs', vs = v :: vs' ∧ Rep g W d v ∧ RepL g W ds vs' := by
  constructor
  · intro h; unfold RepL at h; exact h
  · intro h; unfold RepL; exact h
theorem RepL.nil : RepL g W [] [] := RepL.nil_iff.mpr rfl
theorem RepL.cons {d : D} {ds : List D} {v : V} {vs : List V} (h : Rep g W d v) (k : RepL g W ds vs) : RepL g W (d :: ds) (v :: vs) := RepL.cons_iff.mpr ⟨v, vs, rfl, h, k⟩
theorem RepL.len : ∀ {ds : List D} {vs : List V}, RepL g W ds vs → ds.length = vs.length
  | [], vs, h => by rw [RepL.nil_iff.mp h]; rfl
  | d :: ds, vs, h => by
    obtain ⟨v, vs', e, _, k⟩ := RepL.cons_iff.mp h
    rw [e, List.length_cons, List.length_cons, RepL.len k]
theorem RepL.get : ∀ {ds : List D} {vs : List V} {i : Nat} {d : D}, RepL g W ds vs → ds[i]? = some d → ∃ v, vs[i]? = some v ∧ Rep g W d v
  | [], _, _, _, _, e => by simp at e
  | d :: ds, vs, i, x, h, e => by
    obtain ⟨v, vs', ev, q, k⟩ := RepL.cons_iff.mp h
    subst ev
    cases i with
    | zero => simp at e; subst e; exact ⟨v, rfl, q⟩
    | succ i =>
      obtain ⟨y, e1, e2⟩ := RepL.get (i := i) k (by simpa using e)
      exact ⟨y, by simpa using e1, e2⟩
theorem RepL.get' : ∀ {ds : List D} {vs : List V} {i : Nat} {v : V}, RepL g W ds vs → vs[i]? = some v → ∃ d, ds[i]? = some d ∧ Rep g W d v
  | [], vs, i, v, h, e => by rw [RepL.nil_iff.mp h] at e; simp at e
  | d :: ds, vs, i, x, h, e => by
    obtain ⟨v, vs', ev, q, k⟩ := RepL.cons_iff.mp h
    subst ev
    cases i with
    | zero => simp at e; subst e; exact ⟨d, rfl, q⟩
    | succ i =>
      obtain ⟨y, e1, e2⟩ := RepL.get' (i := i) k (by simpa using e)
      exact ⟨y, by simpa using e1, e2⟩
theorem RepL.app : ∀ {ds es : List D} {vs us : List V}, RepL g W ds vs → RepL g W es us → RepL g W (ds ++ es) (vs ++ us)
  | [], es, vs, us, h, k => by rw [RepL.nil_iff.mp h]; exact k
  | d :: ds, es, vs, us, h, k => by
    obtain ⟨v, vs', ev, q, l⟩ := RepL.cons_iff.mp h
    subst ev
    exact RepL.cons q (RepL.app l k)
theorem RepL.drop : ∀ {ds : List D} {vs : List V} (n : Nat), RepL g W ds vs → RepL g W (ds.drop n) (vs.drop n)
  | _, _, 0, h => h
  | [], vs, n + 1, h => by rw [RepL.nil_iff.mp h]; exact RepL.nil
  | d :: ds, vs, n + 1, h => by
    obtain ⟨v, vs', ev, q, l⟩ := RepL.cons_iff.mp h
    subst ev
    exact RepL.drop n l
theorem RepL.take : ∀ {ds : List D} {vs : List V} (n : Nat), RepL g W ds vs → RepL g W (ds.take n) (vs.take n)
  | _, _, 0, h => RepL.nil
  | [], vs, n + 1, h => by rw [RepL.nil_iff.mp h]; exact RepL.nil
  | d :: ds, vs, n + 1, h => by
    obtain ⟨v, vs', ev, q, l⟩ := RepL.cons_iff.mp h
    subst ev
    exact RepL.cons q (RepL.take n l)
theorem RepL.set : ∀ {ds : List D} {vs : List V} (n : Nat) {d : D} {v : V}, RepL g W ds vs → Rep g W d v → RepL g W (ds.set n d) (vs.set n v)
  | [], vs, n, d, v, h, q => by rw [RepL.nil_iff.mp h]; exact RepL.nil
  | x :: ds, vs, n, d, v, h, q => by
    obtain ⟨y, vs', ev, q', l⟩ := RepL.cons_iff.mp h
    subst ev
    cases n with
    | zero => exact RepL.cons q l
    | succ n => exact RepL.cons q' (RepL.set n l q)
theorem RepL.rep (n : Nat) {ds : List D} {vs : List V} (h : RepL g W ds vs) : RepL g W (Bp.rep n ds) (List.replicate n vs).flatten := by
  unfold Bp.rep
  induction n with
  | zero => exact RepL.nil
  | succ n ih =>
    simp only [List.replicate_succ, List.flatten_cons]
    exact RepL.app h ih
end

/-! ### what an expression may do to the world -/
structure Ext (W : Wd) (H : Hp) (W' : Wd) (H' : Hp) : Prop where
  le : Wle W W'
  fr : ∀ a o, H a = some o → a ∉ W.α → H' a = some o
  kf : ∀ a o, H a = some o → a ∉ W.α → W.F a = none → W'.F a = none
  na : ∀ a, a ∈ W'.α → a ∈ W.α ∨ H a = none
theorem Ext.refl {W : Wd} {H : Hp} : Ext W H W H := ⟨Wle.refl, fun _ _ h _ => h, fun _ _ _ _ h => h, fun _ h => .inl h⟩
theorem Ext.trans {W W1 W2 : Wd} {H H1 H2 : Hp} (x : Ext W H W1 H1) (y : Ext W1 H1 W2 H2) : Ext W H W2 H2 := by
  have out : ∀ a o, H a = some o → a ∉ W.α → a ∉ W1.α := fun a o e n z => by
    rcases x.na a z with q | q
    · exact n q
    · rw [q] at e; cases e
  refine ⟨x.le.trans y.le, fun a o e n => y.fr a o (x.fr a o e n) (out a o e n), fun a o e n z => y.kf a o (x.fr a o e n) (out a o e n) (x.kf a o e n z), fun a h => ?_⟩
  rcases y.na a h with q | q
  · exact x.na a q
  · by_cases z : a ∈ W.α
    · exact .inl z
    · refine .inr ?_
      cases e : H a with
      | none => rfl
      | some o => rw [x.fr a o e z] at q; cases q

/-- an instance's fields -/
def RepF (g : Glob) (W : Wd) : List (Nat × D) → List (Str × V) → Prop
  | [], fs => fs = []
  | (k, d) :: r, fs => ∃ v fs', fs = (g.at_ k, v) :: fs' ∧ Rep g W d v ∧ RepF g W r fs'
theorem RepF.mono {g : Glob} {W W' : Wd} (h : Wle W W') : ∀ {r : List (Nat × D)} {fs : List (Str × V)}, RepF g W r fs → RepF g W' r fs
  | [], fs, q => q
  | (k, d) :: r, fs, q => by
    obtain ⟨v, fs', e, q1, q2⟩ := (show ∃ v fs', fs = (g.at_ k, v) :: fs' ∧ Rep g W d v ∧ RepF g W r fs' from q)
    exact ⟨v, fs', e, Rep.mono h _ _ q1, RepF.mono h q2⟩
def CellRep (g : Glob) (W : Wd) (H : Hp) (a : Addr) : Cell → Prop
  | .lst ds => ∃ vs, H a = some (.lst vs) ∧ RepL g W ds vs
  | .inst c r => ∃ dx fs, H a = some (.ins (g.cA c) dx fs) ∧ RepF g W r fs
structure CellM (g : Glob) (W : Wd) (st : Store) (H : Hp) : Prop where
  fle : Hle W.F H
  len : W.α.length = st.length
  nd : W.α.Nodup
  nf : ∀ a, a ∈ W.α → W.F a = none
  cell : ∀ (i : Nat) (c : Cell), st[i]? = some c → ∃ a, W.α[i]? = some a ∧ CellRep g W H a c

/-- a slot's value -/
def SlotRep (g : Glob) (W : Wd) (H : Hp) : Slot → V → Prop
  | .val d, v => Rep g W d v
  | .own (.lst ds), v => ∃ a vs, v = .ref a ∧ H a = some (.lst vs) ∧ RepL g W ds vs
/-- where one came in -/
structure Ent where
  W : Wd
  H : Hp
structure EnvM (g : Glob) (en : Ent) (W : Wd) (env : Env) (σ : L2.St) (H : Hp) : Prop where
  ent : Ext en.W en.H W H
  len : σ.length = env.length
  slot : ∀ (i : Nat) (s : Slot), env[i]? = some (some s) → ∃ v, σ[i]? = some (some v) ∧ SlotRep g W H s v
  own : ∀ (i : Nat) (o : Bp.Obj) (a : Addr), env[i]? = some (some (.own o)) → σ[i]? = some (some (.ref a)) → en.H a = none ∧ W.F a = none ∧ a ∉ W.α
  apart : ∀ (i j : Nat) (o o' : Bp.Obj) (v : V), i ≠ j → env[i]? = some (some (.own o)) → env[j]? = some (some (.own o')) → σ[i]? = some (some v) → σ[j]? = some (some v) → False

/-- a value that is read now: frozen, or a slot's own list -/
def RepB (g : Glob) (W : Wd) (H : Hp) (d : D) (v : V) : Prop :=
  Rep g W d v ∨ ∃ ds a vs, d = .lst ds ∧ v = .ref a ∧ H a = some (.lst vs) ∧ a ∉ W.α ∧ RepL g W ds vs
theorem RepB.ext {g : Glob} {W W' : Wd} {H H' : Hp} {d : D} {v : V} (x : Ext W H W' H') (r : RepB g W H d v) : RepB g W' H' d v := by
  rcases r with r | ⟨ds, a, vs, e1, e2, e3, e4, e5⟩
  · exact .inl (Rep.mono x.le _ _ r)
  · refine .inr ⟨ds, a, vs, e1, e2, x.fr a _ e3 e4, fun z => ?_, RepL.mono x.le _ _ e5⟩
    rcases x.na a z with q | q
    · exact e4 q
    · rw [q] at e3; cases e3
/-- a new list, no one's yet -/
def RepN (g : Glob) (H0 : Hp) (W : Wd) (H : Hp) (d : D) (v : V) : Prop :=
  ∃ ds a vs, d = .lst ds ∧ v = .ref a ∧ H0 a = none ∧ H a = some (.lst vs) ∧ W.F a = none ∧ a ∉ W.α ∧ RepL g W ds vs

section
variable {g : Glob} {en : Ent} {W W' : Wd} {H H' : Hp} {st : Store} {env : Env} {σ : L2.St}
theorem EnvM.ext (m : EnvM g en W env σ H) (x : Ext W H W' H') : EnvM g en W' env σ H' := by
  have own : ∀ (i : Nat) (o : Bp.Obj) (a : Addr), env[i]? = some (some (.own o)) → σ[i]? = some (some (.ref a)) → ∃ u, H a = some u := fun i o a e1 e2 => by
    obtain ⟨v, ev, r⟩ := m.slot i _ e1
    rw [e2] at ev
    cases o with
    | lst ds =>
      obtain ⟨b, vs, e, q, _⟩ := r
      have : (V.ref a) = V.ref b := by rw [← e]; exact Option.some.inj (Option.some.inj ev)
      cases this
      exact ⟨_, q⟩
  refine ⟨m.ent.trans x, m.len, fun i s e => ?_, fun i o a e1 e2 => ?_, m.apart⟩
  · obtain ⟨v, ev, r⟩ := m.slot i s e
    refine ⟨v, ev, ?_⟩
    cases s with
    | val d => exact Rep.mono x.le _ _ r
    | own o =>
      cases o with
      | lst ds =>
        obtain ⟨a, vs, e1, e2, e3⟩ := r
        subst e1
        obtain ⟨n1, n2, n3⟩ := m.own i _ a e ev
        exact ⟨a, vs, rfl, x.fr a _ e2 n3, RepL.mono x.le _ _ e3⟩
  · obtain ⟨n1, n2, n3⟩ := m.own i o a e1 e2
    obtain ⟨u, hu⟩ := own i o a e1 e2
    refine ⟨n1, x.kf a u hu n3 n2, fun z => ?_⟩
    rcases x.na a z with q | q
    · exact n3 q
    · rw [q] at hu; cases hu
/-- from borrowed to the heap -/
theorem RepB.lst {ds : List D} {v : V} (c : CellM g W st H) (r : RepB g W H (.lst ds) v) : ∃ a vs, v = .ref a ∧ H a = some (.lst vs) ∧ RepL g W ds vs := by
  rcases r with r | ⟨es, a, vs, e1, e2, e3, _, e5⟩
  · obtain ⟨a, vs, e, q, l⟩ := Rep.lst_iff.mp r
    exact ⟨a, vs, e, c.fle _ _ q, l⟩
  · cases e1
    exact ⟨a, vs, e2, e3, e5⟩
theorem RepB.not_lst {d : D} {v : V} (r : RepB g W H d v) (h : ∀ ds, d ≠ .lst ds) : Rep g W d v := by
  rcases r with r | ⟨es, a, vs, e1, _⟩
  · exact r
  · exact absurd e1 (h es)
theorem Rep.sqT {ds : List D} {v : V} (c : CellM g W st H) (r : Rep g W (.tup ds) v) : ∃ a vs, v = .ref a ∧ SqT g.K H a vs ∧ RepL g W ds vs := by
  obtain ⟨a, vs, e, q, l⟩ := Rep.tup_iff.mp r
  exact ⟨a, vs, e, SqT.mono c.fle q, l⟩

/-! ### growing -/
/-- a new object that is frozen at once -/
def Wd.add (W : Wd) (a : Addr) (o : HO) : Wd := ⟨upd W.F a o, W.α⟩
theorem CellM.fnone (c : CellM g W st H) {a : Addr} (h : H a = none) : W.F a = none := by
  cases e : W.F a with
  | none => rfl
  | some o => rw [c.fle a o e] at h; cases h
theorem CellM.anone (c : CellM g W st H) {a : Addr} (h : H a = none) : a ∉ W.α := fun z => by
  obtain ⟨i, hi, e⟩ := List.getElem_of_mem z
  have hl : i < st.length := by rw [← c.len]; exact hi
  obtain ⟨b, e1, r⟩ := c.cell i st[i] (by rw [List.getElem?_eq_getElem hl])
  have eb : b = a := by rw [List.getElem?_eq_getElem hi] at e1; rw [← e]; exact (Option.some.inj e1).symm
  subst eb
  cases q : st[i] with
  | lst ds =>
    rw [q] at r
    obtain ⟨vs, e2, _⟩ := r
    rw [h] at e2; cases e2
  | inst k fs =>
    rw [q] at r
    obtain ⟨dx, fs', e2, _⟩ := r
    rw [h] at e2; cases e2
theorem Wle.add {a : Addr} {o : HO} (h : W.F a = none) : Wle W (W.add a o) :=
  ⟨fun b u e => by show upd W.F a o b = some u; rw [upd_ne (ne_of_none e h)]; exact e, List.prefix_rfl⟩
theorem ext_upd {a : Addr} {o : HO} (h : H a = none) : Ext W H W (upd H a o) :=
  ⟨Wle.refl, fun b u e _ => by rw [upd_ne (ne_of_none e h)]; exact e, fun _ _ _ _ z => z, fun _ z => .inl z⟩
theorem ext_add (c : CellM g W st H) {a : Addr} {o : HO} (h : H a = none) : Ext W H (W.add a o) (upd H a o) :=
  ⟨Wle.add (c.fnone h), fun b u e _ => by rw [upd_ne (ne_of_none e h)]; exact e, fun b u e _ z => by
    show upd W.F a o b = none
    rw [upd_ne (ne_of_none e h)]; exact z, fun _ z => .inl z⟩
theorem CellRep.ext {b : Addr} {k : Cell} (x : Wle W W') (e : H' b = H b) (r : CellRep g W H b k) : CellRep g W' H' b k := by
  cases k with
  | lst ds =>
    obtain ⟨vs, e1, l⟩ := r
    exact ⟨vs, by rw [e]; exact e1, RepL.mono x _ _ l⟩
  | inst c fs =>
    obtain ⟨dx, fs', e1, l⟩ := r
    exact ⟨dx, fs', by rw [e]; exact e1, RepF.mono x l⟩
theorem mem_get {α : Type} {l : List α} {i : Nat} {x : α} (e : l[i]? = some x) : x ∈ l := List.mem_of_getElem? e
theorem CellM.upd (c : CellM g W st H) {a : Addr} {o : HO} (h : H a = none) : CellM g W st (upd H a o) := by
  refine ⟨fun b u e => ?_, c.len, c.nd, c.nf, fun i k e => ?_⟩
  · rw [upd_ne (ne_of_none (c.fle b u e) h)]; exact c.fle b u e
  · obtain ⟨b, e1, r⟩ := c.cell i k e
    refine ⟨b, e1, r.ext Wle.refl (upd_ne fun z => ?_)⟩
    subst z
    exact c.anone h (mem_get e1)
theorem CellM.add (c : CellM g W st H) {a : Addr} {o : HO} (h : H a = none) : CellM g (W.add a o) st (L2.upd H a o) := by
  refine ⟨fun b u e => ?_, c.len, c.nd, fun b hb => ?_, fun i k e => ?_⟩
  · have e : L2.upd W.F a o b = some u := e
    by_cases z : b = a
    · subst z; rw [upd_same] at e; rw [upd_same]; exact e
    · rw [upd_ne z] at e; rw [upd_ne z]; exact c.fle b u e
  · show L2.upd W.F a o b = none
    rw [upd_ne fun z => by subst z; exact c.anone h hb]
    exact c.nf b hb
  · obtain ⟨b, e1, r⟩ := c.cell i k e
    refine ⟨b, e1, r.ext (Wle.add (c.fnone h)) (upd_ne fun z => ?_)⟩
    subst z
    exact c.anone h (mem_get e1)
/-- freezing what no one has -/
theorem ext_frz {H0 : Hp} {a : Addr} {o : HO} (x : Ext W H0 W' H') (n0 : H0 a = none) (hf : W'.F a = none) : Ext W H0 (W'.add a o) H' :=
  ⟨x.le.trans (Wle.add hf), x.fr, fun b u e n z => by
    show upd W'.F a o b = none
    rw [upd_ne (ne_of_none e n0)]; exact x.kf b u e n z, x.na⟩
theorem CellM.frz {a : Addr} {o : HO} (c : CellM g W st H) (e : H a = some o) (hf : W.F a = none) (hn : a ∉ W.α) : CellM g (W.add a o) st H := by
  refine ⟨fun b u q => ?_, c.len, c.nd, fun b hb => ?_, fun i k q => ?_⟩
  · have q : L2.upd W.F a o b = some u := q
    by_cases z : b = a
    · subst z; rw [upd_same] at q; cases q; exact e
    · rw [upd_ne z] at q; exact c.fle b u q
  · show L2.upd W.F a o b = none
    rw [upd_ne fun z => by subst z; exact hn hb]
    exact c.nf b hb
  · obtain ⟨b, e1, r⟩ := c.cell i k q
    exact ⟨b, e1, r.ext (Wle.add hf) rfl⟩
end
end Bp
set_option Elab.async false
set_option linter.all false
set_option maxRecDepth 100000
/-! BpSim: the interpreter's answer as a reading; operations. -/
namespace Bp
open PySem PySem.Spec PyProof.Rows L2

/-! ### the interpreter's answer as a wish -/
section
variable {g : Glob} {Wsh : WX} {α β γ δ : Type}
def Go (g : Glob) (Wsh : WX) (R : Wd → Hp → α → β → Prop) (σ : L2.St) (W : Wd) (H : Hp) (r : Res α) (Q : β → Hp → Prop) : Prop := match r with
  | .ok d st => ∀ v W' H', Ext W H W' H' → CellM g W' st H' → R W' H' d v → Q v H'
  | .exc k d st => ∀ dx v W' H', Ext W H W' H' → CellM g W' st H' → H' dx = some (.xd [(g.xF k, v)]) → Rep g W' d v → Wsh (.ref (g.xA k)) (some dx) σ H'
  | .bad => False
theorem Go.ext {R : Wd → Hp → α → β → Prop} {σ : L2.St} {W W1 : Wd} {H H1 : Hp} {r : Res α} {Q : β → Hp → Prop} (x : Ext W H W1 H1) (h : Go g Wsh R σ W H r Q) : Go g Wsh R σ W1 H1 r Q := by
  cases r with
  | ok d st => exact fun v W' H' y c q => h v W' H' (x.trans y) c q
  | exc k d st => exact fun dx v W' H' y c q z => h dx v W' H' (x.trans y) c q z
  | bad => exact h
theorem Go.bind {R : Wd → Hp → α → β → Prop} {R2 : Wd → Hp → γ → δ → Prop} {σ : L2.St} {W : Wd} {H : Hp} {r : Res α} {k : α → Store → Res γ} {Q : δ → Hp → Prop} {P : β → Hp → Prop} (h : Go g Wsh R2 σ W H (r.bind k) Q)
    (step : ∀ d st v W1 H1, r = .ok d st → Ext W H W1 H1 → CellM g W1 st H1 → R W1 H1 d v → Go g Wsh R2 σ W1 H1 (k d st) Q → P v H1) : Go g Wsh R σ W H r P := by
  cases r with
  | ok d st => exact fun v W' H' x c q => step d st v W' H' rfl x c q (Go.ext x h)
  | exc c d st => exact h
  | bad => exact h
theorem Go.of {R : Wd → Hp → α → β → Prop} {σ : L2.St} {W : Wd} {H : Hp} {o : Option α} {st : Store} {Q : β → Hp → Prop} (h : Go g Wsh R σ W H (Res.of o st) Q) :
    ∃ d, o = some d ∧ ∀ v W' H', Ext W H W' H' → CellM g W' st H' → R W' H' d v → Q v H' := by
  cases o with
  | none => exact h.elim
  | some d => exact ⟨d, rfl, h⟩
end

/-- what a value is, by the mode -/
def RepM (g : Glob) : Mode → Wd → Hp → D → V → Prop
  | .frz, W, _, d, v => Rep g W d v
  | .brw, W, H, d, v => RepB g W H d v
  | .tst, _, _, d, v => ∃ b, d = .bl b ∧ v = .bl b
def tsim (g : Glob) (en : Ent) (Wsh : WX) (cf : Cf) (m : Mode) (c : E) : TE := fun σ H Q => ∃ W env st, EnvM g en W env σ H ∧ CellM g W st H ∧ Go g Wsh (RepM g m) σ W H (evE cf c m env st) Q
def tsimT (g : Glob) (en : Ent) (Wsh : WX) (cf : Cf) (c : E) : TT := fun σ H Q => ∃ W env st, EnvM g en W env σ H ∧ CellM g W st H ∧ Go g Wsh (fun _ _ d b => d = .bl b) σ W H (evE cf c .tst env st) Q
/-- a list that no one has yet -/
def tsimN (g : Glob) (en : Ent) (Wsh : WX) (cf : Cf) (c : E) : TE := fun σ H Q => ∃ W env st, EnvM g en W env σ H ∧ CellM g W st H ∧ Go g Wsh (RepN g H) σ W H (evE cf c .frz env st) Q
def tsims (g : Glob) (en : Ent) (Wsh : WX) (cf : Cf) (cs : List E) : TA := fun σ H Q => ∃ W env st, EnvM g en W env σ H ∧ CellM g W st H ∧ Go g Wsh (fun W _ ds vs => RepL g W ds vs) σ W H (evEs cf cs env st) Q

theorem PE.imp {X : Cx} {e : Expr} {t t' : TE} (h : PE X e t) (i : ∀ σ H Q, t' σ H Q → t σ H Q) : PE X e t' := ⟨fun pins s σ H Q I q => h.run pins s σ H Q I (i σ H Q q)⟩
theorem PT.imp {X : Cx} {e : Expr} {t t' : TT} (h : PT X e t) (i : ∀ σ H Q, t' σ H Q → t σ H Q) : PT X e t' := ⟨fun pins s σ H Q I q => h.run pins s σ H Q I (i σ H Q q)⟩
theorem PW.imp {X : Cx} {e : Expr} {t t' : TT} (h : PW X e t) (i : ∀ σ H Q, t' σ H Q → t σ H Q) : PW X e t' := ⟨fun wh pins s σ H Q I q => h.run wh pins s σ H Q I (i σ H Q q)⟩
theorem PA.imp {X : Cx} {e : List Expr} {t t' : TA} (h : PA X e t) (i : ∀ σ H Q, t' σ H Q → t σ H Q) : PA X e t' := ⟨fun p pins s σ H Q I q => h.run p pins s σ H Q I (i σ H Q q)⟩
theorem PS.imp {X : Cx} {e : Stmt} {t t' : TS} (h : PS X e t) (i : ∀ D σ H, t' D σ H → t D σ H) : PS X e t' := ⟨fun pins s σ H D I q => h.run pins s σ H D I (i D σ H q)⟩
theorem PSs.imp {X : Cx} {e : List Stmt} {t t' : TS} (h : PSs X e t) (i : ∀ D σ H, t' D σ H → t D σ H) : PSs X e t' := ⟨fun pins s σ H D I q => h.run pins s σ H D I (i D σ H q)⟩

/-- what holds of the code's context: its names, its scope, room for k calls, what is wished of errors -/
structure Ctx (g : Glob) (X : Cx) (N : List Str) (sc : Scope) (k : Nat) (Wsh : WX) : Prop where
  hP : X.prog = g.P
  hw : X.w = g.w
  hK : X.K = g.K
  hmg : X.mg = g.mg
  hbase : X.base = g.base
  hcalm : X.calm = true
  hN : X.N = N
  hnd : N.Nodup
  hsc : X.env.scope = sc
  hroom : Room k X.A
  htk : Takes X Wsh

theorem fin_frz (r : Res D) : fin .frz r = r := rfl
theorem fin_brw (r : Res D) : fin .brw r = r := rfl
theorem fin_tst (r : Res D) : fin .tst r = r.bind fun d st => Res.of ((truD d).map .bl) st := rfl
def Mode.val : Mode → Bool
  | .tst => false
  | _ => true
theorem fin_val {m : Mode} (h : m.val = true) (r : Res D) : fin m r = r := by
  cases m <;> first | rfl | cases h
theorem RepM.of {g : Glob} {m : Mode} {W : Wd} {H : Hp} {d : D} {v : V} (h : m.val = true) (r : Rep g W d v) : RepM g m W H d v := by
  cases m with
  | frz => exact r
  | brw => exact .inl r
  | tst => cases h
theorem RepM.brw {g : Glob} {m : Mode} {W : Wd} {H : Hp} {d : D} {v : V} (h : m.val = true) (r : RepM g m W H d v) : RepB g W H d v := by
  cases m with
  | frz => exact .inl r
  | brw => exact r
  | tst => cases h

section
variable {g : Glob} {X : Cx} {N : List Str} {sc : Scope} {k : Nat} {Wsh : WX} {en : Ent} {cf : Cf}

/-! ### names and constants -/
theorem sim_var {i : Nat} {x : Str} {pos : Pos} {m : Mode} (hm : m.val = true) (c : Ctx g X N sc k Wsh) (hN : N[i]? = some x) (hv : Vis sc x) (hd : (x == ("__debug__" : Str)) = false) (hcd : (x == ("__classdict__" : Str)) = false) :
    PE X (.Name x pos) (tsim g en Wsh cf m (.var i)) := by
  refine PE.imp (pe_var (i := i) (by rw [c.hN]; exact hN) (by rw [c.hsc]; exact hv) hd hcd) ?_
  rintro σ H Q ⟨W, env, st, M, C, h⟩
  rw [evE, fin_val hm] at h
  unfold varR at h
  cases e : env[i]? with
  | none => rw [e] at h; exact h.elim
  | some s =>
    rw [e] at h
    cases s with
    | none => exact h.elim
    | some s =>
      cases s with
      | own o => exact h.elim
      | val d =>
        obtain ⟨v, ev, r⟩ := M.slot i _ e
        exact ⟨v, ev, h v W H .refl C (RepM.of hm r)⟩
theorem sim_peek {i : Nat} {x : Str} {pos : Pos} (c : Ctx g X N sc k Wsh) (hN : N[i]? = some x) (hv : Vis sc x) (hd : (x == ("__debug__" : Str)) = false) (hcd : (x == ("__classdict__" : Str)) = false) :
    PE X (.Name x pos) (tsim g en Wsh cf .brw (.peek i)) := by
  refine PE.imp (pe_var (i := i) (by rw [c.hN]; exact hN) (by rw [c.hsc]; exact hv) hd hcd) ?_
  rintro σ H Q ⟨W, env, st, M, C, h⟩
  rw [evE, fin_brw] at h
  unfold peekR at h
  dsimp only at h
  cases e : env[i]? with
  | none => rw [e] at h; exact h.elim
  | some s =>
    rw [e] at h
    cases s with
    | none => exact h.elim
    | some s =>
      cases s with
      | val d => exact h.elim
      | own o =>
        cases o with
        | lst ds =>
          obtain ⟨v, ev, r⟩ := M.slot i _ e
          obtain ⟨a, vs, e1, e2, e3⟩ := id r
          subst e1
          obtain ⟨n1, n2, n3⟩ := M.own i _ a e ev
          exact ⟨_, ev, h _ W H .refl C (.inr ⟨ds, a, vs, rfl, rfl, e2, n3, e3⟩)⟩
theorem sim_int {i : Int} {j : Nat} {pos : Pos} {m : Mode} (hm : m.val = true) : PE X (.Constant (.int i) j pos) (tsim g en Wsh cf m (.cst (.int i))) := by
  refine PE.imp pe_int ?_
  rintro σ H Q ⟨W, env, st, M, C, h⟩
  rw [evE, fin_val hm] at h
  exact h _ W H .refl C (RepM.of hm (Rep.int_iff.mpr rfl))
theorem sim_bl {b : Bool} {j : Nat} {pos : Pos} {m : Mode} (hm : m.val = true) : PE X (.Constant (.bool b) j pos) (tsim g en Wsh cf m (.cst (.bl b))) := by
  refine PE.imp pe_bl ?_
  rintro σ H Q ⟨W, env, st, M, C, h⟩
  rw [evE, fin_val hm] at h
  exact h _ W H .refl C (RepM.of hm (Rep.bl_iff.mpr rfl))
theorem sim_non {j : Nat} {pos : Pos} {m : Mode} (hm : m.val = true) : PE X (.Constant .none j pos) (tsim g en Wsh cf m (.cst .non)) := by
  refine PE.imp pe_non ?_
  rintro σ H Q ⟨W, env, st, M, C, h⟩
  rw [evE, fin_val hm] at h
  exact h _ W H .refl C (RepM.of hm (Rep.non_iff.mpr rfl))
theorem sim_str {x : Str} {j : Nat} {pos : Pos} {m : Mode} (hm : m.val = true) : PE X (.Constant (.str x) j pos) (tsim g en Wsh cf m (.cst (.str x))) := by
  refine PE.imp pe_str ?_
  rintro σ H Q ⟨W, env, st, M, C, h⟩
  rw [evE, fin_val hm] at h
  exact h _ W H .refl C (RepM.of hm (Rep.str_iff.mpr rfl))
/-- a module's constant -/
def ConOk (g : Glob) (x : Str) (d : D) : Prop := ∃ u v, g.mg x = some u ∧ RelV v u ∧ ∀ W, Rep g W d v
theorem sim_glo {x : Str} {d : D} {j : Nat} {pos : Pos} {m : Mode} (hm : m.val = true) (c : Ctx g X N sc k Wsh) (hg : sc.names.lookup x = some .globalImplicit) (hd : (x == ("__debug__" : Str)) = false) (hc : cf.con j = some d) (ok : ConOk g x d) :
    PE X (.Name x pos) (tsim g en Wsh cf m (.glo j)) := by
  obtain ⟨u, v, e, r, q⟩ := ok
  refine PE.imp (pe_glob (by show X.env.scope.names.lookup x = _; rw [c.hsc]; exact hg) (by rw [c.hmg]; exact e) r hd) ?_
  rintro σ H Q ⟨W, env, st, M, C, h⟩
  rw [evE, fin_val hm, hc] at h
  exact h v W H .refl C (RepM.of hm (q W))

/-! ### arguments, displays -/
theorem sims_nil : PA X [] (tsims g en Wsh cf []) := by
  refine PA.imp pa_nil ?_
  rintro σ H Q ⟨W, env, st, M, C, h⟩
  rw [evEs] at h
  exact h [] W H .refl C RepL.nil
theorem sims_cons {e : Expr} {es : List Expr} {c : E} {cs : List E} (h1 : PE X e (tsim g en Wsh cf .frz c)) (h2 : PA X es (tsims g en Wsh cf cs))
    (hs : starEach (e :: es) X.env = (false, eval e X.env) :: starEach es X.env) : PA X (e :: es) (tsims g en Wsh cf (c :: cs)) := by
  refine PA.imp (pa_cons h1 h2 hs) ?_
  rintro σ H Q ⟨W, env, st, M, C, h⟩
  rw [evEs] at h
  refine ⟨W, env, st, M, C, Go.bind h ?_⟩
  intro d st1 v W1 H1 _ x1 C1 r1 h1
  refine ⟨W1, env, st1, M.ext x1, C1, Go.bind h1 ?_⟩
  intro ds st2 vs W2 H2 _ x2 C2 r2 h2
  exact h2 (v :: vs) W2 H2 .refl C2 (RepL.cons (Rep.mono x2.le _ _ r1) r2)
theorem fits_line {n : Nat} (h : fits n = true) : n ≤ sizeLine := by
  rw [sizeLine_eq]; exact of_decide_eq_true h
theorem sim_tup {es : List Expr} {cs : List E} {j : Nat} {pos : Pos} {m : Mode} (hm : m.val = true) (h : PA X es (tsims g en Wsh cf cs)) : PE X (.Tuple es j pos) (tsim g en Wsh cf m (.tup cs)) := by
  refine PE.imp (pe_tup h) ?_
  rintro σ H Q ⟨W, env, st, M, C, h⟩
  rw [evE, fin_val hm] at h
  refine ⟨W, env, st, M, C, Go.bind h ?_⟩
  intro ds st1 vs W1 H1 _ x1 C1 r1 h1
  have hl := RepL.len r1
  by_cases hf : fits ds.length = true
  · rw [if_pos hf] at h1
    refine ⟨by rw [← hl]; exact fits_line hf, fun p hp => ?_⟩
    refine h1 _ (W1.add p (.tup vs)) _ (ext_add C1 hp) (C1.add hp) (RepM.of hm (Rep.tup_iff.mpr ⟨p, vs, rfl, SqT.of upd_same, RepL.mono (Wle.add (C1.fnone hp)) _ _ r1⟩))
  · rw [if_neg hf] at h1; exact h1.elim
theorem simN_lst {es : List Expr} {cs : List E} {pos : Pos} (h : PA X es (tsims g en Wsh cf cs)) : PE X (.List es pos) (tsimN g en Wsh cf (.lst cs)) := by
  refine PE.imp (pe_lst h) ?_
  rintro σ H Q ⟨W, env, st, M, C, h⟩
  rw [evE, fin_frz] at h
  refine ⟨W, env, st, M, C, Go.bind h ?_⟩
  intro ds st1 vs W1 H1 _ x1 C1 r1 h1
  have hl := RepL.len r1
  by_cases hf : fits ds.length = true
  · rw [if_pos hf] at h1
    refine ⟨by rw [← hl]; exact fits_line hf, fun p hp => ?_⟩
    refine h1 _ W1 _ (ext_upd hp) (C1.upd hp) ⟨ds, p, vs, rfl, rfl, ?_, upd_same, C1.fnone hp, C1.anone hp, r1⟩
    cases e : H p with
    | none => rfl
    | some o =>
      by_cases z : p ∈ W.α
      · exact absurd (x1.le.a.subset z) (C1.anone hp)
      · rw [x1.fr p o e z] at hp; cases hp
  · rw [if_neg hf] at h1; exact h1.elim
/-- a new list is frozen -/
theorem sim_ofN {e : Expr} {c : E} {m : Mode} (hm : m.val = true) (hv : ∀ env st, evE cf c m env st = evE cf c .frz env st) (h : PE X e (tsimN g en Wsh cf c)) : PE X e (tsim g en Wsh cf m c) := by
  refine PE.imp h ?_
  rintro σ H Q ⟨W, env, st, M, C, h⟩
  rw [hv] at h
  refine ⟨W, env, st, M, C, ?_⟩
  cases q : evE cf c .frz env st with
  | ok d st1 =>
    rw [q] at h
    intro v W1 H1 x1 C1 r1
    obtain ⟨ds, a, vs, e1, e2, n0, ha, hf, hn, r⟩ := r1
    subst e1 e2
    exact h _ (W1.add a (.lst vs)) H1 (ext_frz x1 n0 hf) (C1.frz ha hf hn) (RepM.of hm (Rep.lst_iff.mpr ⟨a, vs, rfl, upd_same, RepL.mono (Wle.add hf) _ _ r⟩))
  | exc k d st1 => rw [q] at h; exact h
  | bad => rw [q] at h; exact h
end
end Bp
set_option Elab.async false
set_option linter.all false
set_option maxRecDepth 100000
/-! BpOps: operators, comparisons, built-ins by values. -/
namespace Bp
open PySem PySem.Spec PyProof.Rows L2

/-- what is asked of the end of an operation on values -/
def Fin (g : Glob) (W : Wd) (st : Store) (H : Hp) (d : D) (Q : VK) : Prop := ∀ v W' H', Ext W H W' H' → CellM g W' st H' → Rep g W' d v → Q v H'
section
variable {g : Glob} {W : Wd} {st : Store} {H : Hp} {Q : VK}
theorem Fin.here {d : D} {v : V} (C : CellM g W st H) (k : Fin g W st H d Q) (r : Rep g W d v) : Q v H := k v W H .refl C r
theorem Fin.tup {ds : List D} {vs : List V} (C : CellM g W st H) (k : Fin g W st H (.tup ds) Q) (r : RepL g W ds vs) (p : Addr) (hp : H p = none) : Q (.ref p) (upd H p (.tup vs)) :=
  k _ (W.add p (.tup vs)) _ (ext_add C hp) (C.add hp) (Rep.tup_iff.mpr ⟨p, vs, rfl, SqT.of upd_same, RepL.mono (Wle.add (C.fnone hp)) _ _ r⟩)
theorem Fin.lst {ds : List D} {vs : List V} (C : CellM g W st H) (k : Fin g W st H (.lst ds) Q) (r : RepL g W ds vs) (p : Addr) (hp : H p = none) : Q (.ref p) (upd H p (.lst vs)) :=
  k _ (W.add p (.lst vs)) _ (ext_add C hp) (C.add hp) (Rep.lst_iff.mpr ⟨p, vs, rfl, upd_same, RepL.mono (Wle.add (C.fnone hp)) _ _ r⟩)
theorem RepB.int {i : Int} {v : V} (r : RepB g W H (.int i) v) : v = .int i := Rep.int_iff.mp (r.not_lst fun _ => by simp)
theorem RepB.bl {i : Bool} {v : V} (r : RepB g W H (.bl i) v) : v = .bl i := Rep.bl_iff.mp (r.not_lst fun _ => by simp)
theorem RepB.str {i : Str} {v : V} (r : RepB g W H (.str i) v) : v = .str i := Rep.str_iff.mp (r.not_lst fun _ => by simp)
theorem RepB.non {v : V} (r : RepB g W H .non v) : v = .non := Rep.non_iff.mp (r.not_lst fun _ => by simp)
theorem RepB.tup {ds : List D} {v : V} (C : CellM g W st H) (r : RepB g W H (.tup ds) v) : ∃ a vs, v = .ref a ∧ SqT g.K H a vs ∧ RepL g W ds vs := (r.not_lst fun _ => by simp).sqT C
end

/-- two values in, one out -/
def OpD (g : Glob) (X : Cx) (f : Value → Value → Sem Value) (o : D → D → Option D) : Prop :=
  OpR X f fun x y H Q => ∃ W st dx dy d, CellM g W st H ∧ RepB g W H dx x ∧ RepB g W H dy y ∧ o dx dy = some d ∧ Fin g W st H d Q

section
variable {g : Glob} {X : Cx}
theorem ints_of {o : D → D → Option D} {f : Value → Value → Sem Value} {r : R2} (hr : OpR X f r)
    (h : ∀ W st dx dy d x y H Q, CellM g W st H → RepB g W H dx x → RepB g W H dy y → o dx dy = some d → Fin g W st H d Q → r x y H Q) : OpD g X f o := by
  intro pins s σ H x y v u Q I rx ry ⟨W, st, dx, dy, d, C, r1, r2, e, k⟩
  exact hr pins s σ H x y v u Q I rx ry (h W st dx dy d x y H Q C r1 r2 e k)
theorem od_add (hK : X.K = g.K) : OpD g X (binaryOp .Add) (opD .add) := by
  refine ints_of (op_add.or (op_add_str.or (op_catA.or op_cat))) ?_
  intro W st dx dy d x y H Q C r1 r2 e k
  cases dx <;> (try (simp [opD] at e; done)) <;> cases dy <;> (try (simp [opD] at e; done))
  · rename_i i j
    simp only [opD, Option.some.injEq] at e
    subst e
    exact .inl ⟨i, j, r1.int, r2.int, k.here C (Rep.int_iff.mpr rfl)⟩
  · rename_i a b
    simp only [opD] at e
    split at e
    · cases e
      rename_i hf
      exact .inr (.inl ⟨a, b, r1.str, r2.str, fits_line hf, k.here C (Rep.str_iff.mpr rfl)⟩)
    · cases e
  · rename_i a b
    simp only [opD] at e
    split at e
    · cases e
      rename_i hf
      obtain ⟨p, vs, e1, q1, l1⟩ := r1.tup C
      obtain ⟨p2, vs2, e2, q2, l2⟩ := r2.tup C
      refine .inr (.inr (.inl ⟨p, p2, vs, vs2, e1, e2, by rw [hK]; exact q1, by rw [hK]; exact q2, ?_, ?_, ?_, ?_⟩))
      · rw [← l1.len, ← l2.len]; exact fits_line hf
      · intro z
        subst z
        have : a = [] := List.length_eq_zero_iff.mp l1.len
        subst this
        rw [← e2]
        exact k.here C (r2.not_lst fun _ => by simp)
      · intro _ z
        subst z
        have : b = [] := List.length_eq_zero_iff.mp l2.len
        subst this
        rw [← e1]
        refine k.here C ?_
        rw [List.append_nil]
        exact (r1.not_lst fun _ => by simp)
      · intro _ _ q hq
        exact k.tup C (l1.app l2) q hq
    · cases e
  · rename_i a b
    simp only [opD] at e
    split at e
    · cases e
      rename_i hf
      obtain ⟨p, vs, e1, q1, l1⟩ := r1.lst C
      obtain ⟨p2, vs2, e2, q2, l2⟩ := r2.lst C
      refine .inr (.inr (.inr ⟨p, p2, vs, vs2, e1, e2, q1, q2, ?_, fun q hq => ?_⟩))
      · rw [← l1.len, ← l2.len]; exact fits_line hf
      · exact k.lst C (l1.app l2) q hq
    · cases e
theorem od_sub : OpD g X (binaryOp .Sub) (opD .sub) := by
  refine ints_of op_sub ?_
  intro W st dx dy d x y H Q C r1 r2 e k
  cases dx <;> (try (simp [opD] at e; done)) <;> cases dy <;> (try (simp [opD] at e; done))
  rename_i i j
  simp only [opD, Option.some.injEq] at e
  subst e
  exact ⟨i, j, r1.int, r2.int, k.here C (Rep.int_iff.mpr rfl)⟩
theorem od_mod : OpD g X (binaryOp .Mod) (opD .mod) := by
  refine ints_of op_modN ?_
  intro W st dx dy d x y H Q C r1 r2 e k
  cases dx <;> (try (simp [opD] at e; done)) <;> cases dy <;> (try (simp [opD] at e; done))
  rename_i i j
  simp only [opD] at e
  split at e
  · cases e
  · rename_i hj
    cases e
    exact ⟨i, j, r1.int, r2.int, hj, k.here C (Rep.int_iff.mpr rfl)⟩
theorem od_fdiv : OpD g X (binaryOp .FloorDiv) (opD .fdiv) := by
  refine ints_of op_fdivN ?_
  intro W st dx dy d x y H Q C r1 r2 e k
  cases dx <;> (try (simp [opD] at e; done)) <;> cases dy <;> (try (simp [opD] at e; done))
  rename_i i j
  simp only [opD] at e
  split at e
  · cases e
  · rename_i hj
    cases e
    exact ⟨i, j, r1.int, r2.int, ⟨fun z => hj (.inl z), by omega⟩, k.here C (Rep.int_iff.mpr rfl)⟩
theorem od_pow : OpD g X (binaryOp .Pow) (opD .pow) := by
  refine ints_of op_pow ?_
  intro W st dx dy d x y H Q C r1 r2 e k
  cases dx <;> (try (simp [opD] at e; done)) <;> cases dy <;> (try (simp [opD] at e; done))
  rename_i i j
  simp only [opD] at e
  split at e
  · rename_i hj
    cases e
    exact ⟨i, j, r1.int, r2.int, hj, k.here C (Rep.int_iff.mpr rfl)⟩
  · cases e
end
end Bp
namespace L2
open PySem PySem.Spec PyProof.Rows
theorem tuple_mul1 (l : Addr) (items : Array Value) (n : Nat) (dd : Option Addr) (sl : Array (Option Value)) (x : Int) (u : Tok) (c0 : (decide (x < -(2 ^ 63)) || decide (x ≥ 2 ^ 63)) = false) (c1 : (items.isEmpty || x == 1) = true) :
    Meets (Builtin.«tuple.__mul__» ⟨[.ref l, .int x u], []⟩) (fun _ R s => s.heap.get? l = some { cls := .type "tuple", dict := dd, data := .seq items n, slots := sl } ∧
      R (.ok (.ret (Value.ref l))) s) :=
  .of_wp fun prog w A R s h => by
    obtain ⟨hp, g, d, tk, os⟩ := s
    obtain ⟨hl, h⟩ := h
    have f1 := AutoSeq1.idx_int
    wp_walk using wpAny_loadPart' hl
    repeat (first
      | (refine wpAny_ite_false (decide_eq_false (by rw [c0]; exact Bool.false_ne_true)) ?_; wp_walk using wpAny_loadPart' hl)
      | (refine wpAny_ite_true (decide_eq_true c1) ?_; wp_walk using wpAny_loadPart' hl))
    exact ⟨_, rfl, h⟩
theorem tuple_mul0 (l : Addr) (items : Array Value) (n : Nat) (dd : Option Addr) (sl : Array (Option Value)) (x : Int) (u : Tok) (c0 : (decide (x < -(2 ^ 63)) || decide (x ≥ 2 ^ 63)) = false) (c1 : (items.isEmpty || x == 1) = false) (c2 : (decide (x ≤ 0) || items.isEmpty) = true) :
    Meets (Builtin.«tuple.__mul__» ⟨[.ref l, .int x u], []⟩) (fun _ R s => s.heap.get? l = some { cls := .type "tuple", dict := dd, data := .seq items n, slots := sl } ∧
      R (.ok (.ret (Value.ref s.heap.objs.size))) { s with heap := s.heap.push { cls := Value.type "tuple", data := Data.seq #[] }, toks := s.toks }) :=
  .of_wp fun prog w A R s h => by
    obtain ⟨hp, g, d, tk, os⟩ := s
    obtain ⟨hl, h⟩ := h
    have f1 := AutoSeq1.idx_int
    wp_walk using wpAny_loadPart' hl
    repeat (first
      | (refine wpAny_ite_false (decide_eq_false (by rw [c0]; exact Bool.false_ne_true)) ?_; wp_walk using wpAny_loadPart' hl)
      | (refine wpAny_ite_false (decide_eq_false (by rw [c1]; exact Bool.false_ne_true)) ?_; wp_walk using wpAny_loadPart' hl)
      | (refine wpAny_ite_true (decide_eq_true c2) ?_; wp_walk using wpAny_loadPart' hl)
      | (refine wpAny_ite_false (decide_eq_false (by decide)) ?_; wp_walk using wpAny_loadPart' hl))
    exact ⟨_, rfl, h⟩
def rRepA (K : PySem.W.Frag) : R2 := fun x y H Q => ∃ l k xs, x = .ref l ∧ y = .int k ∧ SqT K H l xs ∧ xs ≠ [] ∧ -1000 ≤ k ∧ k ≤ 1000 ∧ xs.length ≤ 1000 ∧ (k = 1 → Q (.ref l) H) ∧ ∀ p, H p = none → Q (.ref p) (upd H p (.tup (List.replicate k.toNat xs).flatten))
theorem op_repA {X : Cx} : OpR X (binaryOp .Mult) (rRepA X.K) := by
  intro pins s σ H x y v u Q I rx ry h
  obtain ⟨l, k, xs, rfl, rfl, hT, hne, h1, h2, hz, q1, q⟩ := h
  by_cases k2 : 2 ≤ k
  · exact op_repT pins s σ H _ _ v u Q I rx ry ⟨l, k, xs, rfl, rfl, hT, hne, k2, h2, hz, q⟩
  cases rx
  obtain ⟨t, rfl⟩ := ry
  obtain ⟨its, r, ⟨⟨cls, dd, data, sl⟩, ho, hc, n, hd⟩, hs⟩ := I.tuple hT
  simp only at hc hd
  subst hc hd
  have hle : its.length = xs.length := r.length.symm
  have hn : its ≠ [] := fun e => hne (by
    rw [e] at hle
    exact List.eq_nil_of_length_eq_zero hle.symm)
  have hi : its.toArray.isEmpty = false := by
    cases its with
    | nil => exact absurd rfl hn
    | cons a b => rfl
  have c0 : (decide (k < -(2 ^ 63)) || decide (k ≥ 2 ^ 63)) = false := by
    rw [decide_eq_false (by omega), decide_eq_false (by omega)] <;> rfl
  by_cases e1 : k = 1
  · have c1 : (its.toArray.isEmpty || k == 1) = true := by rw [e1]; simp
    exact wpAny_binaryOp_repeat_ref (T := "tuple") (U := "int") (by decide) ⟨_, ho, rfl⟩ (fun s' => typeIs_int s' k t) noFill_tuple_mul F.fills_int_mul F.slot_int_rmul repeat_tuple F.slot_int_index.lookup
      (call_meets F.slot_int_rmul (typeIs_int s k t) F.entry_int_rmul (F.args_int_rmul_2 _ _) (int_rmul_tuple k t l its.toArray n dd sl)
        ⟨ho, rfl, ⟨_, ho, rfl⟩, call_meets F.slot_tuple_mul ⟨_, ho, rfl⟩ F.entry_tuple_mul (F.args_tuple_mul_2 _ _) (tuple_mul1 l its.toArray n dd sl k t c0 c1) ⟨ho, ⟨.ref l, H, I, rfl, q1 e1⟩⟩⟩)
  · have c1 : (its.toArray.isEmpty || k == 1) = false := by
      rw [hi, Bool.false_or]
      exact beq_eq_false_iff_ne.mpr e1
    have c2 : (decide (k ≤ 0) || its.toArray.isEmpty) = true := by rw [decide_eq_true (by omega)]; rfl
    refine wpAny_binaryOp_repeat_ref (T := "tuple") (U := "int") (by decide) ⟨_, ho, rfl⟩ (fun s' => typeIs_int s' k t) noFill_tuple_mul F.fills_int_mul F.slot_int_rmul repeat_tuple F.slot_int_index.lookup
      (call_meets F.slot_int_rmul (typeIs_int s k t) F.entry_int_rmul (F.args_int_rmul_2 _ _) (int_rmul_tuple k t l its.toArray n dd sl)
        ⟨ho, rfl, ⟨_, ho, rfl⟩, call_meets F.slot_tuple_mul ⟨_, ho, rfl⟩ F.entry_tuple_mul (F.args_tuple_mul_2 _ _) (tuple_mul0 l its.toArray n dd sl k t c0 c1 c2) ⟨ho, ?_⟩⟩)
    have q' := q s.heap.objs.size (I.hok.fresh (Nat.le_refl _))
    rw [show k.toNat = 0 by omega] at q'
    refine ⟨.ref _, _, I.laid (t' := s.toks) (o := .tup []) (fun b ob e => Heap.get?_push_of_some _ e) (Nat.le_refl _) ?_, rfl, q'⟩
    exact ⟨Nat.zero_le _, _, .nil, IsTup.new _ _⟩
end L2
namespace Bp
open PySem PySem.Spec PyProof.Rows L2
section
variable {g : Glob} {X : Cx}
theorem od_mul (hK : X.K = g.K) : OpD g X (binaryOp .Mult) (opD .mul) := by
  intro pins s σ H x y v u Q I rx ry ⟨W, st, dx, dy, d, C, r1, r2, e, k⟩
  cases dx <;> (try (simp [opD] at e; done)) <;> cases dy <;> (try (simp [opD] at e; done))
  · rename_i i j
    simp only [opD] at e
    split at e
    · rename_i hb
      cases e
      refine op_mul pins s σ H x y v u Q I rx ry ⟨i, j, r1.int, r2.int, ?_, k.here C (Rep.int_iff.mpr rfl)⟩
      rcases Bool.or_eq_true_iff.mp hb with q | q
      · exact .inl (of_decide_eq_true q)
      · exact .inr (of_decide_eq_true q)
    · cases e
  · rename_i a j
    simp only [opD] at e
    split at e
    · rename_i hb
      cases e
      obtain ⟨b1, b2, b3, b4⟩ := of_decide_eq_true hb
      obtain ⟨p, vs, e1, q1, l1⟩ := r1.tup C
      have r1' := r1.not_lst fun _ => by simp
      have ej := r2.int
      subst ej
      refine op_repA pins s σ H x _ v u Q I rx ry ⟨p, j, vs, e1, rfl, by rw [hK]; exact q1, ?_, b1, b2, by rw [← l1.len]; exact b3, fun ej => ?_, fun q hq => ?_⟩
      · intro z
        subst z
        rw [List.length_eq_zero_iff.mp l1.len] at b4
        cases b4
      · subst ej
        have er : Bp.rep (1 : Int).toNat a = a := by simp [Bp.rep]
        rw [er] at k
        have := k.here C r1'
        rw [e1] at this
        exact this
      · exact k.tup C (RepL.rep j.toNat l1) q hq
    · cases e

/-! ### data -/
mutual
theorem Rep.dp {W : Wd} {H : Hp} (f : Hle W.F H) : ∀ (d : D) (n : Nat) (v : V), D.dat n d = true → Rep g W d v → Dp g.K H v d.py
  | .non, n, v, h, r => by rw [Rep.non_iff.mp r]; exact .non
  | .bl b, n, v, h, r => by rw [Rep.bl_iff.mp r]; exact .bl b
  | .int i, n, v, h, r => by rw [Rep.int_iff.mp r]; exact .int i
  | .str x, n, v, h, r => by rw [Rep.str_iff.mp r]; exact .str x
  | .tup ds, n, v, h, r => by
    cases n with
    | zero => simp [D.dat] at h
    | succ n =>
      simp only [D.dat] at h
      obtain ⟨a, vs, e, q, l⟩ := Rep.tup_iff.mp r
      rw [e]
      exact .tup (SqT.mono f q) (Rep.dpL f ds n vs h l)
  | .lst ds, n, v, h, r => by
    cases n with
    | zero => simp [D.dat] at h
    | succ n =>
      simp only [D.dat] at h
      obtain ⟨a, vs, e, q, l⟩ := Rep.lst_iff.mp r
      rw [e]
      exact .lst (SqL.of (f _ _ q)) (Rep.dpL f ds n vs h l)
  | .dct _ _, n, v, h, r => by simp [D.dat] at h
  | .obj _ _, n, v, h, r => by simp [D.dat] at h
  | .ref _, n, v, h, r => by simp [D.dat] at h
  | .scr _, n, v, h, r => by simp [D.dat] at h
theorem Rep.dpL {W : Wd} {H : Hp} (f : Hle W.F H) : ∀ (ds : List D) (n : Nat) (vs : List V), D.datL n ds = true → RepL g W ds vs → DpAll g.K H vs (D.pyL ds)
  | [], n, vs, h, r => by rw [RepL.nil_iff.mp r]; exact .nil
  | d :: ds, n, vs, h, r => by
    simp only [D.datL, Bool.and_eq_true] at h
    obtain ⟨v, vs', e, q, l⟩ := RepL.cons_iff.mp r
    rw [e]
    simp only [D.pyL]
    exact .cons (Rep.dp f d n v h.1 q) (Rep.dpL f ds n vs' h.2 l)
end
theorem RepB.dp {W : Wd} {st : Store} {H : Hp} {d : D} {n : Nat} {v : V} (C : CellM g W st H) (h : D.dat n d = true) (r : RepB g W H d v) : Dp g.K H v d.py := by
  rcases r with r | ⟨ds, a, vs, e1, e2, e3, _, l⟩
  · exact Rep.dp C.fle d n v h r
  · subst e1 e2
    cases n with
    | zero => simp [D.dat] at h
    | succ n =>
      simp only [D.dat] at h
      exact .lst (SqL.of e3) (Rep.dpL C.fle ds n vs h l)
theorem RepB.reads {W : Wd} {st : Store} {H : Hp} {d : D} {n : Nat} {v : V} {u : Value} {pins : List (Addr × PySem.Obj)} {s : Shared} {σ : L2.St} (hK : X.K = g.K) (C : CellM g W st H) (I : Inv X pins σ H s) (h : D.dat n d = true) (r : RepB g W H d v) (rv : RelV v u) : ∃ as, Reads s.heap u d.py as :=
  Dp.reads I d.py v u (by rw [hK]; exact r.dp C h) rv

/-! ### comparisons -/
def CmR (g : Glob) (X : Cx) (f : Value → Value → Sem Value) (o : D → D → Option Bool) : Prop :=
  OpR X f fun x y H Q => ∃ W st dx dy b, CellM g W st H ∧ RepB g W H dx x ∧ RepB g W H dy y ∧ o dx dy = some b ∧ Q (.bl b) H
theorem depth_room {k : Nat} {a b : PyData} (h : Room k X.A) (ha : a.depth ≤ 40) : X.A.units + min a.depth b.depth < cLine := by
  have := h.units
  have : min a.depth b.depth ≤ a.depth := Nat.min_le_left _ _
  omega
theorem cr_eq {k : Nat} (hK : X.K = g.K) (hr : Room k X.A) : CmR g X (compareOp .Eq) (cmD .eq) := by
  intro pins s σ H x y v u Q I rx ry ⟨W, st, dx, dy, b, C, r1, r2, e, q⟩
  simp only [cmD] at e
  split at e
  · rename_i h
    cases e
    obtain ⟨h1, h2⟩ := Bool.and_eq_true_iff.mp h
    obtain ⟨as, ra⟩ := r1.reads hK C I h1 rx
    obtain ⟨bs, rb⟩ := r2.reads hK C I h2 ry
    obtain ⟨p1, d1⟩ := dat_plain dx 40 h1
    obtain ⟨p2, d2⟩ := dat_plain dy 40 h2
    exact PySem.SeqAt.eq_plain ra rb p1 p2 (depth_room hr d1) ⟨_, H, I, by rw [eqv_py dx dy 40 40 h1 h2]; rfl, q⟩
  · cases e
theorem cr_ne {k : Nat} (hK : X.K = g.K) (hr : Room k X.A) : CmR g X (compareOp .NotEq) (cmD .ne) := by
  intro pins s σ H x y v u Q I rx ry ⟨W, st, dx, dy, b, C, r1, r2, e, q⟩
  simp only [cmD] at e
  split at e
  · rename_i h
    cases e
    obtain ⟨h1, h2⟩ := Bool.and_eq_true_iff.mp h
    obtain ⟨as, ra⟩ := r1.reads hK C I h1 rx
    obtain ⟨bs, rb⟩ := r2.reads hK C I h2 ry
    obtain ⟨p1, d1⟩ := dat_plain dx 40 h1
    obtain ⟨p2, d2⟩ := dat_plain dy 40 h2
    exact PySem.SeqAt.ne_plain ra rb p1 p2 (depth_room hr d1) ⟨_, H, I, by rw [eqv_py dx dy 40 40 h1 h2]; rfl, q⟩
  · cases e
theorem ltD_inv {a b : D} {k : Bool} (e : ltD a b = some k) : D.dat 40 a = true ∧ D.dat 40 b = true ∧ D.alike a b = true ∧ a.isNon = false ∧ D.lt a b = k := by
  unfold ltD at e
  split at e
  · rename_i h
    simp only [Bool.and_eq_true, Bool.not_eq_true'] at h
    cases e
    exact ⟨h.1.1.1, h.1.1.2, h.1.2, h.2, rfl⟩
  · cases e
theorem not_non {a : D} (h : D.dat 40 a = true) (n : a.isNon = false) : a.py ≠ .none := fun z => by
  rw [(py_non a 40 h).mp z] at n; cases n
theorem alike_non {a b : D} (al : D.alike a b = true) (n : a.isNon = false) : b.isNon = false := by
  cases a <;> cases b <;> simp [D.alike, D.isNon] at al n ⊢
theorem cr_lt {k : Nat} (hK : X.K = g.K) (hr : Room k X.A) : CmR g X (compareOp .Lt) (cmD .lt) := by
  intro pins s σ H x y v u Q I rx ry ⟨W, st, dx, dy, b, C, r1, r2, e, q⟩
  obtain ⟨h1, h2, al, nn, e⟩ := ltD_inv (show ltD dx dy = some b from e)
  obtain ⟨as, ra⟩ := r1.reads hK C I h1 rx
  obtain ⟨bs, rb⟩ := r2.reads hK C I h2 ry
  refine PySem.W.lt_data ra rb (by rw [alike_py dx dy 40 40 h1 h2]; exact al) (not_non h1 nn) (depth_room hr (dat_plain dx 40 h1).2) ⟨_, H, I, ?_, q⟩
  rw [lt_py dx dy 40 40 h1 h2 al nn, e]; rfl
theorem cr_gt {k : Nat} (hK : X.K = g.K) (hr : Room k X.A) : CmR g X (compareOp .Gt) (cmD .gt) := by
  intro pins s σ H x y v u Q I rx ry ⟨W, st, dx, dy, b, C, r1, r2, e, q⟩
  obtain ⟨h2, h1, al, nn, e⟩ := ltD_inv (show ltD dy dx = some b from e)
  obtain ⟨as, ra⟩ := r1.reads hK C I h1 rx
  obtain ⟨bs, rb⟩ := r2.reads hK C I h2 ry
  have al' : D.alike dx dy = true := by rw [alike_comm_D dx dy 40 40 h1 h2]; exact al
  refine PySem.W.gt_data ra rb (by rw [alike_py dx dy 40 40 h1 h2]; exact al') (not_non h1 (alike_non al nn)) (depth_room hr (dat_plain dx 40 h1).2) ⟨_, H, I, ?_, q⟩
  rw [lt_py dy dx 40 40 h2 h1 al nn, e]; rfl
theorem cr_le {k : Nat} (hK : X.K = g.K) (hr : Room k X.A) : CmR g X (compareOp .LtE) (cmD .le) := by
  intro pins s σ H x y v u Q I rx ry ⟨W, st, dx, dy, b, C, r1, r2, e, q⟩
  obtain ⟨c, e0, e1⟩ := Option.map_eq_some_iff.mp (show (ltD dy dx).map (!·) = some b from e)
  obtain ⟨h2, h1, al, nn, e⟩ := ltD_inv e0
  obtain ⟨as, ra⟩ := r1.reads hK C I h1 rx
  obtain ⟨bs, rb⟩ := r2.reads hK C I h2 ry
  have al' : D.alike dx dy = true := by rw [alike_comm_D dx dy 40 40 h1 h2]; exact al
  refine PySem.W.le_data ra rb (by rw [alike_py dx dy 40 40 h1 h2]; exact al') (not_non h1 (alike_non al nn)) (depth_room hr (dat_plain dx 40 h1).2) ⟨_, H, I, ?_, q⟩
  rw [lt_py dy dx 40 40 h2 h1 al nn, e, ← e1]; rfl
theorem cr_ge {k : Nat} (hK : X.K = g.K) (hr : Room k X.A) : CmR g X (compareOp .GtE) (cmD .ge) := by
  intro pins s σ H x y v u Q I rx ry ⟨W, st, dx, dy, b, C, r1, r2, e, q⟩
  obtain ⟨c, e0, e1⟩ := Option.map_eq_some_iff.mp (show (ltD dx dy).map (!·) = some b from e)
  obtain ⟨h1, h2, al, nn, e⟩ := ltD_inv e0
  obtain ⟨as, ra⟩ := r1.reads hK C I h1 rx
  obtain ⟨bs, rb⟩ := r2.reads hK C I h2 ry
  refine PySem.W.ge_data ra rb (by rw [alike_py dx dy 40 40 h1 h2]; exact al) (not_non h1 nn) (depth_room hr (dat_plain dx 40 h1).2) ⟨_, H, I, ?_, q⟩
  rw [lt_py dx dy 40 40 h1 h2 al nn, e, ← e1]; rfl
theorem any_py (a : D) (n m : Nat) (h : D.dat n a = true) : ∀ ds : List D, D.datL m ds = true → ((D.pyL ds).any fun z => PyData.eqv z a.py) = ds.any fun z => D.eqv z a
  | [], k => by simp [D.pyL]
  | d :: ds, k => by
    simp only [D.datL, Bool.and_eq_true] at k
    simp only [D.pyL, List.any_cons, any_py a n m h ds k.2, eqv_py d a m n k.1 h]
theorem inD_inv {a : D} {ds : List D} {b : Bool} (e : inD a ds = some b) : D.dat 40 a = true ∧ D.datL 40 ds = true ∧ (ds.any fun z => D.eqv z a) = b := by
  unfold inD at e
  split at e
  · rename_i h
    cases e
    exact ⟨(Bool.and_eq_true_iff.mp h).1, (Bool.and_eq_true_iff.mp h).2, rfl⟩
  · cases e
theorem depth_room1 {k : Nat} {a : PyData} {n : Nat} (h : Room k X.A) (ha : a.depth ≤ 40) : X.A.units + 1 + min n a.depth < cLine := by
  have := h.units
  have : min n a.depth ≤ a.depth := Nat.min_le_right _ _
  omega
theorem cr_in {k : Nat} (hK : X.K = g.K) (hr : Room k X.A) : CmR g X (compareOp .In) (cmD .isin) := by
  intro pins s σ H x y v u Q I rx ry ⟨W, st, dx, dy, b, C, r1, r2, e, q⟩
  obtain ⟨ds, e0, e1⟩ := Option.bind_eq_some_iff.mp (show dy.items.bind (inD dx) = some b from e)
  obtain ⟨h1, h2, e2⟩ := inD_inv e1
  obtain ⟨as, ra⟩ := r1.reads hK C I h1 rx
  cases dy <;> (try (simp [D.items] at e0; done))
  · simp only [D.items, Option.some.injEq] at e0
    subst e0
    obtain ⟨bs, rb⟩ := r2.reads (n := 41) hK C I (by simp only [D.dat]; exact h2) ry
    simp only [D.py] at rb
    exact PySem.SeqAt.in_tuple_data rb ra (datL_plain _ 40 h2).1 (dat_plain dx 40 h1).1 (depth_room1 hr (dat_plain dx 40 h1).2) ⟨_, H, I, by rw [any_py dx 40 40 h1 _ h2, e2]; rfl, q⟩
  · simp only [D.items, Option.some.injEq] at e0
    subst e0
    obtain ⟨bs, rb⟩ := r2.reads (n := 41) hK C I (by simp only [D.dat]; exact h2) ry
    simp only [D.py] at rb
    exact PySem.SeqAt.in_list_data rb ra (datL_plain _ 40 h2).1 (dat_plain dx 40 h1).1 (depth_room1 hr (dat_plain dx 40 h1).2) ⟨_, H, I, by rw [any_py dx 40 40 h1 _ h2, e2]; rfl, q⟩
theorem cr_notin {k : Nat} (hK : X.K = g.K) (hr : Room k X.A) : CmR g X (compareOp .NotIn) (cmD .notin) := by
  intro pins s σ H x y v u Q I rx ry ⟨W, st, dx, dy, b, C, r1, r2, e, q⟩
  obtain ⟨c, e3, e4⟩ := Option.map_eq_some_iff.mp (show (dy.items.bind (inD dx)).map (!·) = some b from e)
  obtain ⟨ds, e0, e1⟩ := Option.bind_eq_some_iff.mp e3
  obtain ⟨h1, h2, e2⟩ := inD_inv e1
  obtain ⟨as, ra⟩ := r1.reads hK C I h1 rx
  cases dy <;> (try (simp [D.items] at e0; done))
  · simp only [D.items, Option.some.injEq] at e0
    subst e0
    obtain ⟨bs, rb⟩ := r2.reads (n := 41) hK C I (by simp only [D.dat]; exact h2) ry
    simp only [D.py] at rb
    exact PySem.SeqAt.notIn_tuple_data rb ra (datL_plain _ 40 h2).1 (dat_plain dx 40 h1).1 (depth_room1 hr (dat_plain dx 40 h1).2) ⟨_, H, I, by rw [any_py dx 40 40 h1 _ h2, e2, ← e4]; rfl, q⟩
  · simp only [D.items, Option.some.injEq] at e0
    subst e0
    obtain ⟨bs, rb⟩ := r2.reads (n := 41) hK C I (by simp only [D.dat]; exact h2) ry
    simp only [D.py] at rb
    exact PySem.SeqAt.notIn_list_data rb ra (datL_plain _ 40 h2).1 (dat_plain dx 40 h1).1 (depth_room1 hr (dat_plain dx 40 h1).2) ⟨_, H, I, by rw [any_py dx 40 40 h1 _ h2, e2, ← e4]; rfl, q⟩
theorem Rep.isN {W : Wd} {H : Hp} {d : D} {v : V} (r : RepB g W H d v) : decide (v = .non) = d.isNon := by
  cases d with
  | non => rw [r.non]; rfl
  | bl b => rw [r.bl]; rfl
  | int i => rw [r.int]; rfl
  | str x => rw [r.str]; rfl
  | tup ds => obtain ⟨a, vs, e, _⟩ := Rep.tup_iff.mp (r.not_lst fun _ => by simp); rw [e]; rfl
  | lst ds =>
    rcases r with r | ⟨_, a, _, _, e, _⟩
    · obtain ⟨a, vs, e, _⟩ := Rep.lst_iff.mp r; rw [e]; rfl
    · rw [e]; rfl
  | dct ks xs => have q := r.not_lst (fun _ => by simp); unfold Rep at q; exact q.elim
  | obj c ds => obtain ⟨a, dx, vs, e, _⟩ := Rep.obj_iff.mp (r.not_lst fun _ => by simp); rw [e]; rfl
  | ref i => obtain ⟨a, _, e⟩ := Rep.ref_iff.mp (r.not_lst fun _ => by simp); rw [e]; rfl
  | scr ns => obtain ⟨a, e, _⟩ := Rep.scr_iff.mp (r.not_lst fun _ => by simp); rw [e]; rfl
theorem cr_is : CmR g X (compareOp .Is) (cmD .is) := by
  intro pins s σ H x y v u Q I rx ry ⟨W, st, dx, dy, b, C, r1, r2, e, q⟩
  cases dy <;> (try (cases dx <;> simp [cmD] at e; done))
  · simp only [cmD, Option.some.injEq] at e
    subst e
    exact op_isN pins s σ H x y v u Q I rx ry ⟨r2.non, by rw [Rep.isN r1]; exact q⟩
  · cases dx <;> (try (simp [cmD] at e; done))
    simp only [cmD, Option.some.injEq] at e
    subst e
    refine op_is_bl pins s σ H x y v u Q I rx ry ⟨_, _, r1.bl, r2.bl, ?_⟩
    rw [← Bool.beq_eq_decide_eq]; exact q
theorem cr_isnot : CmR g X (compareOp .IsNot) (cmD .isnot) := by
  intro pins s σ H x y v u Q I rx ry ⟨W, st, dx, dy, b, C, r1, r2, e, q⟩
  cases dy <;> (try (cases dx <;> simp [cmD] at e; done))
  · simp only [cmD, Option.some.injEq] at e
    subst e
    exact op_notN pins s σ H x y v u Q I rx ry ⟨r2.non, by rw [Rep.isN r1]; exact q⟩
  · cases dx <;> (try (simp [cmD] at e; done))
    simp only [cmD, Option.some.injEq] at e
    subst e
    refine op_isnot_bl pins s σ H x y v u Q I rx ry ⟨_, _, r1.bl, r2.bl, ?_⟩
    rw [← Bool.beq_eq_decide_eq]; exact q
end
end Bp
set_option Elab.async false
set_option linter.all false
set_option maxRecDepth 100000
/-! BpExp: expressions: operators, tests, calls of built-ins. -/
namespace Bp
open PySem PySem.Spec PyProof.Rows L2
section
variable {g : Glob} {X : Cx} {N : List Str} {sc : Scope} {k : Nat} {Wsh : WX} {en : Ent} {cf : Cf}

theorem fin_bad_elim {R : Wd → Hp → D → V → Prop} {σ : L2.St} {W : Wd} {H : Hp} {Q : VK} (h : Go g Wsh R σ W H (Res.bad : Res D) Q) : False := h

/-- two values, then one -/
theorem sim_bin {o : Op2} {op : Operator} {a b : Expr} {ca cb : E} {pos : Pos} {m : Mode} (hm : m.val = true) (ho : OpD g X (binaryOp op) (opD o)) (ha : PE X a (tsim g en Wsh cf .brw ca)) (hb : PE X b (tsim g en Wsh cf .brw cb)) :
    PE X (.BinOp a op b pos) (tsim g en Wsh cf m (.bin o ca cb)) := by
  refine PE.imp (pe_op ho ha hb) ?_
  rintro σ H Q ⟨W, env, st, M, C, h⟩
  rw [evE, fin_val hm] at h
  refine ⟨W, env, st, M, C, Go.bind h ?_⟩
  intro dx st1 x W1 H1 _ x1 C1 r1 h1
  refine ⟨W1, env, st1, M.ext x1, C1, Go.bind h1 ?_⟩
  intro dy st2 y W2 H2 _ x2 C2 r2 h2
  obtain ⟨d, e, h3⟩ := Go.of h2
  exact ⟨W2, st2, dx, dy, d, C2, RepB.ext x2 r1, r2, e, fun v W' H' x C' r => h3 v W' H' x C' (RepM.of hm r)⟩
theorem sim_cmp {o : Cm} {op : CmpOp} {a b : Expr} {ca cb : E} {pos : Pos} {m : Mode} (hm : m.val = true) (ho : CmR g X (compareOp op) (cmD o)) (ha : PE X a (tsim g en Wsh cf .brw ca)) (hb : PE X b (tsim g en Wsh cf .brw cb)) (hn : behindInMarks op b = false) :
    PE X (.Compare a [op] [b] pos) (tsim g en Wsh cf m (.cmp o ca cb)) := by
  refine PE.imp (pe_cmpR ho ha hb hn) ?_
  rintro σ H Q ⟨W, env, st, M, C, h⟩
  rw [evE, fin_val hm] at h
  refine ⟨W, env, st, M, C, Go.bind h ?_⟩
  intro dx st1 x W1 H1 _ x1 C1 r1 h1
  refine ⟨W1, env, st1, M.ext x1, C1, Go.bind h1 ?_⟩
  intro dy st2 y W2 H2 _ x2 C2 r2 h2
  obtain ⟨d, e, h3⟩ := Go.of h2
  obtain ⟨b, e0, e1⟩ := Option.map_eq_some_iff.mp e
  subst e1
  exact ⟨W2, st2, dx, dy, b, C2, RepB.ext x2 r1, r2, e0, h3 _ W2 H2 .refl C2 (RepM.of hm (Rep.bl_iff.mpr rfl))⟩
theorem res_of_some {α : Type} (a : α) (st : Store) : Res.of (some a) st = .ok a st := rfl
theorem bind_ok {α β : Type} (a : α) (st : Store) (k : α → Store → Res β) : (Res.ok a st).bind k = k a st := rfl
theorem bind_assoc {α β γ : Type} (r : Res α) (k : α → Store → Res β) (l : β → Store → Res γ) : (r.bind k).bind l = r.bind fun a st => (k a st).bind l := by
  cases r <;> rfl
theorem tru_map_bl {o : Option Bool} {st : Store} : (Res.of (o.map D.bl) st).bind (fun d st => Res.of ((truD d).map .bl) st) = Res.of (o.map D.bl) st := by
  cases o <;> rfl
theorem simT_cmp {o : Cm} {op : CmpOp} {a b : Expr} {ca cb : E} {pos : Pos} (ho : CmR g X (compareOp op) (cmD o)) (ha : PE X a (tsim g en Wsh cf .brw ca)) (hb : PE X b (tsim g en Wsh cf .brw cb)) (hn : behindInMarks op b = false) :
    PT X (.Compare a [op] [b] pos) (tsimT g en Wsh cf (.cmp o ca cb)) := by
  refine PT.imp (pt_cmpR ho ha hb hn) ?_
  rintro σ H Q ⟨W, env, st, M, C, h⟩
  rw [evE, fin_tst] at h
  simp only [bind_assoc, tru_map_bl] at h
  refine ⟨W, env, st, M, C, Go.bind h ?_⟩
  intro dx st1 x W1 H1 _ x1 C1 r1 h1
  refine ⟨W1, env, st1, M.ext x1, C1, Go.bind h1 ?_⟩
  intro dy st2 y W2 H2 _ x2 C2 r2 h2
  obtain ⟨d, e, h3⟩ := Go.of h2
  obtain ⟨b, e0, e1⟩ := Option.map_eq_some_iff.mp e
  subst e1
  exact ⟨W2, st2, dx, dy, b, C2, RepB.ext x2 r1, r2, e0, b, rfl, h3 _ W2 H2 .refl C2 rfl⟩
/-- the reading of a chain -/
theorem chain_read {R : Wd → Hp → D → V → Prop} {o o' : Cm} {op op' : CmpOp} {ca cb cc : E} {σ : L2.St} {H : Hp} {Q : VK} {W : Wd} {env : Env} {st : Store} (M : EnvM g en W env σ H) (C : CellM g W st H)
    (hR : ∀ W H b, R W H (.bl b) (.bl b))
    (h : Go g Wsh R σ W H ((evE cf ca .brw env st).bind fun x st => (evE cf cb .brw env st).bind fun y st => (Res.of (cmD o x y) st).bind fun k st =>
      if k then (evE cf cc .brw env st).bind fun z st => Res.of ((cmD o' y z).map .bl) st else .ok (.bl false) st) Q) :
    tChain (fun x y H Q => ∃ W st dx dy b, CellM g W st H ∧ RepB g W H dx x ∧ RepB g W H dy y ∧ cmD o dx dy = some b ∧ Q (.bl b) H)
      (fun x y H Q => ∃ W st dx dy b, CellM g W st H ∧ RepB g W H dx x ∧ RepB g W H dy y ∧ cmD o' dx dy = some b ∧ Q (.bl b) H)
      (tsim g en Wsh cf .brw ca) (tsim g en Wsh cf .brw cb) (tsim g en Wsh cf .brw cc) σ H Q := by
  refine ⟨W, env, st, M, C, Go.bind h ?_⟩
  intro dx st1 x W1 H1 _ x1 C1 r1 h1
  refine ⟨W1, env, st1, M.ext x1, C1, Go.bind h1 ?_⟩
  intro dy st2 y W2 H2 _ x2 C2 r2 h2
  cases e : cmD o dx dy with
  | none => rw [e] at h2; exact h2.elim
  | some b =>
    rw [e] at h2
    refine ⟨W2, st2, dx, dy, b, C2, RepB.ext x2 r1, r2, e, b, rfl, ?_⟩
    cases b with
    | false =>
      rw [if_neg Bool.false_ne_true]
      exact h2 _ W2 H2 .refl C2 (hR _ _ _)
    | true =>
      rw [if_pos rfl]
      refine ⟨W2, env, st2, (M.ext x1).ext x2, C2, Go.bind (h2 : Go g Wsh R σ W2 H2 ((evE cf cc .brw env st2).bind _) Q) ?_⟩
      intro dz st3 z W3 H3 _ x3 C3 r3 h3
      obtain ⟨d, e3, h4⟩ := Go.of h3
      obtain ⟨b, e0, e1⟩ := Option.map_eq_some_iff.mp e3
      subst e1
      exact ⟨W3, st3, dy, dz, b, C3, RepB.ext x3 r2, r3, e0, h4 _ W3 H3 .refl C3 (hR _ _ _)⟩
theorem sim_chain {o o' : Cm} {op op' : CmpOp} {a b c : Expr} {ca cb cc : E} {pos : Pos} {m : Mode} (hm : m.val = true) (ho : CmR g X (compareOp op) (cmD o)) (ho' : CmR g X (compareOp op') (cmD o')) (ha : PE X a (tsim g en Wsh cf .brw ca)) (hb : PE X b (tsim g en Wsh cf .brw cb)) (hc : PE X c (tsim g en Wsh cf .brw cc)) (hn : lastMarks [op, op'] [b, c] = false) :
    PE X (.Compare a [op, op'] [b, c] pos) (tsim g en Wsh cf m (.chain o o' ca cb cc)) := by
  refine PE.imp (pe_chain ho ho' ha hb hc hn) ?_
  rintro σ H Q ⟨W, env, st, M, C, h⟩
  rw [evE, fin_val hm] at h
  exact chain_read (op := op) (op' := op') M C (fun W H b => RepM.of hm (Rep.bl_iff.mpr rfl)) h
theorem Go.blT {r : Res D} {σ : L2.St} {W : Wd} {H : Hp} {Q : Bool → Hp → Prop} (h : Go g Wsh (fun _ _ d b => d = .bl b) σ W H r Q) : Go g Wsh (fun _ _ d v => ∃ b, d = .bl b ∧ v = .bl b) σ W H r fun x H' => ∃ k, x = V.bl k ∧ Q k H' := by
  cases r with
  | ok d st' =>
    intro v W' H' x c ⟨b, e1, e2⟩
    subst e1 e2
    exact ⟨b, rfl, h b W' H' x c rfl⟩
  | exc k d st' => exact h
  | bad => exact h
theorem simT_chain {o o' : Cm} {op op' : CmpOp} {a b c : Expr} {ca cb cc : E} {pos : Pos} (ho : CmR g X (compareOp op) (cmD o)) (ho' : CmR g X (compareOp op') (cmD o')) (ha : PE X a (tsim g en Wsh cf .brw ca)) (hb : PE X b (tsim g en Wsh cf .brw cb)) (hc : PE X c (tsim g en Wsh cf .brw cc)) (hn : lastMarks [op, op'] [b, c] = false) :
    PT X (.Compare a [op, op'] [b, c] pos) (tsimT g en Wsh cf (.chain o o' ca cb cc)) := by
  refine PT.imp (pt_chain ho ho' ha hb hc hn) ?_
  rintro σ H Q ⟨W, env, st, M, C, h⟩
  rw [evE, fin_tst] at h
  simp only [bind_assoc] at h
  refine chain_read (R := fun _ _ d v => ∃ b, d = .bl b ∧ v = .bl b) (op := op) (op' := op') M C (fun W H b => ⟨b, rfl, rfl⟩) ?_
  have e : ∀ (x y : D) (st : Store), ((Res.of (cmD o x y) st).bind fun (k : Bool) (st : Store) =>
      (if k = true then (evE cf cc .brw env st).bind fun z st => Res.of ((cmD o' y z).map D.bl) st else Res.ok (D.bl false) st).bind fun (d : D) (st : Store) => Res.of ((truD d).map D.bl) st)
    = ((Res.of (cmD o x y) st).bind fun (k : Bool) (st : Store) =>
      if k = true then (evE cf cc .brw env st).bind fun z st => Res.of ((cmD o' y z).map D.bl) st else Res.ok (D.bl false) st) := by
    intro x y st
    cases cmD o x y with
    | none => rfl
    | some k =>
      cases k
      · rfl
      · show ((evE cf cc .brw env st).bind _).bind _ = _
        rw [bind_assoc]
        simp only [tru_map_bl]
        rfl
  simp only [e] at h
  exact Go.blT h

/-! ### truth -/
theorem tru_v {W : Wd} {st : Store} {H : Hp} {d : D} {v : V} {b : Bool} (hK : X.K = g.K) (C : CellM g W st H) (r : RepB g W H d v) (e : truD d = some b) : TruV X.K v H b := by
  cases d with
  | non => simp only [truD, Option.some.injEq] at e; rw [r.non]; exact e.symm
  | bl k => simp only [truD, Option.some.injEq] at e; rw [r.bl]; exact e.symm
  | int i => simp only [truD, Option.some.injEq] at e; rw [r.int]; exact e.symm
  | tup ds =>
    simp only [truD, Option.some.injEq] at e
    obtain ⟨a, vs, e1, q, l⟩ := r.tup C
    rw [e1]
    refine .inr (.inl ⟨vs, by rw [hK]; exact q, ?_⟩)
    rw [← e]
    have := l.len
    cases ds <;> cases vs <;> simp at this ⊢
  | lst ds =>
    simp only [truD, Option.some.injEq] at e
    obtain ⟨a, vs, e1, q, l⟩ := r.lst C
    rw [e1]
    refine .inl ⟨vs, SqL.of q, ?_⟩
    rw [← e]
    have := l.len
    cases ds <;> cases vs <;> simp at this ⊢
  | _ => simp [truD] at e
/-- any plain expression as a test -/
theorem simT_of {e : Expr} {c : E} (hK : X.K = g.K) (hv : ∀ env st, evE cf c .tst env st = (evE cf c .brw env st).bind fun d st => Res.of ((truD d).map .bl) st) (h : PE X e (tsim g en Wsh cf .brw c))
    (he : ∀ whole, isTrue e X.env whole = (do let v ← whole; standAt e.pos; holding [v] (truthy v))) : PT X e (tsimT g en Wsh cf c) := by
  refine PT.imp (pt_truth h he) ?_
  rintro σ H Q ⟨W, env, st, M, C, h⟩
  rw [hv] at h
  refine ⟨W, env, st, M, C, Go.bind h ?_⟩
  intro d st1 x W1 H1 _ x1 C1 r1 h1
  obtain ⟨z, e, h3⟩ := Go.of h1
  obtain ⟨b, e0, e1⟩ := Option.map_eq_some_iff.mp e
  subst e1
  exact ⟨b, tru_v hK C1 r1 e0, h3 b W1 H1 .refl C1 rfl⟩

/-! ### and, or, not, if else -/
theorem Go.asBl {α β : Type} {R : Wd → Hp → D → β → Prop} {R2 : Wd → Hp → D → α → Prop} {σ : L2.St} {W : Wd} {H : Hp} {r : Res D} {kk : Bool → Store → Res D} {Q : α → Hp → Prop} {P : β → Hp → Prop} (h : Go g Wsh R2 σ W H (Bp.asBl r kk) Q)
    (step : ∀ b st v W1 H1, Ext W H W1 H1 → CellM g W1 st H1 → R W1 H1 (.bl b) v → Go g Wsh R2 σ W1 H1 (kk b st) Q → P v H1) : Go g Wsh R σ W H r P := by
  refine Go.bind h ?_
  intro d st v W1 H1 _ x C r1 h1
  cases d with
  | bl b => exact step b st v W1 H1 x C r1 h1
  | _ => exact h1.elim
theorem evE_and {m : Mode} (hm : m.val = true) (a b : E) (env : Env) (st : Store) : evE cf (.and a b) m env st = Bp.asBl (evE cf a .frz env st) fun k st => if k then evE cf b .frz env st else .ok (.bl false) st := by
  cases m <;> first | rfl | cases hm
theorem evE_or {m : Mode} (hm : m.val = true) (a b : E) (env : Env) (st : Store) : evE cf (.or a b) m env st = Bp.asBl (evE cf a .frz env st) fun k st => if k then .ok (.bl true) st else evE cf b .frz env st := by
  cases m <;> first | rfl | cases hm
theorem evE_not {m : Mode} (hm : m.val = true) (a : E) (env : Env) (st : Store) : evE cf (.not a) m env st = Bp.asBl (evE cf a .frz env st) fun k st => .ok (.bl (!k)) st := by
  cases m <;> first | rfl | cases hm
theorem simW_and {a b : Expr} {rest : List Expr} {ca cb : E} {pos : Pos} (ha : PT X a (tsimT g en Wsh cf ca)) (hb : PW X (.BoolOp .And (b :: rest) pos) (tsimT g en Wsh cf cb)) : PW X (.BoolOp .And (a :: b :: rest) pos) (tsimT g en Wsh cf (.and ca cb)) := by
  refine PW.imp (pw_and ha hb) ?_
  rintro σ H Q ⟨W, env, st, M, C, h⟩
  rw [evE] at h
  refine ⟨W, env, st, M, C, Go.asBl h ?_⟩
  intro b st1 v W1 H1 x1 C1 e h1
  cases e
  cases b with
  | true => rw [if_pos rfl]; exact ⟨W1, env, st1, M.ext x1, C1, h1⟩
  | false => rw [if_neg Bool.false_ne_true]; exact h1 _ W1 H1 .refl C1 rfl
theorem simW_or {a b : Expr} {rest : List Expr} {ca cb : E} {pos : Pos} (ha : PT X a (tsimT g en Wsh cf ca)) (hb : PW X (.BoolOp .Or (b :: rest) pos) (tsimT g en Wsh cf cb)) : PW X (.BoolOp .Or (a :: b :: rest) pos) (tsimT g en Wsh cf (.or ca cb)) := by
  refine PW.imp (pw_or ha hb) ?_
  rintro σ H Q ⟨W, env, st, M, C, h⟩
  rw [evE] at h
  refine ⟨W, env, st, M, C, Go.asBl h ?_⟩
  intro b st1 v W1 H1 x1 C1 e h1
  cases e
  cases b with
  | true => rw [if_pos rfl]; exact h1 _ W1 H1 .refl C1 rfl
  | false => rw [if_neg Bool.false_ne_true]; exact ⟨W1, env, st1, M.ext x1, C1, h1⟩
theorem simT_not {a : Expr} {ca : E} {pos : Pos} (ha : PT X a (tsimT g en Wsh cf ca)) : PT X (.UnaryOp .Not a pos) (tsimT g en Wsh cf (.not ca)) := by
  refine PT.imp (pt_not ha) ?_
  rintro σ H Q ⟨W, env, st, M, C, h⟩
  rw [evE] at h
  refine ⟨W, env, st, M, C, Go.asBl h ?_⟩
  intro b st1 v W1 H1 x1 C1 e h1
  cases e
  exact h1 _ W1 H1 .refl C1 rfl
theorem sim_and {a b : Expr} {rest : List Expr} {ca cb : E} {pos : Pos} {m : Mode} (hm : m.val = true) (ha : PE X a (tsim g en Wsh cf .frz ca)) (hb : PE X (.BoolOp .And (b :: rest) pos) (tsim g en Wsh cf .frz cb)) : PE X (.BoolOp .And (a :: b :: rest) pos) (tsim g en Wsh cf m (.and ca cb)) := by
  refine PE.imp (pe_and ha hb) ?_
  rintro σ H Q ⟨W, env, st, M, C, h⟩
  rw [evE_and hm] at h
  refine ⟨W, env, st, M, C, Go.asBl h ?_⟩
  intro b st1 v W1 H1 x1 C1 e h1
  refine ⟨b, Rep.bl_iff.mp (show Rep g W1 (.bl b) v from e), ?_⟩
  cases b with
  | true =>
    rw [if_pos rfl]
    refine ⟨W1, env, st1, M.ext x1, C1, ?_⟩
    rw [if_pos rfl] at h1
    cases q : evE cf cb .frz env st1 with
    | ok d st' => rw [q] at h1; exact fun v W' H' x c r => h1 v W' H' x c (RepM.of hm r)
    | exc c d st' => rw [q] at h1; exact h1
    | bad => rw [q] at h1; exact h1
  | false => rw [if_neg Bool.false_ne_true]; exact h1 _ W1 H1 .refl C1 (RepM.of hm (Rep.bl_iff.mpr rfl))
theorem sim_or {a b : Expr} {rest : List Expr} {ca cb : E} {pos : Pos} {m : Mode} (hm : m.val = true) (ha : PE X a (tsim g en Wsh cf .frz ca)) (hb : PE X (.BoolOp .Or (b :: rest) pos) (tsim g en Wsh cf .frz cb)) : PE X (.BoolOp .Or (a :: b :: rest) pos) (tsim g en Wsh cf m (.or ca cb)) := by
  refine PE.imp (pe_or ha hb) ?_
  rintro σ H Q ⟨W, env, st, M, C, h⟩
  rw [evE_or hm] at h
  refine ⟨W, env, st, M, C, Go.asBl h ?_⟩
  intro b st1 v W1 H1 x1 C1 e h1
  refine ⟨b, Rep.bl_iff.mp (show Rep g W1 (.bl b) v from e), ?_⟩
  cases b with
  | true => rw [if_pos rfl]; exact h1 _ W1 H1 .refl C1 (RepM.of hm (Rep.bl_iff.mpr rfl))
  | false =>
    rw [if_neg Bool.false_ne_true]
    refine ⟨W1, env, st1, M.ext x1, C1, ?_⟩
    rw [if_neg Bool.false_ne_true] at h1
    cases q : evE cf cb .frz env st1 with
    | ok d st' => rw [q] at h1; exact fun v W' H' x c r => h1 v W' H' x c (RepM.of hm r)
    | exc c d st' => rw [q] at h1; exact h1
    | bad => rw [q] at h1; exact h1
theorem sim_not {a : Expr} {ca : E} {pos : Pos} {m : Mode} (hm : m.val = true) (ha : PE X a (tsim g en Wsh cf .frz ca)) : PE X (.UnaryOp .Not a pos) (tsim g en Wsh cf m (.not ca)) := by
  refine PE.imp (pe_not ha) ?_
  rintro σ H Q ⟨W, env, st, M, C, h⟩
  rw [evE_not hm] at h
  refine ⟨W, env, st, M, C, Go.asBl h ?_⟩
  intro b st1 v W1 H1 x1 C1 e h1
  exact ⟨b, Rep.bl_iff.mp (show Rep g W1 (.bl b) v from e), h1 _ W1 H1 .refl C1 (RepM.of hm (Rep.bl_iff.mpr rfl))⟩
theorem sim_ife {t a b : Expr} {ct ca cb : E} {pos : Pos} {m : Mode} (hm : m.val = true) (ht : PT X t (tsimT g en Wsh cf ct)) (ha : PE X a (tsim g en Wsh cf .frz ca)) (hb : PE X b (tsim g en Wsh cf .frz cb)) : PE X (.IfExp t a b pos) (tsim g en Wsh cf m (.ife ct ca cb)) := by
  refine PE.imp (pe_ifExp ht ha hb) ?_
  rintro σ H Q ⟨W, env, st, M, C, h⟩
  rw [evE, fin_val hm] at h
  refine ⟨W, env, st, M, C, Go.asBl h ?_⟩
  intro b st1 v W1 H1 x1 C1 e h1
  cases e
  have go : ∀ {c : E}, Go g Wsh (RepM g m) σ W1 H1 (evE cf c .frz env st1) Q → tsim g en Wsh cf .frz c σ H1 Q := fun {c} h1 => by
    refine ⟨W1, env, st1, M.ext x1, C1, ?_⟩
    cases q : evE cf c .frz env st1 with
    | ok d st' => rw [q] at h1; exact fun v W' H' x c r => h1 v W' H' x c (RepM.of hm r)
    | exc c d st' => rw [q] at h1; exact h1
    | bad => rw [q] at h1; exact h1
  cases b with
  | true => rw [if_pos rfl] at h1 ⊢; exact go h1
  | false => rw [if_neg Bool.false_ne_true] at h1 ⊢; exact go h1
end
end Bp
set_option Elab.async false
set_option linter.all false
set_option maxRecDepth 100000
/-! BpBi: built-ins by values. -/
namespace Bp
open PySem PySem.Spec PyProof.Rows L2

def RepBL (g : Glob) (W : Wd) (H : Hp) : List D → List V → Prop
  | [], vs => vs = []
  | d :: ds, vs => ∃ v vs', vs = v :: vs' ∧ RepB g W H d v ∧ RepBL g W H ds vs'
theorem RepBL.len {g : Glob} {W : Wd} {H : Hp} : ∀ {ds : List D} {vs : List V}, RepBL g W H ds vs → ds.length = vs.length
  | [], vs, h => by rw [show vs = [] from h]; rfl
  | d :: ds, vs, h => by
    obtain ⟨v, vs', e, _, k⟩ := (show ∃ v vs', vs = v :: vs' ∧ RepB g W H d v ∧ RepBL g W H ds vs' from h)
    rw [e, List.length_cons, List.length_cons, RepBL.len k]
theorem RepBL.one {g : Glob} {W : Wd} {H : Hp} {d : D} {vs : List V} (h : RepBL g W H [d] vs) : ∃ v, vs = [v] ∧ RepB g W H d v := by
  obtain ⟨v, vs', e, r, k⟩ := (show ∃ v vs', vs = v :: vs' ∧ RepB g W H d v ∧ RepBL g W H [] vs' from h)
  rw [show vs' = [] from k] at e
  exact ⟨v, e, r⟩
theorem RepBL.two {g : Glob} {W : Wd} {H : Hp} {d d' : D} {vs : List V} (h : RepBL g W H [d, d'] vs) : ∃ v v', vs = [v, v'] ∧ RepB g W H d v ∧ RepB g W H d' v' := by
  obtain ⟨v, vs', e, r, k⟩ := (show ∃ v vs', vs = v :: vs' ∧ RepB g W H d v ∧ RepBL g W H [d'] vs' from h)
  obtain ⟨v', e', r'⟩ := RepBL.one k
  rw [e'] at e
  exact ⟨v, v', e, r, r'⟩
def tsimA (g : Glob) (en : Ent) (Wsh : WX) (cf : Cf) (cs : List E) : TA := fun σ H Q => ∃ W env st, EnvM g en W env σ H ∧ CellM g W st H ∧ Go g Wsh (RepBL g) σ W H (evAs cf cs env st) Q

section
variable {g : Glob} {X : Cx} {N : List Str} {sc : Scope} {k : Nat} {Wsh : WX} {en : Ent} {cf : Cf}
theorem simA_nil : PA X [] (tsimA g en Wsh cf []) := by
  refine PA.imp pa_nil ?_
  rintro σ H Q ⟨W, env, st, M, C, h⟩
  rw [evAs] at h
  exact h [] W H .refl C rfl
theorem simA_cons {e : Expr} {es : List Expr} {c : E} {cs : List E} (h1 : PE X e (tsim g en Wsh cf .brw c)) (h2 : PA X es (tsimA g en Wsh cf cs))
    (hs : starEach (e :: es) X.env = (false, eval e X.env) :: starEach es X.env) : PA X (e :: es) (tsimA g en Wsh cf (c :: cs)) := by
  refine PA.imp (pa_cons h1 h2 hs) ?_
  rintro σ H Q ⟨W, env, st, M, C, h⟩
  rw [evAs] at h
  refine ⟨W, env, st, M, C, Go.bind h ?_⟩
  intro d st1 v W1 H1 _ x1 C1 r1 h1
  refine ⟨W1, env, st1, M.ext x1, C1, Go.bind h1 ?_⟩
  intro ds st2 vs W2 H2 _ x2 C2 r2 h2
  exact h2 (v :: vs) W2 H2 .refl C2 ⟨v, vs, rfl, RepB.ext x2 r1, r2⟩

/-- a built-in keeps its word -/
def BiR (g : Glob) (X : Cx) (f : Value) (b : Bi) : Prop :=
  CallR X f fun vs H Q => ∃ W st ds d, CellM g W st H ∧ RepBL g W H ds vs ∧ biD b ds = some d ∧ Fin g W st H d Q
theorem bi_of {f : Value} {b : Bi} {r : List V → Hp → VK → Prop} (hr : CallR X f r) (h : ∀ W st ds d vs H Q, CellM g W st H → RepBL g W H ds vs → biD b ds = some d → Fin g W st H d Q → r vs H Q) : BiR g X f b := by
  intro pins s σ H vs us Q I r ⟨W, st, ds, d, C, q, e, k⟩
  exact hr pins s σ H vs us Q I r (h W st ds d vs H Q C q e k)
/-- a built-in function called -/
theorem sim_app {b : Bi} {id : String} {x : Str} {p pos : Pos} {e : Expr} {es : List Expr} {cs : List E} {m : Mode} (hm : m.val = true) (c : Ctx g X N sc k Wsh) (hg : sc.names.lookup x = some .globalImplicit) (hmg : g.mg x = none) (hv : bootBuiltins x = some (.builtin id))
    (hr : BiR g X (.builtin id) b) (ha : PA X (e :: es) (tsimA g en Wsh cf cs)) (hn : x ≠ "__name__") (hdb : (x == ("__debug__" : Str)) = false)
    (he : starEach (e :: es) X.env = (false, eval e X.env) :: starEach es X.env) (hpl : (backTo pos (starEach es X.env)).any (·.1) = false) :
    PE X (.Call (.Name x p) (e :: es) [] pos) (tsim g en Wsh cf m (.app b cs)) := by
  refine PE.imp (pe_callB hr (by show X.env.scope.names.lookup x = _; rw [c.hsc]; exact hg) (by rw [c.hmg]; exact hmg) hv ha hn hdb he hpl) ?_
  rintro σ H Q ⟨W, env, st, M, C, h⟩
  rw [evE, fin_val hm] at h
  refine ⟨W, env, st, M, C, Go.bind h ?_⟩
  intro ds st1 vs W1 H1 _ x1 C1 r1 h1
  obtain ⟨d, e, h2⟩ := Go.of h1
  exact ⟨W1, st1, ds, d, C1, r1, e, fun v W' H' x C' r => h2 v W' H' x C' (RepM.of hm r)⟩
/-- a built-in class called -/
theorem sim_appT {b : Bi} {T : String} {x : Str} {p pos : Pos} {e : Expr} {es : List Expr} {cs : List E} {m : Mode} (hm : m.val = true) (c : Ctx g X N sc k Wsh) (hg : sc.names.lookup x = some .globalImplicit) (hmg : g.mg x = none) (hv : bootBuiltins x = some (.type T))
    (hr : BiR g X (.type T) b) (ha : PA X (e :: es) (tsimA g en Wsh cf cs)) (hn : x ≠ "__name__") (hdb : (x == ("__debug__" : Str)) = false)
    (he : starEach (e :: es) X.env = (false, eval e X.env) :: starEach es X.env) (hpl : (backTo pos (starEach es X.env)).any (·.1) = false) :
    PE X (.Call (.Name x p) (e :: es) [] pos) (tsim g en Wsh cf m (.app b cs)) := by
  refine PE.imp (pe_callTy hr (by show X.env.scope.names.lookup x = _; rw [c.hsc]; exact hg) (by rw [c.hmg]; exact hmg) hv ha hn hdb he hpl) ?_
  rintro σ H Q ⟨W, env, st, M, C, h⟩
  rw [evE, fin_val hm] at h
  refine ⟨W, env, st, M, C, Go.bind h ?_⟩
  intro ds st1 vs W1 H1 _ x1 C1 r1 h1
  obtain ⟨d, e, h2⟩ := Go.of h1
  exact ⟨W1, st1, ds, d, C1, r1, e, fun v W' H' x C' r => h2 v W' H' x C' (RepM.of hm r)⟩

theorem one_of {b : Bi} {ds : List D} {d : D} (hb : ∀ ds, biD b ds = some d → ∃ a, ds = [a]) (e : biD b ds = some d) : ∃ a, ds = [a] := hb ds e
theorem br_len (hK : X.K = g.K) : BiR g X (.builtin "len") .len := by
  refine bi_of call_len ?_
  intro W st ds d vs H Q C r e kk
  match ds, e with
  | [a], e =>
    obtain ⟨v, rfl, r1⟩ := r.one
    cases a <;> (try (simp [biD] at e; done))
    · rename_i x
      simp only [biD] at e
      split at e
      · rename_i hf
        cases e
        rw [r1.str]
        exact ⟨.str x, x.length, rfl, ⟨fits_line hf, rfl⟩, kk.here C (Rep.int_iff.mpr rfl)⟩
      · cases e
    · simp only [biD, Option.some.injEq] at e
      subst e
      obtain ⟨a, vs, e1, q, l⟩ := r1.tup C
      rw [e1]
      exact ⟨_, vs.length, rfl, .inr ⟨vs, by rw [hK]; exact q, rfl⟩, kk.here C (Rep.int_iff.mpr (by rw [l.len]))⟩
    · simp only [biD, Option.some.injEq] at e
      subst e
      obtain ⟨a, vs, e1, q, l⟩ := r1.lst C
      rw [e1]
      exact ⟨_, vs.length, rfl, .inl ⟨vs, SqL.of q, rfl⟩, kk.here C (Rep.int_iff.mpr (by rw [l.len]))⟩
    · simp only [biD, Option.some.injEq] at e
      subst e
      obtain ⟨a, e1, q⟩ := Rep.scr_iff.mp (r1.not_lst fun _ => by simp)
      rw [e1]
      exact ⟨_, _, rfl, .inl ⟨_, by rw [hK]; exact SqL.mono C.fle q, rfl⟩, kk.here C (Rep.int_iff.mpr (by rw [List.length_map]))⟩
  | [], e => simp [biD] at e
  | _ :: _ :: _, e => simp [biD] at e
theorem br_abs : BiR g X (.builtin "abs") .abs := by
  refine bi_of call_abs ?_
  intro W st ds d vs H Q C r e kk
  match ds, e with
  | [.int i], e =>
    obtain ⟨v, rfl, r1⟩ := r.one
    simp only [biD, Option.some.injEq] at e
    subst e
    rw [r1.int]
    exact ⟨i, rfl, kk.here C (Rep.int_iff.mpr rfl)⟩
theorem br_min2 (hc : X.calm = true) : BiR g X (.builtin "min") .min2 := by
  refine bi_of (call_min2 hc) ?_
  intro W st ds d vs H Q C r e kk
  match ds, e with
  | [.int i, .int j], e =>
    obtain ⟨v, v', rfl, r1, r2⟩ := r.two
    simp only [biD, Option.some.injEq] at e
    subst e
    rw [r1.int, r2.int]
    exact ⟨i, j, rfl, kk.here C (Rep.int_iff.mpr rfl)⟩
theorem br_max2 (hc : X.calm = true) : BiR g X (.builtin "max") .max2 := by
  refine bi_of (call_max2 hc) ?_
  intro W st ds d vs H Q C r e kk
  match ds, e with
  | [.int i, .int j], e =>
    obtain ⟨v, v', rfl, r1, r2⟩ := r.two
    simp only [biD, Option.some.injEq] at e
    subst e
    rw [r1.int, r2.int]
    exact ⟨i, j, rfl, kk.here C (Rep.int_iff.mpr rfl)⟩
theorem br_int : BiR g X (.type "int") .int := by
  refine bi_of call_int1 ?_
  intro W st ds d vs H Q C r e kk
  match ds, e with
  | [.int i], e =>
    obtain ⟨v, rfl, r1⟩ := r.one
    simp only [biD, Option.some.injEq] at e
    subst e
    rw [r1.int]
    exact .inl ⟨i, rfl, kk.here C (Rep.int_iff.mpr rfl)⟩
  | [.bl b], e =>
    obtain ⟨v, rfl, r1⟩ := r.one
    simp only [biD, Option.some.injEq] at e
    subst e
    rw [r1.bl]
    exact .inr ⟨b, rfl, kk.here C (Rep.int_iff.mpr rfl)⟩
theorem br_str : BiR g X (.type "str") .str := by
  refine bi_of call_str_int ?_
  intro W st ds d vs H Q C r e kk
  match ds, e with
  | [.int i], e =>
    obtain ⟨v, rfl, r1⟩ := r.one
    simp only [biD] at e
    split at e
    · rename_i h
      cases e
      rw [r1.int]
      exact ⟨i, rfl, h, kk.here C (Rep.str_iff.mpr rfl)⟩
    · cases e
theorem reps_ints {W : Wd} : ∀ {ds : List D} {vs : List V} {ns : List Int}, RepL g W ds vs → intsD ds = some ns → vs = ns.map V.int
  | [], vs, ns, r, e => by
    simp only [intsD, Option.some.injEq] at e
    subst e
    exact RepL.nil_iff.mp r
  | .int i :: ds, vs, ns, r, e => by
    simp only [intsD] at e
    obtain ⟨ms, e1, e2⟩ := Option.map_eq_some_iff.mp e
    obtain ⟨v, vs', e3, q, l⟩ := RepL.cons_iff.mp r
    rw [e3, Rep.int_iff.mp q, reps_ints l e1, ← e2]; rfl
  | .non :: _, _, _, _, e => by simp [intsD] at e
  | .bl _ :: _, _, _, _, e => by simp [intsD] at e
  | .str _ :: _, _, _, _, e => by simp [intsD] at e
  | .tup _ :: _, _, _, _, e => by simp [intsD] at e
  | .lst _ :: _, _, _, _, e => by simp [intsD] at e
  | .dct _ _ :: _, _, _, _, e => by simp [intsD] at e
  | .obj _ _ :: _, _, _, _, e => by simp [intsD] at e
  | .ref _ :: _, _, _, _, e => by simp [intsD] at e
  | .scr _ :: _, _, _, _, e => by simp [intsD] at e
theorem reps_bools {W : Wd} : ∀ {ds : List D} {vs : List V} {ns : List Bool}, RepL g W ds vs → boolsD ds = some ns → vs = ns.map V.bl
  | [], vs, ns, r, e => by
    simp only [boolsD, Option.some.injEq] at e
    subst e
    exact RepL.nil_iff.mp r
  | .bl i :: ds, vs, ns, r, e => by
    simp only [boolsD] at e
    obtain ⟨ms, e1, e2⟩ := Option.map_eq_some_iff.mp e
    obtain ⟨v, vs', e3, q, l⟩ := RepL.cons_iff.mp r
    rw [e3, Rep.bl_iff.mp q, reps_bools l e1, ← e2]; rfl
  | .non :: _, _, _, _, e => by simp [boolsD] at e
  | .int _ :: _, _, _, _, e => by simp [boolsD] at e
  | .str _ :: _, _, _, _, e => by simp [boolsD] at e
  | .tup _ :: _, _, _, _, e => by simp [boolsD] at e
  | .lst _ :: _, _, _, _, e => by simp [boolsD] at e
  | .dct _ _ :: _, _, _, _, e => by simp [boolsD] at e
  | .obj _ _ :: _, _, _, _, e => by simp [boolsD] at e
  | .ref _ :: _, _, _, _, e => by simp [boolsD] at e
  | .scr _ :: _, _, _, _, e => by simp [boolsD] at e
theorem tup_sum_raw {prog : Program} {w : World} {A : Around} {E : Value → Shared → Prop} {s : Shared} {t : Addr} {its : List Value} {ns : List Int} {Q : Value → Shared → Prop} (hh : A.handled = none) (hl : s.heap.IsTuple t its.toArray) (hi : IntsAre its ns)
    (h : ∀ h' tk t', (∀ b o, s.heap.get? b = some o → h'.get? b = some o) → Q (.int ns.sum t') { s with heap := h', toks := tk }) : wpAny (model prog w) A (call (.builtin "sum") [.ref t]) Q E s := by
  obtain ⟨xs, e⟩ := hi.allInts.items
  have hn : numsOf (intItems xs).toList = ns := by rw [← e]; exact hi.numsOf
  rw [nums_intItems] at hn
  rw [e] at hl
  refine PySem.W.ktm_sumG hh hl fun h' tk t' hk => ?_
  have := h h' tk t' hk
  rw [preSum_eq, List.take_of_length_le (by simp), hn]; exact this
theorem br_sum (hK : X.K = g.K) (hc : X.calm = true) : BiR g X (.builtin "sum") .sum := by
  intro pins s σ H vs us Q I r ⟨W, st, ds, d, C, q, e, kk⟩
  match ds, e with
  | [a], e =>
    obtain ⟨v, rfl, r1⟩ := q.one
    simp only [biD] at e
    cases a <;> (try (simp [D.items] at e; done))
    · simp only [D.items, Option.bind_some] at e
      obtain ⟨ns, e1, e2⟩ := Option.map_eq_some_iff.mp e
      subst e2
      obtain ⟨p, vs, e3, q1, l⟩ := r1.tup C
      subst e3
      have ev := reps_ints l e1
      subst ev
      obtain ⟨u, rfl, rp⟩ := vals1 r
      cases (show u = Value.ref p from rp)
      obtain ⟨its, rv, pl, _⟩ := I.tuple (by rw [hK]; exact q1)
      exact tup_sum_raw (I.ok.hd hc) pl rv.ints fun h' tk t' hk => ⟨.int _, H, I.kept hk, ⟨_, rfl⟩, kk.here C (Rep.int_iff.mpr rfl)⟩
    · simp only [D.items, Option.bind_some] at e
      obtain ⟨ns, e1, e2⟩ := Option.map_eq_some_iff.mp e
      subst e2
      obtain ⟨a, vs, e3, q1, l⟩ := r1.lst C
      subst e3
      exact cr_sum hc pins s σ H _ us Q I r ⟨a, ns, rfl, SqL.of (by rw [← reps_ints l e1]; exact q1), kk.here C (Rep.int_iff.mpr rfl)⟩
  | [], e => simp [biD] at e
  | _ :: _ :: _, e => simp [biD] at e
theorem br_all (hc : X.calm = true) : BiR g X (.builtin "all") .all := by
  refine bi_of (cr_all hc) ?_
  intro W st ds d vs H Q C r e kk
  match ds, e with
  | [.lst es], e =>
    obtain ⟨v, rfl, r1⟩ := r.one
    simp only [biD] at e
    obtain ⟨ns, e1, e2⟩ := Option.map_eq_some_iff.mp e
    subst e2
    obtain ⟨a, vs, e3, q, l⟩ := r1.lst C
    rw [e3]
    exact ⟨a, ns, rfl, SqL.of (by rw [← reps_bools l e1]; exact q), kk.here C (Rep.bl_iff.mpr rfl)⟩
theorem br_any (hc : X.calm = true) : BiR g X (.builtin "any") .any := by
  refine bi_of (cr_any hc) ?_
  intro W st ds d vs H Q C r e kk
  match ds, e with
  | [.lst es], e =>
    obtain ⟨v, rfl, r1⟩ := r.one
    simp only [biD] at e
    obtain ⟨ns, e1, e2⟩ := Option.map_eq_some_iff.mp e
    subst e2
    obtain ⟨a, vs, e3, q, l⟩ := r1.lst C
    rw [e3]
    exact ⟨a, ns, rfl, SqL.of (by rw [← reps_bools l e1]; exact q), kk.here C (Rep.bl_iff.mpr rfl)⟩
theorem br_tuple (hK : X.K = g.K) : BiR g X (.type "tuple") .tuple := by
  refine bi_of call_tuple_of ?_
  intro W st ds d vs H Q C r e kk
  match ds, e with
  | [a], e =>
    obtain ⟨v, rfl, r1⟩ := r.one
    simp only [biD] at e
    cases a <;> (try (simp [D.items] at e; done))
    · simp only [D.items, Option.map_some, Option.some.injEq] at e
      subst e
      obtain ⟨a, vs, e1, q, l⟩ := r1.tup C
      have r1' := r1.not_lst fun _ => by simp
      rw [e1] at r1' ⊢
      exact ⟨a, vs, rfl, .inr ⟨by rw [hK]; exact q, kk.here C r1'⟩⟩
    · simp only [D.items, Option.map_some, Option.some.injEq] at e
      subst e
      obtain ⟨a, vs, e1, q, l⟩ := r1.lst C
      rw [e1]
      exact ⟨a, vs, rfl, .inl ⟨SqL.of q, fun p hp => kk.tup C l p hp⟩⟩
  | [], e => simp [biD] at e
  | _ :: _ :: _, e => simp [biD] at e
theorem br_list (hK : X.K = g.K) : BiR g X (.type "list") .list := by
  refine bi_of call_list_of ?_
  intro W st ds d vs H Q C r e kk
  match ds, e with
  | [a], e =>
    obtain ⟨v, rfl, r1⟩ := r.one
    simp only [biD] at e
    cases a <;> (try (simp [D.items] at e; done))
    · simp only [D.items, Option.map_some, Option.some.injEq] at e
      subst e
      obtain ⟨a, vs, e1, q, l⟩ := r1.tup C
      rw [e1]
      exact ⟨a, vs, rfl, .inr (by rw [hK]; exact q), fun p hp => kk.lst C l p hp⟩
    · simp only [D.items, Option.map_some, Option.some.injEq] at e
      subst e
      obtain ⟨a, vs, e1, q, l⟩ := r1.lst C
      rw [e1]
      exact ⟨a, vs, rfl, .inl (SqL.of q), fun p hp => kk.lst C l p hp⟩
  | [], e => simp [biD] at e
  | _ :: _ :: _, e => simp [biD] at e
end
end Bp
set_option Elab.async false
set_option linter.all false
set_option maxRecDepth 100000
/-! BpBi2: least, greatest, sorted, distinct. -/
namespace Bp
open PySem PySem.Spec PyProof.Rows L2

mutual
theorem py_inj : ∀ (a b : D) (n m : Nat), D.dat n a = true → D.dat m b = true → a.py = b.py → a = b
  | .non, b, n, m, h, k, e => by cases b <;> simp [D.py, D.dat] at h k e ⊢
  | .bl x, b, n, m, h, k, e => by cases b <;> simp [D.py, D.dat] at h k e ⊢; exact e
  | .int i, b, n, m, h, k, e => by cases b <;> simp [D.py, D.dat] at h k e ⊢; exact e
  | .str x, b, n, m, h, k, e => by cases b <;> simp [D.py, D.dat] at h k e ⊢; exact e
  | .tup xs, b, n, m, h, k, e => by
    cases b with
    | tup ys =>
      cases n with
      | zero => simp [D.dat] at h
      | succ n =>
        cases m with
        | zero => simp [D.dat] at k
        | succ m =>
          simp only [D.dat] at h k
          simp only [D.py, PyData.tuple.injEq] at e
          rw [pyL_inj xs ys n m h k e]
    | _ => simp [D.py] at e
  | .lst xs, b, n, m, h, k, e => by
    cases b with
    | lst ys =>
      cases n with
      | zero => simp [D.dat] at h
      | succ n =>
        cases m with
        | zero => simp [D.dat] at k
        | succ m =>
          simp only [D.dat] at h k
          simp only [D.py, PyData.list.injEq] at e
          rw [pyL_inj xs ys n m h k e]
    | _ => simp [D.py] at e
  | .dct _ _, b, n, m, h, k, e => by simp [D.dat] at h
  | .obj _ _, b, n, m, h, k, e => by simp [D.dat] at h
  | .ref _, b, n, m, h, k, e => by simp [D.dat] at h
  | .scr _, b, n, m, h, k, e => by simp [D.dat] at h
theorem pyL_inj : ∀ (xs ys : List D) (n m : Nat), D.datL n xs = true → D.datL m ys = true → D.pyL xs = D.pyL ys → xs = ys
  | [], ys, n, m, h, k, e => by cases ys <;> simp [D.pyL] at e ⊢
  | x :: xs, ys, n, m, h, k, e => by
    cases ys with
    | nil => simp [D.pyL] at e
    | cons y ys =>
      simp only [D.datL, Bool.and_eq_true] at h k
      simp only [D.pyL, List.cons.injEq] at e
      rw [py_inj x y n m h.1 k.1 e.1, pyL_inj xs ys n m h.2 k.2 e.2]
end
theorem datL_mem {n : Nat} {ds : List D} (h : D.datL n ds = true) {d : D} (hd : d ∈ ds) : D.dat n d = true := by
  rw [datL_iff] at h
  exact List.all_eq_true.mp h d hd
structure AllA (ds : List D) : Prop where
  dat : ∀ d ∈ ds, D.dat 40 d = true
  alike : ∀ a ∈ ds, ∀ b ∈ ds, D.alike a b = true
theorem allA_of {ds : List D} (h : allAlike ds = true) : AllA ds := by
  unfold allAlike at h
  obtain ⟨h1, h2⟩ := Bool.and_eq_true_iff.mp h
  refine ⟨fun d hd => datL_mem h1 hd, fun a ha b hb => ?_⟩
  exact List.all_eq_true.mp (List.all_eq_true.mp h2 a ha) b hb
theorem AllA.lt {ds : List D} (h : AllA ds) (hn : ∀ d ∈ ds, d.isNon = false) {a b : D} (ha : a ∈ ds) (hb : b ∈ ds) : PySem.W.dataLt a.py b.py = D.lt a b :=
  lt_py a b 40 40 (h.dat a ha) (h.dat b hb) (h.alike a ha b hb) (hn a ha)
theorem minD_py {S : List D} (h : AllA S) (hn : ∀ d ∈ S, d.isNon = false) : ∀ (xs : List D) (x : D), x ∈ S → (∀ y ∈ xs, y ∈ S) → PySem.W.minD x.py (D.pyL xs) = (Bp.minD x xs).py ∧ Bp.minD x xs ∈ S
  | [], x, hx, _ => ⟨by simp [PySem.W.minD, Bp.minD, D.pyL], by simpa [Bp.minD] using hx⟩
  | y :: ys, x, hx, hs => by
    have hy : y ∈ S := hs y List.mem_cons_self
    have step : ∀ z : D, z ∈ S → PySem.W.minD z.py (D.pyL ys) = (Bp.minD z ys).py ∧ Bp.minD z ys ∈ S := fun z hz => minD_py h hn ys z hz fun q hq => hs q (List.mem_cons_of_mem _ hq)
    simp only [D.pyL, PySem.W.minD, Bp.minD, List.foldl_cons, h.lt hn hy hx]
    by_cases e : D.lt y x = true
    · simp only [e, if_true]; exact step y hy
    · simp only [e, if_false]; exact step x hx
theorem maxD_py {S : List D} (h : AllA S) (hn : ∀ d ∈ S, d.isNon = false) : ∀ (xs : List D) (x : D), x ∈ S → (∀ y ∈ xs, y ∈ S) → PySem.W.maxD x.py (D.pyL xs) = (Bp.maxD x xs).py ∧ Bp.maxD x xs ∈ S
  | [], x, hx, _ => ⟨by simp [PySem.W.maxD, Bp.maxD, D.pyL], by simpa [Bp.maxD] using hx⟩
  | y :: ys, x, hx, hs => by
    have hy : y ∈ S := hs y List.mem_cons_self
    have step : ∀ z : D, z ∈ S → PySem.W.maxD z.py (D.pyL ys) = (Bp.maxD z ys).py ∧ Bp.maxD z ys ∈ S := fun z hz => maxD_py h hn ys z hz fun q hq => hs q (List.mem_cons_of_mem _ hq)
    simp only [D.pyL, PySem.W.maxD, Bp.maxD, List.foldl_cons, h.lt hn hx hy]
    by_cases e : D.lt x y = true
    · simp only [e, if_true]; exact step y hy
    · simp only [e, if_false]; exact step x hx
theorem AllA.non {x : D} {xs : List D} (h : AllA (x :: xs)) (e : x.isNon = false) : ∀ d ∈ x :: xs, d.isNon = false := fun d hd =>
  alike_non (h.alike x List.mem_cons_self d hd) e
theorem mem_pyL {p : PyData} : ∀ {ds : List D}, p ∈ D.pyL ds → ∃ d ∈ ds, d.py = p := by
  intro ds h
  rw [pyL_map] at h
  obtain ⟨d, hd, e⟩ := List.mem_map.mp h
  exact ⟨d, hd, e⟩
theorem AllA.py {x : D} {xs : List D} (h : AllA (x :: xs)) (e : x.isNon = false) : PySem.W.AlikeAll (D.pyL (x :: xs)) := by
  refine ⟨fun p hp q hq => ?_, fun p hp => ?_⟩
  · obtain ⟨a, ha, rfl⟩ := mem_pyL hp
    obtain ⟨b, hb, rfl⟩ := mem_pyL hq
    rw [alike_py a b 40 40 (h.dat a ha) (h.dat b hb)]
    exact h.alike a ha b hb
  · obtain ⟨a, ha, rfl⟩ := mem_pyL hp
    exact not_non (h.dat a ha) (h.non e a ha)
theorem AllA.depth {ds : List D} (h : AllA ds) : PyData.depthAll (D.pyL ds) ≤ 40 := by
  refine (datL_plain ds 40 ?_).2
  rw [datL_iff]
  exact List.all_eq_true.mpr h.dat

section
variable {g : Glob} {X : Cx} {N : List Str} {sc : Scope} {k : Nat} {Wsh : WX} {en : Ent} {cf : Cf}
/-- one of the items -/
theorem item_fin {W : Wd} {st : Store} {H : Hp} {pins : List (Addr × PySem.Obj)} {s : Shared} {σ : L2.St} {Q : VK} {ds : List D} {vs : List V} {its : List Value} {i : Nat} {v : Value} {h' : Heap} {tk : Nat} {bs : List Addr} {d : D}
    (hK : X.K = g.K) (I : Inv X pins σ H s) (C : CellM g W st H) (l : RepL g W ds vs) (rv : Vals vs its) (hv : its[i]? = some v) (keep : ∀ b o, s.heap.get? b = some o → h'.get? b = some o) (hR : PySem.Reads h' v d.py bs)
    (hd : ∀ x ∈ ds, D.dat 40 x = true) (hm : D.dat 40 d = true) (kk : Fin g W st H d Q) : EP X pins σ Q v { s with heap := h', toks := tk } := by
  have hlt : i < vs.length := by
    rw [rv.length]
    exact (List.getElem?_eq_some_iff.mp hv).1
  obtain ⟨u, hu, ru⟩ := rv.get (x := vs[i]) (by rw [List.getElem?_eq_getElem hlt])
  rw [hv] at hu
  cases hu
  obtain ⟨e, he, re⟩ := l.get' (i := i) (v := vs[i]) (by rw [List.getElem?_eq_getElem hlt])
  have hde := hd e (List.mem_of_getElem? he)
  obtain ⟨as, r0⟩ := (RepB.reads (d := e) hK C I hde (.inl re) ru)
  have e2 : e.py = d.py := PySem.SeqAt.plain_unique _ _ v as bs (dat_plain e 40 hde).1 (PyProof.Rows.Reads.keeps keep r0) hR
  have e3 := py_inj e d 40 40 hde hm e2
  subst e3
  exact ⟨vs[i], H, I.kept keep, ru, kk.here C re⟩
theorem br_minl (hK : X.K = g.K) (hc : X.calm = true) (hr : Room k X.A) : BiR g X (.builtin "min") .minl := by
  intro pins s σ H vs us Q I r ⟨W, st, ds, d, C, q, e, kk⟩
  match ds, e with
  | [a], e =>
    obtain ⟨v, rfl, r1⟩ := q.one
    simp only [biD] at e
    have hu := hr.units
    cases a <;> (try (simp [D.items] at e; done))
    · rename_i es
      simp only [D.items] at e
      match es, e, r1 with
      | [], e, r1 => cases e
      | x :: xs, e, r1 =>
        simp only at e
        split at e
        · rename_i hh
          cases e
          obtain ⟨h1, h2⟩ := Bool.and_eq_true_iff.mp hh
          have A := allA_of h1
          have nn : x.isNon = false := by simpa using h2
          obtain ⟨p, vs, e1, q1, l⟩ := r1.tup C
          subst e1
          obtain ⟨u, rfl, rp⟩ := vals1 r
          cases (show u = Value.ref p from rp)
          obtain ⟨its, rv, pl, _⟩ := I.tuple (by rw [hK]; exact q1)
          obtain ⟨as, ra⟩ := Dp.readsAll I (D.pyL (x :: xs)) vs its (by rw [hK]; exact Rep.dpL C.fle _ 40 vs (by rw [datL_iff]; exact List.all_eq_true.mpr A.dat) l) rv
          have mp := minD_py A (A.non nn) xs x List.mem_cons_self fun y hy => List.mem_cons_of_mem _ hy
          refine PySem.W.min_tuple_data (x := x.py) (xs := D.pyL xs) (I.ok.hd hc) (vs := its.toArray) pl (by simpa [D.pyL] using ra) (by simpa [D.pyL] using A.py nn) (by have := A.depth; simp only [D.pyL] at this; omega) ?_
          intro i v h' tk bs hv hR keep
          exact item_fin hK I C l rv (by simpa using hv) keep (by rw [← mp.1]; exact hR) A.dat (A.dat _ mp.2) kk
        · cases e
    · rename_i es
      simp only [D.items] at e
      match es, e, r1 with
      | [], e, r1 => cases e
      | x :: xs, e, r1 =>
        simp only at e
        split at e
        · rename_i hh
          cases e
          obtain ⟨h1, h2⟩ := Bool.and_eq_true_iff.mp hh
          have A := allA_of h1
          have nn : x.isNon = false := by simpa using h2
          obtain ⟨p, vs, e1, q1, l⟩ := r1.lst C
          subst e1
          obtain ⟨u, rfl, rp⟩ := vals1 r
          cases (show u = Value.ref p from rp)
          obtain ⟨its, rv, pl, _⟩ := I.list (SqL.of q1)
          obtain ⟨as, ra⟩ := Dp.readsAll I (D.pyL (x :: xs)) vs its (by rw [hK]; exact Rep.dpL C.fle _ 40 vs (by rw [datL_iff]; exact List.all_eq_true.mpr A.dat) l) rv
          have mp := minD_py A (A.non nn) xs x List.mem_cons_self fun y hy => List.mem_cons_of_mem _ hy
          refine PySem.W.min_list_data (x := x.py) (xs := D.pyL xs) (I.ok.hd hc) (vs := its.toArray) pl.isList (by simpa [D.pyL] using ra) (by simpa [D.pyL] using A.py nn) (by have := A.depth; simp only [D.pyL] at this; omega) ?_
          intro i v h' tk bs hv hR keep
          exact item_fin hK I C l rv (by simpa using hv) keep (by rw [← mp.1]; exact hR) A.dat (A.dat _ mp.2) kk
        · cases e
  | [], e => simp [biD] at e
  | _ :: _ :: _, e => simp [biD] at e
theorem br_maxl (hK : X.K = g.K) (hc : X.calm = true) (hr : Room k X.A) : BiR g X (.builtin "max") .maxl := by
  intro pins s σ H vs us Q I r ⟨W, st, ds, d, C, q, e, kk⟩
  match ds, e with
  | [a], e =>
    obtain ⟨v, rfl, r1⟩ := q.one
    simp only [biD] at e
    have hu := hr.units
    cases a <;> (try (simp [D.items] at e; done))
    · rename_i es
      simp only [D.items] at e
      match es, e, r1 with
      | [], e, r1 => cases e
      | x :: xs, e, r1 =>
        simp only at e
        split at e
        · rename_i hh
          cases e
          obtain ⟨h1, h2⟩ := Bool.and_eq_true_iff.mp hh
          have A := allA_of h1
          have nn : x.isNon = false := by simpa using h2
          obtain ⟨p, vs, e1, q1, l⟩ := r1.tup C
          subst e1
          obtain ⟨u, rfl, rp⟩ := vals1 r
          cases (show u = Value.ref p from rp)
          obtain ⟨its, rv, pl, _⟩ := I.tuple (by rw [hK]; exact q1)
          obtain ⟨as, ra⟩ := Dp.readsAll I (D.pyL (x :: xs)) vs its (by rw [hK]; exact Rep.dpL C.fle _ 40 vs (by rw [datL_iff]; exact List.all_eq_true.mpr A.dat) l) rv
          have mp := maxD_py A (A.non nn) xs x List.mem_cons_self fun y hy => List.mem_cons_of_mem _ hy
          refine PySem.W.max_tuple_data (x := x.py) (xs := D.pyL xs) (I.ok.hd hc) (vs := its.toArray) pl (by simpa [D.pyL] using ra) (by simpa [D.pyL] using A.py nn) (by have := A.depth; simp only [D.pyL] at this; omega) ?_
          intro i v h' tk bs hv hR keep
          exact item_fin hK I C l rv (by simpa using hv) keep (by rw [← mp.1]; exact hR) A.dat (A.dat _ mp.2) kk
        · cases e
    · rename_i es
      simp only [D.items] at e
      match es, e, r1 with
      | [], e, r1 => cases e
      | x :: xs, e, r1 =>
        simp only at e
        split at e
        · rename_i hh
          cases e
          obtain ⟨h1, h2⟩ := Bool.and_eq_true_iff.mp hh
          have A := allA_of h1
          have nn : x.isNon = false := by simpa using h2
          obtain ⟨p, vs, e1, q1, l⟩ := r1.lst C
          subst e1
          obtain ⟨u, rfl, rp⟩ := vals1 r
          cases (show u = Value.ref p from rp)
          obtain ⟨its, rv, pl, _⟩ := I.list (SqL.of q1)
          obtain ⟨as, ra⟩ := Dp.readsAll I (D.pyL (x :: xs)) vs its (by rw [hK]; exact Rep.dpL C.fle _ 40 vs (by rw [datL_iff]; exact List.all_eq_true.mpr A.dat) l) rv
          have mp := maxD_py A (A.non nn) xs x List.mem_cons_self fun y hy => List.mem_cons_of_mem _ hy
          refine PySem.W.max_list_data (x := x.py) (xs := D.pyL xs) (I.ok.hd hc) (vs := its.toArray) pl.isList (by simpa [D.pyL] using ra) (by simpa [D.pyL] using A.py nn) (by have := A.depth; simp only [D.pyL] at this; omega) ?_
          intro i v h' tk bs hv hR keep
          exact item_fin hK I C l rv (by simpa using hv) keep (by rw [← mp.1]; exact hR) A.dat (A.dat _ mp.2) kk
        · cases e
  | [], e => simp [biD] at e
  | _ :: _ :: _, e => simp [biD] at e

/-- what a value of the heap stands for -/
def Stands (g : Glob) (W : Wd) (u : Value) (d : D) : Prop := ∃ v, RelV v u ∧ Rep g W d v
theorem each_of {W : Wd} : ∀ {ds : List D} {vs : List V} {us : List Value}, RepL g W ds vs → Vals vs us → PySem.W.EachIs (Stands g W) us ds
  | [], vs, us, l, r => by
    rw [RepL.nil_iff.mp l] at r
    cases r
    exact .nil
  | d :: ds, vs, us, l, r => by
    obtain ⟨v, vs', e, q, l'⟩ := RepL.cons_iff.mp l
    subst e
    cases r with
    | cons r1 r2 => exact .cons ⟨v, r1, q⟩ (each_of l' r2)
theorem of_each {W : Wd} : ∀ {us : List Value} {ds : List D}, PySem.W.EachIs (Stands g W) us ds → ∃ vs, Vals vs us ∧ RepL g W ds vs
  | _, _, .nil => ⟨[], .nil, RepL.nil⟩
  | _, _, .cons ⟨v, r, q⟩ t => by
    obtain ⟨vs, h1, h2⟩ := of_each t
    exact ⟨v :: vs, .cons r h1, RepL.cons q h2⟩
theorem sortable_py {ds : List D} (h : sortable ds = true) (A : AllA ds) : PySem.W.Sortable (ds.map D.py) := by
  unfold sortable at h
  rcases Bool.or_eq_true_iff.mp h with h | h
  · refine .inl fun p hp => ?_
    obtain ⟨d, hd, rfl⟩ := List.mem_map.mp hp
    have := List.all_eq_true.mp h d hd
    split at this
    · rename_i x xs
      exact ⟨x.py, D.pyL xs, by simp [D.py, D.pyL]⟩
    · cases this
  · refine .inr fun p hp => ?_
    obtain ⟨d, hd, rfl⟩ := List.mem_map.mp hp
    have h2 := List.all_eq_true.mp h d hd
    have h3 := A.dat d hd
    cases d <;> simp [D.py, D.dat] at h2 h3 ⊢
theorem sort_py {ds : List D} (h : sortable ds = true) (A : AllA ds) : ds.mergeSort (PySem.W.dataLe false D.py) = ds.mergeSort leB := by
  refine PySem.W.sort_congr fun a ha b hb => ?_
  rw [PySem.W.dataLe_eq]
  show (!PySem.W.dataLt b.py a.py) = !D.lt b a
  rw [A.lt ?_ hb ha]
  intro d hd
  unfold sortable at h
  rcases Bool.or_eq_true_iff.mp h with h | h
  · have := List.all_eq_true.mp h d hd
    cases d <;> simp [D.isNon] at this ⊢
  · have := List.all_eq_true.mp h d hd
    cases d <;> simp [D.isNon] at this ⊢
theorem br_sorted (hK : X.K = g.K) (hr : Room k X.A) : BiR g X (.builtin "sorted") .sorted := by
  intro pins s σ H vs us Q I r ⟨W, st, ds, d, C, q, e, kk⟩
  match ds, e with
  | [.lst es], e =>
    obtain ⟨v, rfl, r1⟩ := q.one
    simp only [biD] at e
    split at e
    · rename_i hh
      cases e
      obtain ⟨h1, h2⟩ := Bool.and_eq_true_iff.mp hh
      have A := allA_of h1
      obtain ⟨p, vs, e1, q1, l⟩ := r1.lst C
      subst e1
      obtain ⟨u, rfl, rp⟩ := vals1 r
      cases (show u = Value.ref p from rp)
      obtain ⟨its, rv, pl, hz⟩ := I.list (SqL.of q1)
      have hu := hr.units
      have ee := each_of l rv
      refine PySem.W.sorted_data (R := Stands g W) (enc := D.py) (bs := es) (vs := its) pl.isList ee ?_ ?_ (sortable_py h2 A) (by rw [l.len]; exact hz) (fun b hb => ?_) fun out hl ho => ?_
      · exact PySem.W.readsAll_each D.py (Dp.readsAll I (es.map D.py) vs its (by rw [← pyL_map, hK]; exact Rep.dpL C.fle _ 40 vs (by rw [datL_iff]; exact List.all_eq_true.mpr A.dat) l) rv).choose_spec
      · intro a ha b hb
        obtain ⟨x, hx, rfl⟩ := List.mem_map.mp ha
        obtain ⟨y, hy, rfl⟩ := List.mem_map.mp hb
        rw [alike_py x y 40 40 (A.dat x hx) (A.dat y hy)]
        exact A.alike x hx y hy
      · have := (dat_plain b 40 (A.dat b hb)).2
        omega
      · rw [sort_py h2 A] at ho
        obtain ⟨ws, rw1, lw⟩ := of_each ho
        obtain ⟨ep, he'⟩ := PyProof.Rows.sortedAll_at s.heap its out.toArray
        have hn : H (s.heap.objs.size + 1) = none := I.hok.fresh (Nat.le_succ _)
        refine ⟨.ref _, upd H (s.heap.objs.size + 1) (.lst ws), I.laid (t' := s.toks) (fun _ _ => PyProof.Rows.sortedAll_old) (Nat.le_succ _) ⟨?_, out, ep, rw1, he'⟩, rfl, kk.lst C lw _ hn⟩
        rw [rw1.length, hl, l.len]
        exact hz
    · cases e

/-! ### the distinct ones -/
theorem firsts_step (acc : List Int) (k : Int) : (acc.Nodup → (if acc.any (· == k) then acc else acc ++ [k]).Nodup) ∧ ∀ j, j ∈ (if acc.any (· == k) then acc else acc ++ [k]) ↔ j ∈ acc ∨ j = k := by
  by_cases h : acc.any (· == k) = true
  · rw [if_pos h]
    obtain ⟨y, hy, e⟩ := List.any_eq_true.mp h
    have e : y = k := eq_of_beq e
    subst e
    refine ⟨id, fun j => ⟨.inl, fun q => ?_⟩⟩
    rcases q with q | q
    · exact q
    · rw [q]; exact hy
  · rw [if_neg h]
    have nk : k ∉ acc := fun q => h (List.any_eq_true.mpr ⟨k, q, by simp⟩)
    refine ⟨fun nd => ?_, fun j => by simp⟩
    rw [List.nodup_append]
    exact ⟨nd, by simp, fun a ha b hb => by
      have : b = k := by simpa using hb
      subst this
      exact fun z => nk (z ▸ ha)⟩
theorem firsts_spec (ns : List Int) : (firsts ns).Nodup ∧ ∀ j, j ∈ firsts ns ↔ j ∈ ns := by
  have go : ∀ (ns acc : List Int), acc.Nodup → (ns.foldl (fun acc k => if acc.any (· == k) then acc else acc ++ [k]) acc).Nodup ∧ ∀ j, j ∈ ns.foldl (fun acc k => if acc.any (· == k) then acc else acc ++ [k]) acc ↔ j ∈ acc ∨ j ∈ ns := by
    intro ns
    induction ns with
    | nil => intro acc h; exact ⟨h, fun j => by simp⟩
    | cons k ns ih =>
      intro acc h
      obtain ⟨h1, h2⟩ := firsts_step acc k
      obtain ⟨h3, h4⟩ := ih _ (h1 h)
      refine ⟨h3, fun j => ?_⟩
      rw [List.foldl_cons, h4 j, h2 j, List.mem_cons]
      constructor
      · rintro ((q | q) | q) <;> simp [q]
      · rintro (q | q | q) <;> simp [q]
  obtain ⟨h1, h2⟩ := go ns [] List.nodup_nil
  exact ⟨h1, fun j => by unfold firsts; rw [h2 j]; simp⟩
theorem firsts_len {ns ks : List Int} (hk : ks.Nodup) (h : ∀ j, j ∈ ks ↔ j ∈ ns) : ks.length = (firsts ns).length := by
  obtain ⟨h1, h2⟩ := firsts_spec ns
  refine List.Perm.length_eq ((List.perm_ext_iff_of_nodup hk h1).mpr fun j => ?_)
  rw [h j, h2 j]
end
end Bp
set_option Elab.async false
set_option linter.all false
set_option maxRecDepth 100000
/-! BpIx: subscripts, slices, fields, isinstance, len(set(..)), a new cell. -/
namespace Bp
open PySem PySem.Spec PyProof.Rows L2
section
variable {g : Glob} {X : Cx} {N : List Str} {sc : Scope} {k : Nat} {Wsh : WX} {en : Ent} {cf : Cf}

/-! ### subscripts -/
theorem ixN_same (n : Nat) (i : Int) : Bp.ixN n i = L2.ixN n i := rfl
theorem atI_rep {W : Wd} {ds : List D} {vs : List V} {i : Int} {d : D} (r : RepL g W ds vs) (e : Bp.atI ds i = some d) : ∃ v, L2.atI vs i = some v ∧ Rep g W d v := by
  unfold Bp.atI at e
  unfold L2.atI
  rw [← r.len]
  cases q : Bp.ixN ds.length i with
  | none => rw [q] at e; cases e
  | some j =>
    rw [q] at e
    rw [ixN_same] at q
    rw [q]
    exact r.get e
theorem sim_idx {a b : Expr} {ca cb : E} {pos : Pos} {m : Mode} (hm : m.val = true) (hK : X.K = g.K) (ha : PE X a (tsim g en Wsh cf .brw ca)) (hb : PE X b (tsim g en Wsh cf .frz cb)) (hs : PlainIx b) :
    PE X (.Subscript a b pos) (tsim g en Wsh cf m (.idx ca cb)) := by
  refine PE.imp (pe_ix ix_seq ha hb hs) ?_
  rintro σ H Q ⟨W, env, st, M, C, h⟩
  rw [evE, fin_val hm] at h
  refine ⟨W, env, st, M, C, Go.bind h ?_⟩
  rintro dx st1 x W1 H1 - x1 C1 r1 h1
  refine ⟨W1, env, st1, M.ext x1, C1, Go.bind h1 ?_⟩
  rintro dy st2 y W2 H2 - x2 C2 r2 h2
  obtain ⟨d, e, h3⟩ := Go.of h2
  replace r1 := RepB.ext x2 r1
  unfold idxD at e
  cases dy <;> (try (simp at e; done))
  rename_i i
  rw [Rep.int_iff.mp (show Rep g W2 (.int i) y from r2)]
  cases dx <;> (try (simp at e; done))
  · rename_i ds
    obtain ⟨p, vs, e1, q, l⟩ := r1.tup C2
    obtain ⟨v, ev, rv⟩ := atI_rep l e
    rw [e1]
    exact .inr (.inl ⟨p, vs, i, v, rfl, rfl, by rw [hK]; exact q, ev, h3 v W2 H2 .refl C2 (RepM.of hm rv)⟩)
  · rename_i ds
    obtain ⟨p, vs, e1, q, l⟩ := r1.lst C2
    obtain ⟨v, ev, rv⟩ := atI_rep l e
    rw [e1]
    exact .inl ⟨p, vs, i, v, rfl, rfl, SqL.of q, ev, h3 v W2 H2 .refl C2 (RepM.of hm rv)⟩
  · rename_i r
    cases q : st2[r]? with
    | none => simp [q] at e
    | some cl =>
      cases cl with
      | inst c fs => simp [q] at e
      | lst ds =>
        simp only [q] at e
        obtain ⟨p, e1, e2⟩ := Rep.ref_iff.mp (r1.not_lst fun _ => by simp)
        obtain ⟨p', e3, vs, e4, l⟩ := C2.cell r _ q
        rw [e1] at e3
        cases e3
        obtain ⟨v, ev, rv⟩ := atI_rep l e
        rw [e2]
        exact .inl ⟨p, vs, i, v, rfl, rfl, SqL.of e4, ev, h3 v W2 H2 .refl C2 (RepM.of hm rv)⟩
  · rename_i ns
    obtain ⟨p, e1, q⟩ := Rep.scr_iff.mp (r1.not_lst fun _ => by simp)
    obtain ⟨j, e2, e3⟩ := Option.map_eq_some_iff.mp e
    subst e3
    rw [e1]
    have e4 : L2.atI (ns.map V.int) i = some (V.int j) := by
      unfold Bp.atI at e2
      unfold L2.atI
      rw [List.length_map]
      cases q : Bp.ixN ns.length i with
      | none => rw [q] at e2; cases e2
      | some z =>
        rw [q] at e2
        rw [ixN_same] at q
        rw [q]
        show (ns.map V.int)[z]? = _
        rw [List.getElem?_map, show ns[z]? = some j from e2]; rfl
    exact .inl ⟨p, _, i, _, rfl, rfl, by rw [hK]; exact SqL.mono C2.fle q, e4, h3 _ W2 H2 .refl C2 (RepM.of hm (Rep.int_iff.mpr rfl))⟩

/-! ### slices -/
theorem clip_same (n d : Nat) (o : Option Int) : clip n d o = HT.sIx n d o := by
  cases o <;> rfl
theorem cut_rep {W : Wd} {ds : List D} {vs : List V} {lo hi : Option Int} (r : RepL g W ds vs) : RepL g W (cut ds lo hi) (cutV vs lo hi) := by
  unfold cut cutV
  simp only [clip_same]
  rw [r.len]
  exact RepL.take _ (RepL.drop _ r)
theorem cut_whole {α : Type} {xs : List α} {lo hi : Option Int} (h : HT.sIx xs.length 0 lo = 0 ∧ HT.sIx xs.length xs.length hi = xs.length) : cut xs lo hi = xs := by
  unfold cut
  simp only [clip_same]
  rw [h.1, h.2]
  simp
/-- a part of a slice: nothing, or an int -/
def evP (cf : Cf) (b : Bool) (c : E) (env : Env) (st : Store) : Res (Option Int) := if b then partR (evE cf c .frz env st) else .ok none st
def tsimO (g : Glob) (en : Ent) (Wsh : WX) (cf : Cf) (b : Bool) (c : E) : TO := fun σ H Q => ∃ W env st, EnvM g en W env σ H ∧ CellM g W st H ∧ Go g Wsh (fun _ _ d o => o = d) σ W H (evP cf b c env st) Q
theorem PO.imp {e : Option Expr} {t t' : TO} (h : PO X e t) (i : ∀ σ H Q, t' σ H Q → t σ H Q) : PO X e t' := ⟨fun pins s σ H Q I q => h.run pins s σ H Q I (i σ H Q q)⟩
theorem simO_none {c : E} : PO X none (tsimO g en Wsh cf false c) := by
  refine PO.imp po_none ?_
  rintro σ H Q ⟨W, env, st, M, C, h⟩
  exact h none W H .refl C rfl
theorem simO_some {e : Expr} {c : E} (h : PE X e (tsim g en Wsh cf .frz c)) : PO X (some e) (tsimO g en Wsh cf true c) := by
  refine PO.imp (po_some h) ?_
  rintro σ H Q ⟨W, env, st, M, C, h⟩
  refine ⟨W, env, st, M, C, Go.bind (show Go g Wsh (fun _ _ d o => o = d) σ W H (partR (evE cf c .frz env st)) Q from h) ?_⟩
  rintro d st1 v W1 H1 - x1 C1 r1 h1
  cases d <;> (try exact h1.elim)
  rename_i i
  exact ⟨i, Rep.int_iff.mp (show Rep g W1 (.int i) v from r1), h1 (some i) W1 H1 .refl C1 rfl⟩
theorem sim_slc {a : Expr} {lo hi : Option Expr} {bl bh : Bool} {ca cl ch : E} {p2 pos : Pos} {m : Mode} (hm : m.val = true) (hK : X.K = g.K) (ha : PE X a (tsim g en Wsh cf .brw ca)) (hl : PO X lo (tsimO g en Wsh cf bl cl)) (hh : PO X hi (tsimO g en Wsh cf bh ch)) :
    PE X (.Subscript a (.Slice lo hi none p2) pos) (tsim g en Wsh cf m (.slc bl bh ca cl ch)) := by
  refine PE.imp (pe_slice (sl_tupA.or sl_list) ha hl hh) ?_
  rintro σ H Q ⟨W, env, st, M, C, h⟩
  rw [evE, fin_val hm] at h
  refine ⟨W, env, st, M, C, Go.bind h ?_⟩
  rintro dx st1 x W1 H1 - x1 C1 r1 h1
  refine ⟨W1, env, st1, M.ext x1, C1, Go.bind (show Go g Wsh (RepM g m) σ W1 H1 ((evP cf bl cl env st1).bind _) Q from h1) ?_⟩
  rintro l st2 _ W2 H2 - x2 C2 rfl h2
  refine ⟨W2, env, st2, (M.ext x1).ext x2, C2, Go.bind (show Go g Wsh (RepM g m) σ W2 H2 ((evP cf bh ch env st2).bind _) Q from h2) ?_⟩
  rintro u st3 _ W3 H3 - x3 C3 rfl h3
  obtain ⟨d, e, h4⟩ := Go.of h3
  replace r1 := RepB.ext x3 (RepB.ext x2 r1)
  have kk : Fin g W3 st3 H3 d Q := fun v W' H' x C' r => h4 v W' H' x C' (RepM.of hm r)
  unfold slcD at e
  cases dx <;> (try (simp at e; done))
  · rename_i ds
    simp only [Option.some.injEq] at e
    subst e
    obtain ⟨p, vs, e1, q, r⟩ := r1.tup C3
    rw [e1]
    refine .inl ⟨p, vs, rfl, by rw [hK]; exact q, fun hw => ?_, fun _ p hp => kk.tup C3 (cut_rep r) p hp⟩
    have := kk
    rw [← r.len] at hw
    rw [cut_whole hw] at this
    have r1' := r1.not_lst fun _ => by simp
    rw [e1] at r1'
    exact this.here C3 r1'
  · rename_i ds
    simp only [Option.some.injEq] at e
    subst e
    obtain ⟨p, vs, e1, q, r⟩ := r1.lst C3
    rw [e1]
    exact .inr ⟨p, vs, rfl, SqL.of q, fun p hp => kk.lst C3 (cut_rep r) p hp⟩

/-! ### fields -/
/-- a field is no name of a class; its name is no other's -/
structure FldOk (g : Glob) (nc k : Nat) : Prop where
  cl : ∀ c, c < nc → Cls g.K (g.cA c) ∧ NoAttr g.K (g.cA c) (g.at_ k)
  inj : ∀ j, g.at_ j = g.at_ k → j = k
theorem lookup_zip {W : Wd} {at_ : Nat → Str} {k : Nat} (inj : ∀ j, at_ j = at_ k → j = k) : ∀ {ks : List Nat} {ds : List D} {vs : List V} {j : Nat} {d : D}, RepL g W ds vs → ks.idxOf? k = some j → ds[j]? = some d → ∃ v, ((ks.map at_).zip vs).lookup (at_ k) = some v ∧ Rep g W d v
  | [], _, _, _, _, _, e, _ => by simp at e
  | k' :: ks, ds, vs, j, d, r, e, ed => by
    cases ds with
    | nil => simp at ed
    | cons x ds =>
      obtain ⟨v, vs', ev, q, l⟩ := RepL.cons_iff.mp r
      subst ev
      rw [List.idxOf?_cons] at e
      show ∃ v', ((at_ k', v) :: ((ks.map at_).zip vs')).lookup (at_ k) = some v' ∧ _
      rw [List.lookup_cons]
      by_cases hk : k' = k
      · subst hk
        simp at e
        subst e
        simp at ed
        subst ed
        exact ⟨v, by simp, q⟩
      · have hb : (k' == k) = false := by simp [hk]
        rw [hb] at e
        simp only [Bool.false_eq_true, if_false] at e
        obtain ⟨j', e1, e2⟩ := Option.map_eq_some_iff.mp e
        subst e2
        have hb2 : (at_ k == at_ k') = false := by
          simp only [beq_eq_false_iff_ne, ne_eq]
          intro z
          exact hk (inj _ z.symm)
        rw [hb2]
        exact lookup_zip inj l e1 (by simpa using ed)
theorem lookup_F {W : Wd} {k : Nat} (inj : ∀ j, g.at_ j = g.at_ k → j = k) : ∀ {fs : List (Nat × D)} {ws : List (Str × V)} {d : D}, RepF g W fs ws → fs.lookup k = some d → ∃ v, ws.lookup (g.at_ k) = some v ∧ Rep g W d v
  | [], _, _, _, e => by simp at e
  | (j, x) :: fs, ws, d, r, e => by
    obtain ⟨v, ws', ev, q, l⟩ := (show ∃ v fs', ws = (g.at_ j, v) :: fs' ∧ Rep g W x v ∧ RepF g W fs fs' from r)
    subst ev
    rw [List.lookup_cons] at e ⊢
    by_cases hk : k = j
    · subst hk
      simp at e
      subst e
      exact ⟨v, by simp, q⟩
    · have hb : (k == j) = false := by simp [hk]
      rw [hb] at e
      have hb2 : (g.at_ k == g.at_ j) = false := by
        simp only [beq_eq_false_iff_ne, ne_eq]
        intro z
        exact hk (inj _ z.symm).symm
      rw [hb2]
      exact lookup_F inj l e
theorem sim_fld {a : Expr} {ca : E} {pos : Pos} {m : Mode} {kf : Nat} (hm : m.val = true) (hK : X.K = g.K) (hfs : cf.fs = g.fs) (ok : FldOk g cf.nc kf) (ha : PE X a (tsim g en Wsh cf .frz ca)) (hb : attributeBase a (g.at_ kf) X.env (eval a X.env) = eval a X.env) :
    PE X (.Attribute a (g.at_ kf) pos) (tsim g en Wsh cf m (.fld ca kf)) := by
  refine PE.imp (pe_fld ha hb) ?_
  rintro σ H Q ⟨W, env, st, M, C, h⟩
  rw [evE, fin_val hm] at h
  refine ⟨W, env, st, M, C, Go.bind h ?_⟩
  rintro dx st1 x W1 H1 - x1 C1 r1 h1
  obtain ⟨d, e, h3⟩ := Go.of h1
  replace r1 : Rep g W1 dx x := r1
  unfold fldD at e
  rw [hfs] at e
  cases dx <;> (try (simp at e; done))
  · rename_i cc ds
    obtain ⟨p, dx', vs, e1, q, hl, l⟩ := Rep.obj_iff.mp r1
    simp only at e
    by_cases hc : cc < cf.nc
    · rw [if_pos hc] at e
      obtain ⟨j, e2, e3⟩ := Option.bind_eq_some_iff.mp e
      obtain ⟨v, ev, rv⟩ := lookup_zip ok.inj l e2 e3
      obtain ⟨o1, o2⟩ := ok.cl cc hc
      rw [e1]
      exact ⟨p, _, dx', _, v, rfl, C1.fle _ _ q, by rw [hK]; exact o1, by rw [hK]; exact o2, ev, h3 v W1 H1 .refl C1 (RepM.of hm rv)⟩
    · rw [if_neg hc] at e; cases e
  · rename_i r
    cases q : st1[r]? with
    | none => simp [q] at e
    | some cl =>
      cases cl with
      | lst ds => simp [q] at e
      | inst cc fs =>
        simp only [q] at e
        by_cases hc : cc < cf.nc
        · rw [if_pos hc] at e
          obtain ⟨p, e1, e2⟩ := Rep.ref_iff.mp r1
          obtain ⟨p', e3, dx', ws, e4, l⟩ := C1.cell r _ q
          rw [e1] at e3
          cases e3
          obtain ⟨v, ev, rv⟩ := lookup_F ok.inj l e
          obtain ⟨o1, o2⟩ := ok.cl cc hc
          rw [e2]
          exact ⟨p, _, dx', _, v, rfl, e4, by rw [hK]; exact o1, by rw [hK]; exact o2, ev, h3 v W1 H1 .refl C1 (RepM.of hm rv)⟩
        · rw [if_neg hc] at e; cases e

/-! ### isinstance -/
def tyV (g : Glob) : Ty → V
  | .int => .ty "int"
  | .bool => .ty "bool"
  | .str => .ty "str"
  | .tuple => .ty "tuple"
  | .list => .ty "list"
  | .cls c => .ref (g.cA c)
def tyU (g : Glob) : Ty → Value
  | .int => .type "int"
  | .bool => .type "bool"
  | .str => .type "str"
  | .tuple => .type "tuple"
  | .list => .type "list"
  | .cls c => .ref (g.cA c)
def tyOf (g : Glob) : D → Value
  | .non => .type "NoneType"
  | .bl _ => .type "bool"
  | .int _ => .type "int"
  | .str _ => .type "str"
  | .tup _ => .type "tuple"
  | .lst _ => .type "list"
  | .obj c _ => .ref (g.cA c)
  | _ => .none
def Ty.ok (nc : Nat) : Ty → Bool
  | .cls c => decide (c < nc)
  | _ => true
structure IsiOk (g : Glob) (nc : Nat) : Prop where
  cl : ∀ c, c < nc → Cls g.K (g.cA c) ∧ PySem.W.findIn g.K (.ref (g.cA c)) "__class__" = some (some (.builtin "object.__class__")) ∧ PySem.W.mroIn g.K (g.cA c) (.type "object") = some true
  gs : PySem.W.specialIn g.K (.builtin "object.__class__") "__get__" = some (some (.builtin "getset_descriptor.__get__"))
  tk : PySem.W.takesIn g.K (.builtin "object.__class__") = some true
  kit : ∀ d t, isD nc d = true → Ty.ok nc t = true → PySem.W.kitOne g.K (tyOf g d) (tyU g t) = some (t.has d)
theorem tyV_cls (t : Ty) : ClsV (tyV g t) (tyU g t) := by
  cases t <;> first | exact ClsV.ty _ | exact ClsV.own _
theorem tyX_of {W : Wd} {st : Store} {H : Hp} {d : D} {v : V} {nc : Nat} (ok : IsiOk g nc) (C : CellM g W st H) (hd : isD nc d = true) (r : RepB g W H d v) : TyX g.K H v (tyOf g d) := by
  cases d with
  | non => rw [r.non]; exact .base .non
  | bl b => rw [r.bl]; exact .base (.bl _)
  | int i => rw [r.int]; exact .base (.int _)
  | str s => rw [r.str]; exact .base (.str _)
  | tup ds =>
    obtain ⟨a, vs, e1, q, l⟩ := r.tup C
    rw [e1]
    rcases q with q | q
    · rcases q with q | ⟨o, q⟩
      · exact .base (.tup q)
      · exact .fTuple q
    · obtain ⟨o, its, n, e, hc, _⟩ := q
      exact .kTuple e hc
  | lst ds =>
    obtain ⟨a, vs, e1, q, l⟩ := r.lst C
    rw [e1]
    exact .base (.lst q)
  | obj c ds =>
    obtain ⟨p, dx', vs, e1, q, hl, l⟩ := Rep.obj_iff.mp (r.not_lst fun _ => by simp)
    have hc : c < nc := of_decide_eq_true hd
    obtain ⟨o1, o2, o3⟩ := ok.cl c hc
    rw [e1]
    exact .base (.ins (C.fle _ _ q) o1 o2 ok.gs ok.tk o3)
  | _ => cases hd
theorem isi_end {ca : E} {ts : List Ty} {m : Mode} (hm : m.val = true) {σ : L2.St} {H : Hp} {Q : VK} {W : Wd} {env : Env} {st : Store} (M : EnvM g en W env σ H) (C : CellM g W st H) (h : Go g Wsh (RepM g m) σ W H (evE cf (.isi ca ts) m env st) Q)
    {P : V → Hp → Prop} (step : ∀ d st1 v W1 H1, CellM g W1 st1 H1 → RepB g W1 H1 d v → isD cf.nc d = true → (∀ H', (∃ W', Ext W1 H1 W' H' ∧ CellM g W' st1 H') → Q (.bl (ts.any fun t => t.has d)) H') → P v H1) :
    tsim g en Wsh cf .brw ca σ H P := by
  rw [evE, fin_val hm] at h
  refine ⟨W, env, st, M, C, Go.bind h ?_⟩
  rintro d st1 v W1 H1 - x1 C1 r1 h1
  cases hd : isD cf.nc d with
  | false => rw [hd] at h1; exact h1.elim
  | true =>
    rw [hd, if_pos rfl] at h1
    exact step d st1 v W1 H1 C1 r1 hd fun H' ⟨W', x, c⟩ => h1 _ W' H' x c (RepM.of hm (Rep.bl_iff.mpr rfl))
theorem sim_isi {a T : Expr} {ca : E} {t : Ty} {p pos : Pos} {m : Mode} (hm : m.val = true) (c : Ctx g X N sc k Wsh) (ok : IsiOk g cf.nc) (ht : Ty.ok cf.nc t = true) (ha : PE X a (tsim g en Wsh cf .brw ca)) (hT : PE X T (tC (tyV g t)))
    (hg : sc.names.lookup ("isinstance" : Str) = some .globalImplicit) (hmg : g.mg "isinstance" = none) (h1 : starEach [a, T] X.env = (false, eval a X.env) :: starEach [T] X.env) (h2 : starEach [T] X.env = (false, eval T X.env) :: starEach [] X.env) :
    PE X (.Call (.Name "isinstance" p) [a, T] [] pos) (tsim g en Wsh cf m (.isi ca [t])) := by
  have hpl : (backTo pos (starEach [T] X.env)).any (·.1) = false := by rw [h2]; rfl
  refine PE.imp (pe_callB call_isi (by show X.env.scope.names.lookup ("isinstance" : Str) = _; rw [c.hsc]; exact hg) (by rw [c.hmg]; exact hmg) boot_isinstance (pa_cons ha (pa_cons hT pa_nil h2) h1) (by decide) (by decide) h1 hpl) ?_
  rintro σ H Q ⟨W, env, st, M, C, h⟩
  refine isi_end hm M C h ?_
  intro d st1 v W1 H1 C1 r1 hd q
  refine ⟨v, tyV g t, tyOf g d, tyU g t, t.has d, rfl, tyV_cls t, ?_, ?_, ?_⟩
  · rw [c.hK]; exact tyX_of ok C1 hd r1
  · rw [c.hK]; exact ok.kit d t hd ht
  · have := q H1 ⟨W1, .refl, C1⟩
    simpa using this
theorem kit_any {nc : Nat} (ok : IsiOk g nc) {d : D} (hd : isD nc d = true) : ∀ {ts : List Ty}, (ts.all fun t => Ty.ok nc t) = true → PySem.W.kitAny g.K (tyOf g d) (ts.map (tyU g)) = some (ts.any fun t => t.has d)
  | [], _ => kitAny_nil
  | t :: ts, h => by
    rw [List.all_cons, Bool.and_eq_true] at h
    have ih := kit_any ok hd h.2
    rw [List.map_cons]
    refine kitAny_cons (ok.kit d t hd h.1) (fun e => ?_) (fun e => ?_)
    · rw [ih, List.any_cons, e, Bool.false_or]
    · rw [List.any_cons, e, Bool.true_or]
theorem cls_all : ∀ ts : List Ty, Paired ClsV (ts.map (tyV g)) (ts.map (tyU g))
  | [] => .nil
  | t :: ts => .cons (tyV_cls t) (cls_all ts)
def tCs (vs : List V) : TA := fun _ H Q => Q vs H
theorem sim_isiT {a : Expr} {Ts : List Expr} {ca : E} {ts : List Ty} {p p2 pos : Pos} {j : Nat} {m : Mode} (hm : m.val = true) (c : Ctx g X N sc k Wsh) (ok : IsiOk g cf.nc) (ht : (ts.all fun t => Ty.ok cf.nc t) = true) (hl : ts.length ≤ 1000) (ha : PE X a (tsim g en Wsh cf .brw ca)) (hT : PA X Ts (tCs (ts.map (tyV g))))
    (hg : sc.names.lookup ("isinstance" : Str) = some .globalImplicit) (hmg : g.mg "isinstance" = none) (h1 : starEach [a, .Tuple Ts j p2] X.env = (false, eval a X.env) :: starEach [.Tuple Ts j p2] X.env) (h2 : starEach [.Tuple Ts j p2] X.env = (false, eval (.Tuple Ts j p2) X.env) :: starEach [] X.env) :
    PE X (.Call (.Name "isinstance" p) [a, .Tuple Ts j p2] [] pos) (tsim g en Wsh cf m (.isi ca ts)) := by
  have hpl : (backTo pos (starEach [.Tuple Ts j p2] X.env)).any (·.1) = false := by rw [h2]; rfl
  refine PE.imp (pe_callB call_isiT (by show X.env.scope.names.lookup ("isinstance" : Str) = _; rw [c.hsc]; exact hg) (by rw [c.hmg]; exact hmg) boot_isinstance (pa_cons ha (pa_cons (pe_tup hT) pa_nil h2) h1) (by decide) (by decide) h1 hpl) ?_
  rintro σ H Q ⟨W, env, st, M, C, h⟩
  refine isi_end hm M C h ?_
  intro d st1 v W1 H1 C1 r1 hd q
  refine ⟨by rw [List.length_map, sizeLine_eq]; omega, fun p hp => ?_⟩
  refine ⟨v, p, ts.map (tyV g), tyOf g d, ts.map (tyU g), _, rfl, upd_same, cls_all ts, ?_, ?_, q _ ⟨W1, ext_upd hp, C1.upd hp⟩⟩
  · rw [c.hK]
    exact tyX_of ok (C1.upd hp) hd (RepB.ext (ext_upd hp) r1)
  · rw [c.hK]; exact kit_any ok hd ht
end
end Bp
set_option Elab.async false
set_option linter.all false
set_option maxRecDepth 100000
/-! BpCall: calls of defs, of methods; new instances. -/
namespace Bp
open PySem PySem.Spec PyProof.Rows L2

/-- what a def promises: its answer, as the program tells it -/
def spOf (g : Glob) (cl : List D → Store → Res D) (np : Nat) : Sp := fun vs H Q E => ∃ W st ds, CellM g W st H ∧ RepL g W ds vs ∧ ds.length = np ∧ Go g (fun cls d _ H' => E cls d H') (RepM g .frz) [] W H (cl ds st) Q
theorem spOf_len {g : Glob} {cl : List D → Store → Res D} {np : Nat} {ps : List Str} (h : ps.length = np) : ∀ vs H Q E, spOf g cl np vs H Q E → vs.length = ps.length := by
  rintro vs H Q E ⟨W, st, ds, C, r, hl, _⟩
  rw [← r.len, hl, h]
theorem bind_ok_iff {α β : Type} {r : Res α} {k : α → Store → Res β} {b : β} {st' : Store} (h : r.bind k = .ok b st') : ∃ a st, r = .ok a st ∧ k a st = .ok b st' := by
  cases r with
  | ok a st => exact ⟨a, st, rfl, h⟩
  | exc c d st => cases h
  | bad => cases h
theorem evEs_len {cf : Cf} : ∀ (cs : List E) (env : Env) (st : Store) (ds : List D) (st1 : Store), evEs cf cs env st = .ok ds st1 → ds.length = cs.length
  | [], env, st, ds, st1, h => by rw [evEs] at h; cases h; rfl
  | c :: cs, env, st, ds, st1, h => by
    rw [evEs] at h
    obtain ⟨d, s, q, h⟩ := bind_ok_iff h
    obtain ⟨ds', s', q2, h⟩ := bind_ok_iff h
    cases h
    rw [List.length_cons, List.length_cons, evEs_len cs _ _ _ _ q2]
/-- Go with another wish -/
theorem Go.imp {g : Glob} {α β : Type} {Wsh Wsh' : WX} {R R' : Wd → Hp → α → β → Prop} {σ σ' : L2.St} {W : Wd} {H : Hp} {r : Res α} {Q Q' : β → Hp → Prop} (h : Go g Wsh R σ W H r Q) (hw : ∀ c d H, Wsh c d σ H → Wsh' c d σ' H) (hq : ∀ d st v W' H', Ext W H W' H' → CellM g W' st H' → R' W' H' d v → R W' H' d v ∧ (Q v H' → Q' v H')) : Go g Wsh' R' σ' W H r Q' := by
  cases r with
  | ok d st => intro v W' H' x c q; obtain ⟨h1, h2⟩ := hq d st v W' H' x c q; exact h2 (h v W' H' x c h1)
  | exc k d st => exact fun dx v W' H' x c q z => hw _ _ _ (h dx v W' H' x c q z)
  | bad => exact h
/-- a def that stands at a module's name -/
structure DefOk (g : Glob) (cl : List D → Store → Res D) (np k : Nat) (fA : Addr) : Prop where
  kp : PySem.W.keepIn g.K (.ref fA) = true
  ok : ∃ fd ps, Binds g.K fd ps [] ∧ ps.length = np ∧ FnOk g.P g.w g.K g.mg g.base (L2.CX g.P g.w) k fA fd ps (spOf g cl np)
section
variable {g : Glob} {X : Cx} {N : List Str} {sc : Scope} {k : Nat} {Wsh : WX} {en : Ent} {cf : Cf}
theorem sim_call {x : Str} {f : Nat} {fA : Addr} {np : Nat} {p pos : Pos} {e : Expr} {es : List Expr} {cs : List E} {m : Mode} (hm : m.val = true) (c : Ctx g X N sc k Wsh) (F : DefOk g (cf.cl f) np k fA) (hl : cs.length = np) (hg : sc.names.lookup x = some .globalImplicit) (hmg : g.mg x = some (.ref fA)) (hdb : (x == ("__debug__" : Str)) = false)
    (ha : PA X (e :: es) (tsims g en Wsh cf cs)) (he : starEach (e :: es) X.env = (false, eval e X.env) :: starEach es X.env) (hpl : (backTo pos (starEach es X.env)).any (·.1) = false) :
    PE X (.Call (.Name x p) (e :: es) [] pos) (tsim g en Wsh cf m (.call f cs)) := by
  obtain ⟨kp, fd, ps, hb, hps, ok⟩ := F
  have ok' : FnOk X.prog X.w X.K X.mg X.base (L2.CX X.prog X.w) k fA fd ps (spOf g (cf.cl f) np) := by
    rw [c.hP, c.hw, c.hK, c.hmg, c.hbase]; exact ok
  refine PE.imp (pe_callS (E := WE Wsh) ok' c.hroom (by show X.env.scope.names.lookup x = _; rw [c.hsc]; exact hg) (by rw [c.hmg]; exact hmg) (by rw [c.hK]; exact kp) (by rw [c.hK]; exact hb) (fun σ => passAt c.htk σ) ha hdb he hpl) ?_
  rintro σ H Q ⟨W, env, st, M, C, h⟩
  rw [evE, fin_val hm] at h
  refine ⟨W, env, st, M, C, Go.bind h ?_⟩
  rintro ds st1 vs W1 H1 hq x1 C1 r1 h1
  refine ⟨W1, st1, ds, C1, r1, ?_, h1.imp (fun _ _ _ h => h) fun d st v W' H' x c r => ⟨RepM.of hm r, fun q => q⟩⟩
  rw [evEs_len _ _ _ _ _ hq, hl]

/-! ### making, errors let out -/
end
end Bp
namespace L2
open PySem PySem.Spec PyProof.Rows
section
variable {X : Cx} {CX : CXT} {k : Nat} {f C : Addr} {fd : FuncData} {ps : List Str} {sp : Sp} {E : L2.St → XK} {x : Str} {p pos : Pos} {e : Expr} {es : List Expr} {t : TA}
theorem run_makeS {pins : List (Addr × PySem.Obj)} {σ : L2.St} {H : Hp} {s : Shared} {Q : VK} {us : List Value} {vs : List V} (M : Mk X.K C f) (F : FnOk X.prog X.w X.K X.mg X.base CX k f fd ps sp) (hr : Room (k + 1) X.A) (hb : Binds X.K fd ps [])
    (hx : PassesAt CX X σ (E σ)) (I : Inv X pins σ H s) (r : Vals vs us)
    (h : ∀ x dx, H x = none → H dx = none → dx ≠ x → sp (.ref x :: vs) (upd (upd H dx (.own x)) x (.ins C dx [])) (fun v H2 => v = .non ∧ Q (.ref x) H2) (E σ)) :
    wpAny (model X.prog X.w) X.A (call (.ref C) us) (EP X pins σ Q) X.xe s := by
  have hq := h (s.heap.objs.size + 1) s.heap.objs.size (I.hok.fresh (Nat.le_succ _)) (I.hok.fresh (Nat.le_refl _)) (Nat.ne_of_lt (Nat.lt_succ_self _))
  have I2 := Inv.made (C := C) I
  have r2 : Vals (V.ref (s.heap.objs.size + 1) :: vs) (Value.ref (s.heap.objs.size + 1) :: us) := .cons rfl r
  have hl : (Value.ref (s.heap.objs.size + 1) :: us ++ []).length = ps.length := by
    have e := r2.length
    rw [F.len _ _ _ _ hq] at e
    rw [List.append_nil]
    exact e.symm
  have hbb := hb _ (Value.ref (s.heap.objs.size + 1) :: us) I2.kIn hl
  rw [List.append_nil] at hbb
  refine wpAny_call (make_map (f := f) I.kIn M.makes M.init (beq_iff_eq.mp M.fn) (codeAny_mono (F.run _ X.stack _ _ ⟨Value.ref (s.heap.objs.size + 1) :: us, []⟩ (Value.ref (s.heap.objs.size + 1) :: us) _ _ (E σ) (hr.make C us [])
    (I2.env0.make C us []) hbb r2 hq) fun r s' hq' => ?_))
  cases r with
  | error e => exact hx pins _ _ e s' I2 hq'
  | ok fl =>
    cases fl with
    | ret u =>
      obtain ⟨v, H', I3, rv, ev, q3⟩ := I2.after hq'
      subst ev
      exact ⟨rv, ⟨V.ref (s.heap.objs.size + 1), H', I3, rfl, q3⟩⟩
    | next => exact False.elim hq'
    | brk => exact False.elim hq'
    | cont => exact False.elim hq'
def tMakeS (C : Addr) (sp : Sp) (E : L2.St → XK) (t : TA) : TE := fun σ H Q => t σ H fun vs H1 => ∀ x dx, H1 x = none → H1 dx = none → dx ≠ x → sp (.ref x :: vs) (upd (upd H1 dx (.own x)) x (.ins C dx [])) (fun v H2 => v = .non ∧ Q (.ref x) H2) (E σ)
theorem pe_makeS (M : Mk X.K C f) (F : FnOk X.prog X.w X.K X.mg X.base CX k f fd ps sp) (hr : Room (k + 1) X.A) (hg : Gl X x) (hm : X.mg x = some (.ref C)) (hb : Binds X.K fd ps []) (hx : ∀ σ, PassesAt CX X σ (E σ))
    (ha : PA X (e :: es) t) (hdb : (x == ("__debug__" : Str)) = false := by decide) (he : starEach (e :: es) X.env = (false, eval e X.env) :: starEach es X.env := by rfl) (hpl : (backTo pos (starEach es X.env)).any (·.1) = false := by rfl) :
    PE X (.Call (.Name x p) (e :: es) [] pos) (tMakeS C sp E t) := by
  refine ⟨fun pins s σ H Q I h => ?_⟩
  refine wpAny_Call_Name_kw (ld_glob I hg hm ?_ hdb)
  refine PySem.W.callWith_K (h₀ := X.base) I.ok.mod.kin M.kp (thn (ha.run pos pins s σ H _ I h) fun us s1 ⟨vs, H1, I1, r, q⟩ => ⟨I1.kIn, ?_⟩) he hpl
  exact run_makeS M F hr hb (hx σ) I1 r q
end
end L2
namespace Bp
open PySem PySem.Spec PyProof.Rows L2
section
variable {g : Glob} {X : Cx} {N : List Str} {sc : Scope} {k : Nat} {Wsh : WX} {en : Ent} {cf : Cf}
/-! ### new instances -/
theorem ext_self {W : Wd} {st : Store} {H : Hp} {x dx : Addr} {c : Nat} (C : CellM g W st H) (hx : H x = none) (hd : H dx = none) (hne : dx ≠ x) :
    Ext W H ⟨W.F, W.α ++ [x]⟩ (upd (upd H dx (.own x)) x (.ins (g.cA c) dx [])) ∧ CellM g ⟨W.F, W.α ++ [x]⟩ (st ++ [.inst c []]) (upd (upd H dx (.own x)) x (.ins (g.cA c) dx [])) := by
  have le : Wle W ⟨W.F, W.α ++ [x]⟩ := ⟨fun _ _ h => h, List.prefix_append _ _⟩
  have same : ∀ b u, H b = some u → upd (upd H dx (.own x)) x (.ins (g.cA c) dx []) b = some u := fun b u e => by
    rw [upd_ne (ne_of_none e hx), upd_ne (ne_of_none e hd)]; exact e
  refine ⟨⟨le, fun a o e _ => same a o e, fun _ _ _ _ z => z, fun a h => ?_⟩, ⟨fun a o e => same a o (C.fle a o e), ?_, ?_, fun a h => ?_, fun i k e => ?_⟩⟩
  · rcases List.mem_append.mp h with h | h
    · exact .inl h
    · rw [List.mem_singleton.mp h]; exact .inr hx
  · rw [List.length_append, List.length_append, C.len]; rfl
  · refine List.nodup_append.mpr ⟨C.nd, by simp, fun a ha b hb => ?_⟩
    rw [List.mem_singleton.mp hb]
    intro z
    subst z
    exact C.anone hx ha
  · rcases List.mem_append.mp h with h | h
    · exact C.nf a h
    · rw [List.mem_singleton.mp h]; exact C.fnone hx
  · by_cases hi : i < st.length
    · rw [List.getElem?_append_left hi] at e
      obtain ⟨a, e1, r⟩ := C.cell i k e
      refine ⟨a, prefix_get (List.prefix_append _ _) e1, r.ext le ?_⟩
      cases k with
      | lst ds => obtain ⟨vs, q, _⟩ := r; rw [q]; exact same a _ q
      | inst c' fs => obtain ⟨dx', fs', q, _⟩ := r; rw [q]; exact same a _ q
    · have hi2 : i = st.length := by
        have := (List.getElem?_eq_some_iff.mp e).1
        rw [List.length_append] at this
        simp at this
        omega
      subst hi2
      rw [List.getElem?_append_right (Nat.le_refl _)] at e
      simp at e
      subst e
      refine ⟨x, by rw [← C.len, List.getElem?_append_right (Nat.le_refl _)]; simp, dx, [], upd_same, rfl⟩

/-! ### freezing -/
mutual
/-- every cell that it names is below n -/
def D.rlt (n : Nat) : D → Bool
  | .tup ds => D.rltL n ds
  | .lst ds => D.rltL n ds
  | .dct xs ys => D.rltL n xs && D.rltL n ys
  | .obj _ ds => D.rltL n ds
  | .ref i => decide (i < n)
  | .non => true
  | .bl _ => true
  | .int _ => true
  | .str _ => true
  | .scr _ => true
def D.rltL (n : Nat) : List D → Bool
  | [] => true
  | d :: ds => D.rlt n d && D.rltL n ds
end
mutual
theorem noref_rlt (n : Nat) : ∀ d : D, d.noref = true → d.rlt n = true
  | .tup ds, h => by simp only [D.noref] at h; simp only [D.rlt]; exact norefL_rlt n ds h
  | .lst ds, h => by simp only [D.noref] at h; simp only [D.rlt]; exact norefL_rlt n ds h
  | .dct xs ys, h => by
    simp only [D.noref, Bool.and_eq_true] at h
    simp only [D.rlt, norefL_rlt n xs h.1, norefL_rlt n ys h.2, Bool.and_self]
  | .obj _ ds, h => by simp only [D.noref] at h; simp only [D.rlt]; exact norefL_rlt n ds h
  | .ref i, h => by simp [D.noref] at h
  | .non, h => by simp [D.rlt]
  | .bl _, h => by simp [D.rlt]
  | .int _, h => by simp [D.rlt]
  | .str _, h => by simp [D.rlt]
  | .scr _, h => by simp [D.rlt]
theorem norefL_rlt (n : Nat) : ∀ ds : List D, D.norefL ds = true → D.rltL n ds = true
  | [], h => by simp [D.rltL]
  | d :: ds, h => by
    simp only [D.norefL, Bool.and_eq_true] at h
    simp only [D.rltL, noref_rlt n d h.1, norefL_rlt n ds h.2, Bool.and_self]
end
mutual
theorem Rep.rlt {W : Wd} : ∀ (d : D) (v : V), Rep g W d v → d.rlt W.α.length = true
  | .tup ds, v, h => by
    obtain ⟨a, vs, _, _, l⟩ := Rep.tup_iff.mp h
    simp only [D.rlt]; exact RepL.rlt ds vs l
  | .lst ds, v, h => by
    obtain ⟨a, vs, _, _, l⟩ := Rep.lst_iff.mp h
    simp only [D.rlt]; exact RepL.rlt ds vs l
  | .dct xs ys, v, h => by unfold Rep at h; exact h.elim
  | .obj _ ds, v, h => by
    obtain ⟨a, dx, vs, _, _, _, l⟩ := Rep.obj_iff.mp h
    simp only [D.rlt]; exact RepL.rlt ds vs l
  | .ref i, v, h => by
    obtain ⟨a, e, _⟩ := Rep.ref_iff.mp h
    simp only [D.rlt, decide_eq_true_eq]; exact (List.getElem?_eq_some_iff.mp e).1
  | .non, v, h => by simp [D.rlt]
  | .bl _, v, h => by simp [D.rlt]
  | .int _, v, h => by simp [D.rlt]
  | .str _, v, h => by simp [D.rlt]
  | .scr _, v, h => by simp [D.rlt]
theorem RepL.rlt {W : Wd} : ∀ (ds : List D) (vs : List V), RepL g W ds vs → D.rltL W.α.length ds = true
  | [], vs, h => by simp [D.rltL]
  | d :: ds, vs, h => by
    obtain ⟨v, vs', _, q, l⟩ := RepL.cons_iff.mp h
    simp only [D.rltL, Rep.rlt d v q, RepL.rlt ds vs' l, Bool.and_self]
end
mutual
theorem Rep.down {W W' : Wd} {n : Nat} (hf : ∀ a o, W.F a = some o → W'.F a = some o) (ha : ∀ i a, i < n → W.α[i]? = some a → W'.α[i]? = some a) : ∀ (d : D) (v : V), d.rlt n = true → Rep g W d v → Rep g W' d v
  | .tup ds, v, hr, h => by
    simp only [D.rlt] at hr
    obtain ⟨a, vs, e, q, l⟩ := Rep.tup_iff.mp h
    exact Rep.tup_iff.mpr ⟨a, vs, e, SqT.mono hf q, RepL.down hf ha ds vs hr l⟩
  | .lst ds, v, hr, h => by
    simp only [D.rlt] at hr
    obtain ⟨a, vs, e, q, l⟩ := Rep.lst_iff.mp h
    exact Rep.lst_iff.mpr ⟨a, vs, e, hf _ _ q, RepL.down hf ha ds vs hr l⟩
  | .dct xs ys, v, hr, h => by unfold Rep at h; exact h.elim
  | .obj c ds, v, hr, h => by
    simp only [D.rlt] at hr
    obtain ⟨a, dx, vs, e, q, hl, l⟩ := Rep.obj_iff.mp h
    exact Rep.obj_iff.mpr ⟨a, dx, vs, e, hf _ _ q, hl, RepL.down hf ha ds vs hr l⟩
  | .ref i, v, hr, h => by
    simp only [D.rlt, decide_eq_true_eq] at hr
    obtain ⟨a, e, q⟩ := Rep.ref_iff.mp h
    exact Rep.ref_iff.mpr ⟨a, ha i a hr e, q⟩
  | .non, v, hr, h => by unfold Rep at h ⊢; exact h
  | .bl _, v, hr, h => by unfold Rep at h ⊢; exact h
  | .int _, v, hr, h => by unfold Rep at h ⊢; exact h
  | .str _, v, hr, h => by unfold Rep at h ⊢; exact h
  | .scr _, v, hr, h => by
    obtain ⟨a, e, q⟩ := Rep.scr_iff.mp h
    exact Rep.scr_iff.mpr ⟨a, e, SqL.mono hf q⟩
theorem RepL.down {W W' : Wd} {n : Nat} (hf : ∀ a o, W.F a = some o → W'.F a = some o) (ha : ∀ i a, i < n → W.α[i]? = some a → W'.α[i]? = some a) : ∀ (ds : List D) (vs : List V), D.rltL n ds = true → RepL g W ds vs → RepL g W' ds vs
  | [], vs, hr, h => RepL.nil_iff.mpr (RepL.nil_iff.mp h)
  | d :: ds, vs, hr, h => by
    simp only [D.rltL, Bool.and_eq_true] at hr
    obtain ⟨v, vs', e, q, l⟩ := RepL.cons_iff.mp h
    subst e
    exact RepL.cons (Rep.down hf ha d v hr.1 q) (RepL.down hf ha ds vs' hr.2 l)
end
theorem RepF.down {W W' : Wd} {n : Nat} (hf : ∀ a o, W.F a = some o → W'.F a = some o) (ha : ∀ i a, i < n → W.α[i]? = some a → W'.α[i]? = some a) : ∀ (fs : List (Nat × D)) (ws : List (Str × V)), D.rltL n (fs.map (·.2)) = true → RepF g W fs ws → RepF g W' fs ws
  | [], ws, hr, h => h
  | (k, d) :: fs, ws, hr, h => by
    simp only [List.map_cons, D.rltL, Bool.and_eq_true] at hr
    obtain ⟨v, ws', e, q, l⟩ := (show ∃ v fs', ws = (g.at_ k, v) :: fs' ∧ Rep g W d v ∧ RepF g W fs fs' from h)
    exact ⟨v, ws', e, Rep.down hf ha d v hr.1 q, RepF.down hf ha fs ws' hr.2 l⟩
theorem RepF.rlt {W : Wd} : ∀ (fs : List (Nat × D)) (ws : List (Str × V)), RepF g W fs ws → D.rltL W.α.length (fs.map (·.2)) = true
  | [], ws, h => by simp [D.rltL]
  | (k, d) :: fs, ws, h => by
    obtain ⟨v, ws', e, q, l⟩ := (show ∃ v fs', ws = (g.at_ k, v) :: fs' ∧ Rep g W d v ∧ RepF g W fs fs' from h)
    simp only [List.map_cons, D.rltL, Rep.rlt d v q, RepF.rlt fs ws' l, Bool.and_self]
theorem RepF.names {W : Wd} : ∀ (fs : List (Nat × D)) (ws : List (Str × V)), RepF g W fs ws → ws = ((fs.map (·.1)).map g.at_).zip (ws.map (·.2)) ∧ RepL g W (fs.map (·.2)) (ws.map (·.2))
  | [], ws, h => by
    have e : ws = [] := h
    subst e
    exact ⟨rfl, RepL.nil⟩
  | (k, d) :: fs, ws, h => by
    obtain ⟨v, ws', e, q, l⟩ := (show ∃ v fs', ws = (g.at_ k, v) :: fs' ∧ Rep g W d v ∧ RepF g W fs fs' from h)
    obtain ⟨h1, h2⟩ := RepF.names fs ws' l
    subst e
    refine ⟨?_, RepL.cons q h2⟩
    show (g.at_ k, v) :: ws' = (g.at_ k, v) :: ((fs.map (·.1)).map g.at_).zip (ws'.map (·.2))
    rw [← h1]
/-- the new cells freeze -/
theorem freeze {W W2 : Wd} {H H2 : Hp} {st st2 : Store} {x dx : Addr} {c : Nat} {fs : List (Nat × D)} {ds : List D} (C : CellM g W st H) (hx : H x = none) (hd : H dx = none) (hne : dx ≠ x)
    (x2 : Ext ⟨W.F, W.α ++ [x]⟩ (upd (upd H dx (.own x)) x (.ins (g.cA c) dx [])) W2 H2) (C2 : CellM g W2 st2 H2) (ht : st2.take st.length = st) (hi : st2[st.length]? = some (.inst c fs)) (hf : fs.map (·.1) = g.fs c)
    (he : derefs st2 st.length (fs.map (·.2)) = some ds) : ∃ W', Ext W H W' H2 ∧ CellM g W' st H2 ∧ Rep g W' (.obj c ds) (.ref x) := by
  have hl := C.len
  have pre : W.α ++ [x] <+: W2.α := x2.le.a
  obtain ⟨tl, htl⟩ := pre
  have hnd := C2.nd
  rw [← htl] at hnd
  have hdisj : ∀ a, a ∈ W.α → a ∈ [x] ++ tl → False := fun a h1 h2 => by
    rw [List.append_assoc] at hnd
    exact (List.nodup_append.mp hnd).2.2 a h1 a h2 rfl
  have hsplit : ∀ a, a ∈ W2.α ↔ a ∈ W.α ∨ a ∈ [x] ++ tl := fun a => by rw [← htl, List.append_assoc, List.mem_append]
  classical
  let F' : Hp := fun a => if a ∈ [x] ++ tl then H2 a else W2.F a
  have hF' : ∀ a o, W2.F a = some o → F' a = some o := fun a o e => by
    show (if a ∈ [x] ++ tl then H2 a else W2.F a) = some o
    split
    · rename_i h
      rw [C2.nf a ((hsplit a).mpr (.inr h))] at e; cases e
    · exact e
  have hα : ∀ i a, i < st.length → W2.α[i]? = some a → W.α[i]? = some a := fun i a hi e => by
    rw [← htl, List.append_assoc, List.getElem?_append_left (by omega)] at e; exact e
  have same : ∀ b u, H b = some u → upd (upd H dx (.own x)) x (.ins (g.cA c) dx []) b = some u := fun b u e => by
    rw [upd_ne (ne_of_none e hx), upd_ne (ne_of_none e hd)]; exact e
  have out : ∀ a o, H a = some o → a ∉ W.α → a ∉ W.α ++ [x] := fun a o e n h => by
    rcases List.mem_append.mp h with h | h
    · exact n h
    · rw [List.mem_singleton.mp h, hx] at e; cases e
  have new : ∀ i a, st.length ≤ i → W2.α[i]? = some a → a ∈ [x] ++ tl := fun i a hi e => by
    rw [← htl, List.append_assoc, List.getElem?_append_right (by omega)] at e
    exact mem_get e
  refine ⟨⟨F', W.α⟩, ⟨⟨fun a o e => hF' a o (x2.le.f a o e), List.prefix_rfl⟩, fun a o e n => x2.fr a o (same a o e) (out a o e n), fun a o e n z => ?_, fun a h => .inl h⟩, ⟨fun a o e => ?_, C.len, C.nd, fun a h => ?_, fun i k e => ?_⟩, ?_⟩
  · show (if a ∈ [x] ++ tl then H2 a else W2.F a) = none
    have ha : a ∉ [x] ++ tl := fun h => by
      rcases x2.na a ((hsplit a).mpr (.inr h)) with q | q
      · exact out a o e n q
      · rw [same a o e] at q; cases q
    rw [if_neg ha]
    exact x2.kf a o (same a o e) (out a o e n) z
  · have e : (if a ∈ [x] ++ tl then H2 a else W2.F a) = some o := e
    split at e
    · exact e
    · exact C2.fle a o e
  · show (if a ∈ [x] ++ tl then H2 a else W2.F a) = none
    rw [if_neg (hdisj a h)]
    exact C2.nf a ((hsplit a).mpr (.inl h))
  · have hil : i < st.length := (List.getElem?_eq_some_iff.mp e).1
    have e2 : st2[i]? = some k := by rw [← ht, List.getElem?_take, if_pos hil] at e; exact e
    obtain ⟨a, ea, r⟩ := C2.cell i k e2
    obtain ⟨a0, ea0, r0⟩ := C.cell i k e
    refine ⟨a, hα i a hil ea, ?_⟩
    cases k with
    | lst es =>
      obtain ⟨vs, q, l⟩ := r
      obtain ⟨vs0, _, l0⟩ := r0
      have hr := RepL.rlt es vs0 l0
      rw [hl] at hr
      exact ⟨vs, q, RepL.down (W' := ⟨F', W.α⟩) hF' hα es vs hr l⟩
    | inst c' es =>
      obtain ⟨dx', ws, q, l⟩ := r
      obtain ⟨dx0, ws0, _, l0⟩ := r0
      have hr := RepF.rlt es ws0 l0
      rw [hl] at hr
      exact ⟨dx', ws, q, RepF.down (W' := ⟨F', W.α⟩) hF' hα es ws hr l⟩
  · obtain ⟨a, ea, dx', ws, q, l⟩ := C2.cell _ _ hi
    have ex : a = x := by
      rw [← htl, List.append_assoc, List.getElem?_append_right (by omega), ← hl] at ea
      simp at ea
      exact ea.symm
    subst ex
    obtain ⟨hw, l2⟩ := RepF.names fs ws l
    rw [hf] at hw
    refine Rep.obj_iff.mpr ⟨a, dx', ws.map (·.2), rfl, ?_, ?_, ?_⟩
    · show (if a ∈ [a] ++ tl then H2 a else W2.F a) = _
      rw [if_pos (by simp), q, ← hw]
    · rw [← l2.len, ← hf, List.length_map, List.length_map]
    · have go : ∀ (es : List D) (vs : List V) (ds : List D), RepL g W2 es vs → derefs st2 st.length es = some ds → RepL g ⟨F', W.α⟩ ds vs := by
        intro es
        induction es with
        | nil =>
          intro vs ds h1 h2
          simp only [derefs, Option.some.injEq] at h2
          subst h2
          exact RepL.nil_iff.mpr (RepL.nil_iff.mp h1)
        | cons d es ih =>
          intro vs ds h1 h2
          simp only [derefs] at h2
          obtain ⟨y, h3, h4⟩ := Option.bind_eq_some_iff.mp h2
          obtain ⟨ys, h5, h6⟩ := Option.map_eq_some_iff.mp h4
          subst h6
          obtain ⟨v, vs', e, r, l⟩ := RepL.cons_iff.mp h1
          subst e
          refine RepL.cons ?_ (ih _ _ l h5)
          have plain : ∀ d y, (if d.noref = true then some d else none) = some y → Rep g W2 d v → Rep g ⟨F', W.α⟩ y v := fun d y h r => by
            split at h
            · rename_i hn
              cases h
              exact Rep.down (W' := ⟨F', W.α⟩) (n := st.length) hF' hα _ _ (noref_rlt _ _ hn) r
            · cases h
          cases d with
          | ref j =>
            simp only [derefD] at h3
            split at h3
            · rename_i hj
              cases q2 : st2[j]? with
              | none => rw [q2] at h3; cases h3
              | some k =>
                rw [q2] at h3
                cases k with
                | inst c' fs' => cases h3
                | lst us =>
                  simp only at h3
                  split at h3
                  · rename_i hn
                    cases h3
                    obtain ⟨b, eb, ev⟩ := Rep.ref_iff.mp r
                    obtain ⟨b', eb', vs2, q3, l3⟩ := C2.cell j _ q2
                    rw [eb] at eb'
                    cases eb'
                    refine Rep.lst_iff.mpr ⟨b, vs2, ev, ?_, RepL.down (W' := ⟨F', W.α⟩) (n := st.length) hF' hα _ _ (norefL_rlt _ _ hn) l3⟩
                    show (if b ∈ [a] ++ tl then H2 b else W2.F b) = _
                    rw [if_pos (new j b (by omega) eb), q3]
                  · cases h3
            · cases h3
          | _ =>
            simp only [derefD] at h3
            exact plain _ _ h3 r
      exact go _ _ _ l2 he

theorem sim_mk {x : Str} {c f : Nat} {fA : Addr} {np : Nat} {p pos : Pos} {e : Expr} {es : List Expr} {cs : List E} {m : Mode} (hm : m.val = true) (cc : Ctx g X N sc (k + 1) Wsh) (hfs : cf.fs = g.fs) (hi : cf.ini c = some f) (F : DefOk g (cf.cl f) np k fA) (hM : Mk g.K (g.cA c) fA) (hl : cs.length + 1 = np)
    (hg : sc.names.lookup x = some .globalImplicit) (hmg : g.mg x = some (.ref (g.cA c))) (hdb : (x == ("__debug__" : Str)) = false)
    (ha : PA X (e :: es) (tsims g en Wsh cf cs)) (he : starEach (e :: es) X.env = (false, eval e X.env) :: starEach es X.env) (hpl : (backTo pos (starEach es X.env)).any (·.1) = false) :
    PE X (.Call (.Name x p) (e :: es) [] pos) (tsim g en Wsh cf m (.mk c cs)) := by
  obtain ⟨kp, fd, ps, hb, hps, ok⟩ := F
  have ok' : FnOk X.prog X.w X.K X.mg X.base (L2.CX X.prog X.w) k fA fd ps (spOf g (cf.cl f) np) := by
    rw [cc.hP, cc.hw, cc.hK, cc.hmg, cc.hbase]; exact ok
  refine PE.imp (pe_makeS (E := WE Wsh) (by rw [cc.hK]; exact hM) ok' cc.hroom (by show X.env.scope.names.lookup x = _; rw [cc.hsc]; exact hg) (by rw [cc.hmg]; exact hmg) (by rw [cc.hK]; exact hb) (fun σ => passAt cc.htk σ) ha hdb he hpl) ?_
  rintro σ H Q ⟨W, env, st, M, C, h⟩
  rw [evE, fin_val hm] at h
  refine ⟨W, env, st, M, C, Go.bind h ?_⟩
  rintro ds st1 vs W1 H1 hq x1 C1 r1 h1
  intro xa dx hx hd hne
  obtain ⟨xs, Cs⟩ := ext_self (c := c) C1 hx hd hne
  refine ⟨_, _, .ref st1.length :: ds, Cs, ?_, ?_, ?_⟩
  · refine RepL.cons (Rep.ref_iff.mpr ⟨xa, ?_, rfl⟩) (RepL.mono xs.le _ _ r1)
    rw [← C1.len, List.getElem?_append_right (Nat.le_refl _)]; simp
  · rw [List.length_cons, evEs_len _ _ _ _ _ hq, hl]
  · unfold mkR at h1
    rw [hi] at h1
    simp only at h1
    cases q : cf.cl f (.ref st1.length :: ds) (st1 ++ [.inst c []]) with
    | bad => rw [q] at h1; exact h1.elim
    | exc c' d s =>
      rw [q] at h1
      exact fun dxx v W' H' x' C' r hv => h1 dxx v W' H' (xs.trans x') C' r hv
    | ok d st2 =>
      rw [q] at h1
      simp only at h1
      cases d <;> (try exact h1.elim)
      simp only at h1
      intro v W2 H2 x2 C2 rv
      split at h1
      · rename_i hb
        have ht := beqS_eq _ _ hb
        cases q2 : st2[st1.length]? with
        | none => rw [q2] at h1; exact h1.elim
        | some kc =>
          rw [q2] at h1
          cases kc with
          | lst us => exact h1.elim
          | inst c' fs =>
            simp only at h1
            split at h1
            · rename_i hcf
              obtain ⟨hc, hf⟩ := hcf
              subst hc
              obtain ⟨d, e1, h2⟩ := Go.of h1
              obtain ⟨ds', e2, e3⟩ := Option.map_eq_some_iff.mp e1
              subst e3
              rw [hfs] at hf
              obtain ⟨W', x', C', r'⟩ := freeze C1 hx hd hne x2 C2 ht q2 hf e2
              exact ⟨Rep.non_iff.mp (show Rep g W2 .non v from rv), h2 _ W' H2 x' C' (RepM.of hm r')⟩
            · exact h1.elim
      · exact h1.elim
theorem sim_mkm {x : Str} {c f : Nat} {fA : Addr} {np : Nat} {p pos : Pos} {e : Expr} {es : List Expr} {cs : List E} {m : Mode} (hm : m.val = true) (cc : Ctx g X N sc (k + 1) Wsh) (hi : cf.ini c = some f) (F : DefOk g (cf.cl f) np k fA) (hM : Mk g.K (g.cA c) fA) (hl : cs.length + 1 = np)
    (hg : sc.names.lookup x = some .globalImplicit) (hmg : g.mg x = some (.ref (g.cA c))) (hdb : (x == ("__debug__" : Str)) = false)
    (ha : PA X (e :: es) (tsims g en Wsh cf cs)) (he : starEach (e :: es) X.env = (false, eval e X.env) :: starEach es X.env) (hpl : (backTo pos (starEach es X.env)).any (·.1) = false) :
    PE X (.Call (.Name x p) (e :: es) [] pos) (tsim g en Wsh cf m (.mkm c cs)) := by
  obtain ⟨kp, fd, ps, hb, hps, ok⟩ := F
  have ok' : FnOk X.prog X.w X.K X.mg X.base (L2.CX X.prog X.w) k fA fd ps (spOf g (cf.cl f) np) := by
    rw [cc.hP, cc.hw, cc.hK, cc.hmg, cc.hbase]; exact ok
  refine PE.imp (pe_makeS (E := WE Wsh) (by rw [cc.hK]; exact hM) ok' cc.hroom (by show X.env.scope.names.lookup x = _; rw [cc.hsc]; exact hg) (by rw [cc.hmg]; exact hmg) (by rw [cc.hK]; exact hb) (fun σ => passAt cc.htk σ) ha hdb he hpl) ?_
  rintro σ H Q ⟨W, env, st, M, C, h⟩
  rw [evE, fin_val hm] at h
  refine ⟨W, env, st, M, C, Go.bind h ?_⟩
  rintro ds st1 vs W1 H1 hq x1 C1 r1 h1
  intro xa dx hx hd hne
  obtain ⟨xs, Cs⟩ := ext_self (c := c) C1 hx hd hne
  have hlast : (W1.α ++ [xa])[st1.length]? = some xa := by
    rw [← C1.len, List.getElem?_append_right (Nat.le_refl _)]; simp
  refine ⟨_, _, .ref st1.length :: ds, Cs, ?_, ?_, ?_⟩
  · exact RepL.cons (Rep.ref_iff.mpr ⟨xa, hlast, rfl⟩) (RepL.mono xs.le _ _ r1)
  · rw [List.length_cons, evEs_len _ _ _ _ _ hq, hl]
  · unfold mkmR at h1
    rw [hi] at h1
    simp only at h1
    cases q : cf.cl f (.ref st1.length :: ds) (st1 ++ [.inst c []]) with
    | bad => rw [q] at h1; exact h1.elim
    | exc c' d s =>
      rw [q] at h1
      exact fun dxx v W' H' x' C' r hv => h1 dxx v W' H' (xs.trans x') C' r hv
    | ok d st2 =>
      rw [q] at h1
      simp only at h1
      cases d <;> (try exact h1.elim)
      intro v W2 H2 x2 C2 rv
      exact ⟨Rep.non_iff.mp (show Rep g W2 .non v from rv), h1 _ W2 H2 (xs.trans x2) C2 (RepM.of hm (Rep.ref_iff.mpr ⟨xa, prefix_get x2.le.a hlast, rfl⟩))⟩

/-! ### methods -/
def tMethS (C : Addr) (m : Str) (sp : Sp) (E : L2.St → XK) (ta : TE) (t : TA) : TE := fun σ H Q => ta σ H fun x H1 => ∃ a dx fs, x = .ref a ∧ H1 a = some (.ins C dx fs) ∧ fs.lookup m = none ∧ t σ H1 fun vs H2 => sp (x :: vs) H2 Q (E σ)
theorem pe_methS {C f : Addr} {fd : FuncData} {ps : List Str} {sp : Sp} {E : L2.St → XK} {CX : CXT} {o e : Expr} {es : List Expr} {apos pos : Pos} {mn : Str} {ta : TE} {t : TA} {pl : Sem Bool} (he : PE X o ta) (c : Cls X.K C) (hm : Meth X.K C mn f) (F : FnOk X.prog X.w X.K X.mg X.base CX k f fd ps sp) (hr : Room k X.A) (hb : Binds X.K fd ps []) (hx : ∀ σ, PassesAt CX X σ (E σ)) (ha : PA X (e :: es) t)
    (hst : starEach (e :: es) X.env = (false, eval e X.env) :: starEach es X.env) (hpl : (backTo pos (starEach es X.env)).any (·.1) = false)
    (ht : eval (.Call (.Attribute o mn apos) (e :: es) [] pos) X.env = (do
      let ov ← eval o X.env
      standAt apos.atName
      let (f, first) ← holding [ov] (getMethod ov mn pl)
      callWith pos f first (backTo pos (starEach (e :: es) X.env)) (backToKw pos (keywordEach [] X.env)))) :
    PE X (.Call (.Attribute o mn apos) (e :: es) [] pos) (tMethS C mn sp E ta t) := by
  refine ⟨fun pins s σ H Q I h => ?_⟩
  refine PySem.W.methodCall_KW (pl := pl) (thn (he.run pins s σ H _ I h) fun u s1 ⟨x, H1, I1, rx, a, dx, fs, ex, ea, l, q⟩ => ?_) ht
  subst ex
  obtain rfl : u = Value.ref a := rx
  refine getmeth_ok I1 ea c hm l ?_
  refine PySem.W.callWith_K (first := [.ref a]) (h₀ := X.base) I.ok.mod.kin hm.kp (thn (ha.run pos pins s1 σ H1 _ I1 q) fun us s2 ⟨vs, H2, I2, r, q2⟩ => ⟨I2.kIn, ?_⟩) hst hpl
  exact run_fnS (us := .ref a :: us) (vs := .ref a :: vs) F hr hb (hx σ) I2 (.cons rfl r) q2
theorem lookup_none_zip {at_ : Nat → Str} {m : Str} (h : ∀ j, at_ j ≠ m) : ∀ (ks : List Nat) (vs : List V), ((ks.map at_).zip vs).lookup m = none
  | [], _ => rfl
  | k :: ks, [] => rfl
  | k :: ks, v :: vs => by
    show ((at_ k, v) :: ((ks.map at_).zip vs)).lookup m = none
    rw [List.lookup_cons]
    have : (m == at_ k) = false := by simp only [beq_eq_false_iff_ne, ne_eq]; exact fun z => h k z.symm
    rw [this]
    exact lookup_none_zip h ks vs
theorem lookup_none_F {W : Wd} {m : Str} (h : ∀ j, g.at_ j ≠ m) : ∀ (fs : List (Nat × D)) (ws : List (Str × V)), RepF g W fs ws → ws.lookup m = none
  | [], ws, r => by rw [show ws = [] from r]; rfl
  | (k, d) :: fs, ws, r => by
    obtain ⟨v, ws', ev, q, l⟩ := (show ∃ v fs', ws = (g.at_ k, v) :: fs' ∧ Rep g W d v ∧ RepF g W fs fs' from r)
    subst ev
    rw [List.lookup_cons]
    have : (m == g.at_ k) = false := by simp only [beq_eq_false_iff_ne, ne_eq]; exact fun z => h k z.symm
    rw [this]
    exact lookup_none_F h fs ws' l
theorem sim_meth {c f : Nat} {fA : Addr} {np : Nat} {apos pos : Pos} {mn : Str} {o e : Expr} {es : List Expr} {co : E} {cs : List E} {m : Mode} {pl : Sem Bool} (hm : m.val = true) (cc : Ctx g X N sc k Wsh) (hc : Cls g.K (g.cA c)) (hM : Meth g.K (g.cA c) mn fA) (hno : ∀ j, g.at_ j ≠ mn) (F : DefOk g (cf.cl f) np k fA) (hl : cs.length + 1 = np)
    (ho : PE X o (tsim g en Wsh cf .frz co)) (ha : PA X (e :: es) (tsims g en Wsh cf cs))
    (hst : starEach (e :: es) X.env = (false, eval e X.env) :: starEach es X.env) (hpl : (backTo pos (starEach es X.env)).any (·.1) = false)
    (ht : eval (.Call (.Attribute o mn apos) (e :: es) [] pos) X.env = (do
      let ov ← eval o X.env
      standAt apos.atName
      let (f, first) ← holding [ov] (getMethod ov mn pl)
      callWith pos f first (backTo pos (starEach (e :: es) X.env)) (backToKw pos (keywordEach [] X.env)))) :
    PE X (.Call (.Attribute o mn apos) (e :: es) [] pos) (tsim g en Wsh cf m (.meth c f co cs)) := by
  obtain ⟨kp, fd, ps, hb, hps, ok⟩ := F
  have ok' : FnOk X.prog X.w X.K X.mg X.base (L2.CX X.prog X.w) k fA fd ps (spOf g (cf.cl f) np) := by
    rw [cc.hP, cc.hw, cc.hK, cc.hmg, cc.hbase]; exact ok
  refine PE.imp (pe_methS (E := WE Wsh) ho (by rw [cc.hK]; exact hc) (by rw [cc.hK]; exact hM) ok' cc.hroom (by rw [cc.hK]; exact hb) (fun σ => passAt cc.htk σ) ha hst hpl ht) ?_
  rintro σ H Q ⟨W, env, st, M, C, h⟩
  rw [evE, fin_val hm] at h
  refine ⟨W, env, st, M, C, Go.bind h ?_⟩
  rintro dx st1 x W1 H1 - x1 C1 r1 h1
  split at h1
  · rename_i hcl
    replace r1 : Rep g W1 dx x := r1
    have rest : tsims g en Wsh cf cs σ H1 (fun vs H2 => spOf g (cf.cl f) np (x :: vs) H2 Q (WE Wsh σ)) := by
      refine ⟨W1, env, st1, M.ext x1, C1, Go.bind h1 ?_⟩
      rintro ds st2 vs W2 H2 hq x2 C2 r2 h2
      refine ⟨W2, st2, dx :: ds, C2, RepL.cons (Rep.mono x2.le _ _ r1) r2, ?_, h2.imp (fun _ _ _ h => h) fun d st v W' H' x c r => ⟨RepM.of hm r, fun q => q⟩⟩
      rw [List.length_cons, evEs_len _ _ _ _ _ hq, hl]
    unfold isC at hcl
    cases dx <;> (try (simp at hcl; done))
    · rename_i kk ds
      simp only [beq_iff_eq] at hcl
      subst hcl
      obtain ⟨a, dx', vs, e1, e2, e3, l⟩ := Rep.obj_iff.mp r1
      exact ⟨a, dx', _, e1, C1.fle _ _ e2, lookup_none_zip hno _ _, rest⟩
    · rename_i i
      cases q : st1[i]? with
      | none => simp [q] at hcl
      | some kc =>
        simp only [q] at hcl
        cases kc with
        | lst us => cases hcl
        | inst kk fs =>
          simp only [beq_iff_eq] at hcl
          subst hcl
          obtain ⟨a, e1, e2⟩ := Rep.ref_iff.mp r1
          obtain ⟨a', e3, dx', ws, e4, l⟩ := C1.cell i _ q
          rw [e1] at e3
          cases e3
          exact ⟨a, dx', ws, e2, e4, lookup_none_F hno fs ws l, rest⟩
  · exact h1.elim
end
end Bp
set_option Elab.async false
set_option linter.all false
set_option maxRecDepth 100000
/-! BpOeq: == and != of instances with an own __eq__; a sequence turned. -/
namespace Bp
open PySem PySem.Spec PyProof.Rows L2 PySem.W
theorem one_bind (self : Value) : bindSpecial (.builtin "object.__ne__") self = pure (.builtin "object.__ne__", [self]) :=
  (Slot.of (T := "object") (name := "__ne__") (owner := "object") (n := "__ne__") (by rw [typeLookup_type, builtinLookup_eq_fast]; kernel_rfl) (by decide +kernel) (by decide +kernel) (by decide +kernel)
    (.inl (by decide +kernel)) (by rw [isSubtype_type]; kernel_rfl)).bind self
theorem one_plain : plainId "object.__ne__" = true := by decide +kernel
section
variable {prog : Program} {w : World} {A : Around} {E : Value → Shared → Prop} {s : Shared} {K : PySem.W.Frag} {x C L f : Addr} {h₀ : Heap} {m : Str → Option Value} {ox : PySem.Obj} {od : Option PySem.Obj} {b tb : Value}
theorem ifBound_ne {M : Model} {args : List Value} {Q : Option Value → Shared → Prop} (X : K.In s.heap) (I : InstAt s.heap x ox C od) (hs : findIn K (.ref C) "__ne__" = some (some (.builtin "object.__ne__")))
    (h : wpAny M A (call (.builtin "object.__ne__") (.ref x :: args)) (fun v => Q (some v)) E s) : wpAny M A (callSpecialIfBound? (.ref x) "__ne__" args) Q E s := by
  simp only [callSpecialIfBound?, bindSpecialIfBound?]
  refine wpAny_holding (wpAny_bind (wpAny_bind (wpAny_bind (I.type.here ((looks_findIn X hs).here ?_)))))
  refine wpAny_bind (wpAny_askSetting (wpAny_ite ?_))
  have fin : wpAny M A (call (.builtin "object.__ne__") ([.ref x] ++ args) >>= fun v => pure (some v)) Q E s := wpAny_bind (wpAny_mono h (fun v s' h' => wpAny_pure h') fun _ _ h' => h')
  have bd : Looks M s.heap (bindSpecial (.builtin "object.__ne__") (.ref x)) (.builtin "object.__ne__", [.ref x]) := Looks.of_pure (one_bind _)
  split
  · exact wpAny_bind (bd.here (wpAny_pure (by exact fin)))
  · exact wpAny_tryCatch (wpAny_bind (bd.here (wpAny_pure (by exact fin))))
theorem objNe_K (hu : A.units < cLine) (X : K.In s.heap) (I : InstAt s.heap x ox C od) (hs : findIn K (.ref C) "__eq__" = some (some (.ref f))) (hf : isFn K (.ref f) = true) {y : Addr} {Q : PySem.Fin → Shared → Prop}
    (hcall : wpAny (model prog w) A (call (.ref f) [.ref x, .ref y]) (fun v s' => ∃ r, v = .bool r ∧ Q (.done (.ret (.bool (!r)))) s') E s) :
    wpAny (model prog w) A (Builtin.«object.__ne__» ⟨[.ref x, .ref y], []⟩) Q E s := by
  obtain ⟨hh, g, d, t, os⟩ := s
  unfold Builtin.«object.__ne__»
  repeat (first
    | with_reducible refine wpAny_cRoomFor hu ?_
    | (refine wpAny_bind (m := callSpecialIfBound? (.ref x) (Str.ofString "__eq__") [.ref y])
        (ifBound_K X I hs hf (wpAny_mono hcall (fun r s' hr => by
          obtain ⟨b, rfl, hq⟩ := hr
          repeat (first | exact hq | exact wpAny_pure hq | exact wpAny_truthy_bool hq | (refine wpAny_bind (m := truthy (.bool _)) (wpAny_truthy_bool ?_)) | wp_step)) fun _ _ e => e)))
    | wp_step)
theorem cmp_ne_K {Q : Value → Shared → Prop} (hu : A.units + 1 < cLine) (F : Fr h₀ L s.heap m) (X₀ : K.In h₀) (I : InstAt s.heap x ox C od) {y : Addr} (hb : Looks (model prog w) s.heap (typeOf (.ref y)) tb) (hn : notFirst K C tb = true)
    (hne : findIn K (.ref C) "__ne__" = some (some (.builtin "object.__ne__"))) (hs : findIn K (.ref C) "__eq__" = some (some (.ref f))) (hf : isFn K (.ref f) = true) (ho : mroIn K C (.type "object") = some true)
    (h : wpAny (model prog w) A.in1 (call (.ref f) [.ref x, .ref y]) (fun v s' => ∃ r, v = .bool r ∧ Q (.bool (!r)) s') E s) : wpAny (model prog w) A (richCompare .NotEq (.ref x) (.ref y)) Q E s := by
  have X := X₀.keeps F.keep
  have sub : Looks (model prog w) s.heap (isInstance (.ref x) (.type "object")) true := I.type.andThen (looks_mroIn X ho)
  have one : wpAny (model prog w) A (tryCompare (.ref x) "__ne__" (.ref y)) (fun r s' => ∃ v, r = some v ∧ Q v s') E s := by
    unfold tryCompare
    refine wpAny_bind (ifBound_ne X I hne (wpAny_call (codeAny_call_builtin one_plain PySem.F.cmpEntry_ne
      (check_slot PySem.F.cmpKind_ne PySem.F.cmpSplit_ne sub (PySem.F.cmpArgs_ne _ _)
        (objNe_K (A := A.in1) hu X I hs hf (wpAny_mono h (fun v s' hv => ?_) fun _ _ e => e))))))
    obtain ⟨r, rfl, hq⟩ := hv
    first | exact ⟨_, rfl, wpAny_pure ⟨_, rfl, hq⟩⟩ | exact wpAny_pure ⟨_, rfl, hq⟩ | exact ⟨_, rfl, hq⟩
  unfold richCompare
  simp only [oneThing_ref]
  refine wpAny_holding (wpAny_bind (wpAny_cRoomFor (Nat.lt_of_succ_lt hu) ?_))
  rw [cmpInfo_NotEq]
  dsimp only
  refine wpAny_bind (I.type.here (wpAny_bind (hb.here ?_)))
  split
  · rename_i q
    have e : subIn K tb (.ref C) = some false := by
      rcases Bool.or_eq_true_iff.mp hn with e | e
      · rw [beq_iff_eq.mp e] at q; simp at q
      · exact beq_iff_eq.mp e
    refine wpAny_bind ((looks_subIn X e).here ?_)
    simp only [Bool.false_eq_true, if_false]
    refine wpAny_bind (wpAny_mono one (fun r s' z => ?_) fun _ _ e => e)
    obtain ⟨v, rfl, hq⟩ := z
    exact wpAny_pure hq
  · refine wpAny_bind (wpAny_pure ?_)
    simp only [Bool.false_eq_true, if_false]
    refine wpAny_bind (wpAny_mono one (fun r s' z => ?_) fun _ _ e => e)
    obtain ⟨v, rfl, hq⟩ := z
    exact wpAny_pure hq
end
section
variable {X : Cx} {C f : Addr} {fd : FuncData} {ps : List Str} {sp : Sp} {k : Nat}
def rOwn (C : Addr) (ne : Bool) (sp : Sp) : R2 := fun x y H Q => ∃ a b dx dy fs gs, x = .ref a ∧ y = .ref b ∧ H a = some (.ins C dx fs) ∧ H b = some (.ins C dy gs) ∧ sp [x, y] H (fun v H' => ∃ r, v = .bl r ∧ Q (.bl (if ne then !r else r)) H') (fun _ _ _ => False)
theorem run_own {A : Around} (F : FnOk X.prog X.w X.K X.mg X.base (L2.CX X.prog X.w) k f fd ps sp) (hr : Room k A) (hfr : A.frames = X.A.frames) (hb : Binds X.K fd ps []) {pins : List (Addr × PySem.Obj)} {σ : L2.St} {H : Hp} {s : Shared} {a b : Addr} {Q : VK} (I : Inv X pins σ H s)
    (h : sp [.ref a, .ref b] H Q (fun _ _ _ => False)) : wpAny (model X.prog X.w) A (call (.ref f) [.ref a, .ref b]) (fun u s' => ∃ v H', RelV v u ∧ Inv X pins σ H' s' ∧ Q v H') X.xe s := by
  have e0 : Env0 X.prog X.w X.K X.mg X.base A X.stack s H := by
    have e := I.env0
    exact ⟨by rw [hfr]; exact e.frames, e.mod, e.bs, e.bsz, e.funs, e.frf, e.hok, e.bare⟩
  have hl := F.len _ _ _ _ h
  have r2 : Vals [V.ref a, V.ref b] [Value.ref a, Value.ref b] := .cons rfl (.cons rfl .nil)
  refine wpAny_call (codeAny_mono (F.run A X.stack s H ⟨[.ref a, .ref b], []⟩ [.ref a, .ref b] [.ref a, .ref b] _ _ hr e0 (by
    have := hb s [.ref a, .ref b] I.kIn (by simpa using hl)
    simpa using this) r2 h) fun r s' hq => ?_)
  cases r with
  | error e =>
    obtain ⟨_, _, _, _, _, _, _, _, _, _, _, _, z⟩ := hq
    exact z.elim
  | ok fl =>
    cases fl with
    | ret w =>
      obtain ⟨z, H', I', rz, q⟩ := I.after hq
      exact ⟨z, H', rz, I', q⟩
    | next => exact False.elim hq
    | brk => exact False.elim hq
    | cont => exact False.elim hq
theorem op_own_eq (F : FnOk X.prog X.w X.K X.mg X.base (L2.CX X.prog X.w) k f fd ps sp) (hr : Room k X.A) (hb : Binds X.K fd ps []) (hs : PySem.W.findIn X.K (.ref C) "__eq__" = some (some (.ref f))) (hf : PySem.W.isFn X.K (.ref f) = true) : OpR X (compareOp .Eq) (rOwn C false sp) := by
  intro pins s σ H x y v u Q I rx ry h
  obtain ⟨a, b, dx, dy, fs, gs, rfl, rfl, ha, hb', h⟩ := h
  cases rx
  cases ry
  obtain ⟨mA, J, _⟩ := ins_get I.hok ha
  obtain ⟨mB, J', _⟩ := ins_get I.hok hb'
  obtain ⟨od, J, _⟩ := J.look
  obtain ⟨od', J', _⟩ := J'.look
  obtain ⟨m, hF⟩ := I.fr
  show wpAny (model X.prog X.w) X.A (richCompare .Eq (.ref a) (.ref b)) (EP X pins σ Q) X.xe s
  refine PySem.W.cmp_K (op := .Eq) (tb := .ref C) hr.units0 hF I.ok.mod.kin J J'.type (by simp [PySem.W.notFirst]) hs hf ?_
  refine wpAny_mono (run_own (A := X.A) F hr rfl hb I h) (fun u s' z => ?_) fun _ _ x => x
  obtain ⟨v, H', rv, I', r, rfl, q⟩ := z
  cases rv
  exact ⟨.bl _, H', I', rfl, q⟩
theorem op_own_ne (F : FnOk X.prog X.w X.K X.mg X.base (L2.CX X.prog X.w) k f fd ps sp) (hr : Room (k + 1) X.A) (hb : Binds X.K fd ps []) (hs : PySem.W.findIn X.K (.ref C) "__eq__" = some (some (.ref f))) (hf : PySem.W.isFn X.K (.ref f) = true)
    (hne : PySem.W.findIn X.K (.ref C) "__ne__" = some (some (.builtin "object.__ne__"))) (ho : PySem.W.mroIn X.K C (.type "object") = some true) : OpR X (compareOp .NotEq) (rOwn C true sp) := by
  intro pins s σ H x y v u Q I rx ry h
  obtain ⟨a, b, dx, dy, fs, gs, rfl, rfl, ha, hb', h⟩ := h
  cases rx
  cases ry
  obtain ⟨mA, J, _⟩ := ins_get I.hok ha
  obtain ⟨mB, J', _⟩ := ins_get I.hok hb'
  obtain ⟨od, J, _⟩ := J.look
  obtain ⟨od', J', _⟩ := J'.look
  obtain ⟨m, hF⟩ := I.fr
  show wpAny (model X.prog X.w) X.A (richCompare .NotEq (.ref a) (.ref b)) (EP X pins σ Q) X.xe s
  refine cmp_ne_K (tb := .ref C) (by have := hr.un; omega) hF I.ok.mod.kin J J'.type (by simp [PySem.W.notFirst]) hne hs hf ho ?_
  refine wpAny_mono (run_own (A := X.A.in1) F hr.in1 rfl hb I h) (fun u s' z => ?_) fun _ _ x => x
  obtain ⟨v, H', rv, I', r, rfl, q⟩ := z
  cases rv
  exact ⟨_, rfl, .bl _, H', I', rfl, q⟩
end
section
variable {g : Glob} {X : Cx} {N : List Str} {sc : Scope} {k : Nat} {Wsh : WX} {en : Ent} {cf : Cf}
theorem ite_bind {α β : Type} {c : Prop} [Decidable c] {x y : Res α} {k : α → Store → Res β} : (if c then x else y).bind k = if c then x.bind k else y.bind k := by split <;> rfl
theorem bad_bind {α β : Type} {k : α → Store → Res β} : (Res.bad : Res α).bind k = .bad := rfl
theorem eqR_tru {ne : Bool} {r : Res D} : (eqR ne r).bind (fun d st => Res.of ((truD d).map .bl) st) = eqR ne r := by
  cases r with
  | ok d st => cases d <;> rfl
  | exc c d st => rfl
  | bad => rfl
theorem sim_oeq {ne : Bool} {op : CmpOp} {c f : Nat} {fA : Addr} {a b : Expr} {ca cb : E} {pos : Pos} {m : Mode} (hop : op = if ne then .NotEq else .Eq) (hm : m.val = true) (cc : Ctx g X N sc (k + 1) Wsh) (hM : Meth g.K (g.cA c) "__eq__" fA)
    (hne : PySem.W.findIn g.K (.ref (g.cA c)) "__ne__" = some (some (.builtin "object.__ne__"))) (ho : PySem.W.mroIn g.K (g.cA c) (.type "object") = some true) (F : DefOk g (cf.cl f) 2 k fA)
    (ha : PE X a (tsim g en Wsh cf .frz ca)) (hb : PE X b (tsim g en Wsh cf .frz cb)) (hn : behindInMarks op b = false) : PE X (.Compare a [op] [b] pos) (tsim g en Wsh cf m (.oeq ne c f ca cb)) := by
  obtain ⟨kp, fd, ps, hbn, hps, ok⟩ := F
  have ok' : FnOk X.prog X.w X.K X.mg X.base (L2.CX X.prog X.w) k fA fd ps (spOf g (cf.cl f) 2) := by
    rw [cc.hP, cc.hw, cc.hK, cc.hmg, cc.hbase]; exact ok
  have opr : OpR X (compareOp op) (rOwn (g.cA c) ne (spOf g (cf.cl f) 2)) := by
    cases ne with
    | false =>
      subst hop
      exact op_own_eq ok' (cc.hroom.mono (by omega)) (by rw [cc.hK]; exact hbn) (by rw [cc.hK]; exact hM.at_) (by rw [cc.hK]; exact hM.fn)
    | true =>
      subst hop
      exact op_own_ne ok' cc.hroom (by rw [cc.hK]; exact hbn) (by rw [cc.hK]; exact hM.at_) (by rw [cc.hK]; exact hM.fn) (by rw [cc.hK]; exact hne) (by rw [cc.hK]; exact ho)
  refine PE.imp (pe_cmpR opr ha hb hn) ?_
  rintro σ H Q ⟨W, env, st, M, C, h⟩
  rw [evE, fin_val hm] at h
  refine ⟨W, env, st, M, C, Go.bind h ?_⟩
  intro dx st1 x W1 H1 _ x1 C1 r1 h1
  refine ⟨W1, env, st1, M.ext x1, C1, Go.bind h1 ?_⟩
  intro dy st2 y W2 H2 _ x2 C2 r2 h2
  split at h2
  · rename_i hoo
    obtain ⟨o1, o2⟩ := Bool.and_eq_true_iff.mp hoo
    have r1 : Rep g W2 dx x := Rep.mono x2.le _ _ r1
    have r2 : Rep g W2 dy y := r2
    have q1 : ∃ ds, dx = .obj c ds := by
      cases dx <;> simp [isO] at o1
      exact ⟨_, by rw [o1]⟩
    have q2 : ∃ ds, dy = .obj c ds := by
      cases dy <;> simp [isO] at o2
      exact ⟨_, by rw [o2]⟩
    obtain ⟨ds, rfl⟩ := q1
    obtain ⟨es, rfl⟩ := q2
    obtain ⟨p, dp, vs, e1, e2, e3, l⟩ := Rep.obj_iff.mp r1
    obtain ⟨q, dq, us, e4, e5, e6, l2⟩ := Rep.obj_iff.mp r2
    refine ⟨p, q, dp, dq, _, _, e1, e4, C2.fle _ _ e2, C2.fle _ _ e5, W2, st2, [.obj c ds, .obj c es], C2, RepL.cons r1 (RepL.cons r2 RepL.nil), rfl, ?_⟩
    cases hcl : cf.cl f [.obj c ds, .obj c es] st2 with
    | bad => rw [hcl] at h2; exact h2.elim
    | exc k d st3 => rw [hcl] at h2; exact h2.elim
    | ok d st3 =>
      rw [hcl] at h2
      cases d with
      | bl r =>
        intro v W' H' x' c' r'
        exact ⟨r, Rep.bl_iff.mp (show Rep g W' (.bl r) v from r'), h2 _ W' H' x' c' (RepM.of hm (Rep.bl_iff.mpr rfl))⟩
      | _ => exact h2.elim
  · exact h2.elim
theorem simT_oeq {ne : Bool} {op : CmpOp} {c f : Nat} {fA : Addr} {a b : Expr} {ca cb : E} {pos : Pos} (hop : op = if ne then .NotEq else .Eq) (cc : Ctx g X N sc (k + 1) Wsh) (hM : Meth g.K (g.cA c) "__eq__" fA)
    (hne : PySem.W.findIn g.K (.ref (g.cA c)) "__ne__" = some (some (.builtin "object.__ne__"))) (ho : PySem.W.mroIn g.K (g.cA c) (.type "object") = some true) (F : DefOk g (cf.cl f) 2 k fA)
    (ha : PE X a (tsim g en Wsh cf .frz ca)) (hb : PE X b (tsim g en Wsh cf .frz cb)) (hn : behindInMarks op b = false) : PT X (.Compare a [op] [b] pos) (tsimT g en Wsh cf (.oeq ne c f ca cb)) := by
  obtain ⟨kp, fd, ps, hbn, hps, ok⟩ := F
  have ok' : FnOk X.prog X.w X.K X.mg X.base (L2.CX X.prog X.w) k fA fd ps (spOf g (cf.cl f) 2) := by
    rw [cc.hP, cc.hw, cc.hK, cc.hmg, cc.hbase]; exact ok
  have opr : OpR X (compareOp op) (rOwn (g.cA c) ne (spOf g (cf.cl f) 2)) := by
    cases ne with
    | false =>
      subst hop
      exact op_own_eq ok' (cc.hroom.mono (by omega)) (by rw [cc.hK]; exact hbn) (by rw [cc.hK]; exact hM.at_) (by rw [cc.hK]; exact hM.fn)
    | true =>
      subst hop
      exact op_own_ne ok' cc.hroom (by rw [cc.hK]; exact hbn) (by rw [cc.hK]; exact hM.at_) (by rw [cc.hK]; exact hM.fn) (by rw [cc.hK]; exact hne) (by rw [cc.hK]; exact ho)
  refine PT.imp (pt_cmpR opr ha hb hn) ?_
  rintro σ H Q ⟨W, env, st, M, C, h⟩
  rw [evE, fin_tst] at h
  simp only [bind_assoc, ite_bind, eqR_tru, bad_bind] at h
  refine ⟨W, env, st, M, C, Go.bind h ?_⟩
  intro dx st1 x W1 H1 _ x1 C1 r1 h1
  refine ⟨W1, env, st1, M.ext x1, C1, Go.bind h1 ?_⟩
  intro dy st2 y W2 H2 _ x2 C2 r2 h2
  split at h2
  · rename_i hoo
    obtain ⟨o1, o2⟩ := Bool.and_eq_true_iff.mp hoo
    have r1 : Rep g W2 dx x := Rep.mono x2.le _ _ r1
    have r2 : Rep g W2 dy y := r2
    have q1 : ∃ ds, dx = .obj c ds := by
      cases dx <;> simp [isO] at o1
      exact ⟨_, by rw [o1]⟩
    have q2 : ∃ ds, dy = .obj c ds := by
      cases dy <;> simp [isO] at o2
      exact ⟨_, by rw [o2]⟩
    obtain ⟨ds, rfl⟩ := q1
    obtain ⟨es, rfl⟩ := q2
    obtain ⟨p, dp, vs, e1, e2, e3, l⟩ := Rep.obj_iff.mp r1
    obtain ⟨q, dq, us, e4, e5, e6, l2⟩ := Rep.obj_iff.mp r2
    refine ⟨p, q, dp, dq, _, _, e1, e4, C2.fle _ _ e2, C2.fle _ _ e5, W2, st2, [.obj c ds, .obj c es], C2, RepL.cons r1 (RepL.cons r2 RepL.nil), rfl, ?_⟩
    cases hcl : cf.cl f [.obj c ds, .obj c es] st2 with
    | bad => rw [hcl] at h2; exact h2.elim
    | exc k d st3 => rw [hcl] at h2; exact h2.elim
    | ok d st3 =>
      rw [hcl] at h2
      cases d with
      | bl r =>
        intro v W' H' x' c' r'
        exact ⟨r, Rep.bl_iff.mp (show Rep g W' (.bl r) v from r'), _, rfl, h2 _ W' H' x' c' rfl⟩
      | _ => exact h2.elim
  · exact h2.elim
end
end Bp
namespace HT
open PySem PySem.W PySem.Calls PyProof.Rows PyProof.V PySem.Spec
section
variable {prog : Program} {w : World} {A : Around} {E : Value → Shared → Prop} {s : Shared}
theorem bp_places_rev (n : Nat) : Builtin.Slice.slicePlaces ((n : Int) - 1) (-1) (-1) = n := by
  unfold Builtin.Slice.slicePlaces
  have h1 : ¬ ((-1 : Int) > 0) := by omega
  simp only [h1, if_false, show (- -1 : Int) = 1 from rfl, Int.ediv_one]
  split <;> omega
theorem bp_adjust_rev (n : Nat) : Builtin.Slice.sliceAdjust none none (-1) (n : Int) = ((n : Int) - 1, -1) := by
  unfold Builtin.Slice.sliceAdjust
  simp
theorem bp_applied_rev {sl : Addr} {vl vu vs : Value} {n : Nat} {Q : Int × Int × Nat → Shared → Prop} (hs : s.heap.IsSliceOf sl vl vu vs) (pl : IsPart vl none) (pu : IsPart vu none) (ps : IsPart vs (some (-1)))
    (h : Q ((n : Int) - 1, -1, n) s) : wpAny (model prog w) A (Builtin.Slice.sliceApplied (.ref sl) (pure (n : Int))) Q E s := by
  obtain ⟨os, hos, hcs, hds⟩ := id hs
  unfold Builtin.Slice.sliceApplied Builtin.Slice.sliceFields
  refine wpAny_bind (wpAny_bind (wpAny_field hos hds (x := vl) rfl (wpAny_bind (wpAny_field hos hds (x := vu) rfl (wpAny_bind (wpAny_field hos hds (x := vs) rfl (wpAny_pure ?_)))))))
  refine wpAny_bind (slicePart_ ps ?_)
  show wpAny _ _ (if ((-1 : Int) == 0) = true then _ else _) _ _ s
  rw [if_neg (by decide)]
  refine wpAny_bind (slicePart_ pl (wpAny_bind (slicePart_ pu (wpAny_bind (wpAny_pure ?_)))))
  show wpAny _ _ (match Builtin.Slice.sliceAdjust none none (-1) (n : Int) with | (lo, hi) => pure (lo, (-1 : Int), Builtin.Slice.slicePlaces lo hi (-1))) _ _ s
  rw [bp_adjust_rev]
  show wpAny _ _ (pure ((n : Int) - 1, (-1 : Int), Builtin.Slice.slicePlaces ((n : Int) - 1) (-1) (-1))) _ _ s
  rw [bp_places_rev]
  exact wpAny_pure h
theorem bp_pick_rev (xs : Array Value) : ((List.range xs.size).filterMap fun (m : Nat) => xs[(((xs.size : Nat) : Int) - 1 + (m : Int) * -1).toNat]?).toArray = xs.toList.reverse.toArray := by
  have e : (List.range xs.size).filterMap (fun (m : Nat) => xs[(((xs.size : Nat) : Int) - 1 + (m : Int) * -1).toNat]?) = ((List.range xs.size).map fun k => xs.size - 1 - k).filterMap (xs[·]?) := by
    rw [List.filterMap_map]
    have go : ∀ l : List Nat, (∀ m ∈ l, m < xs.size) → l.filterMap (fun (m : Nat) => xs[(((xs.size : Nat) : Int) - 1 + (m : Int) * -1).toNat]?) = l.filterMap ((xs[·]?) ∘ fun k => xs.size - 1 - k) := by
      intro l
      induction l with
      | nil => intro _; rfl
      | cons m l ih =>
        intro h
        have e : (((xs.size : Nat) : Int) - 1 + (m : Int) * -1).toNat = xs.size - 1 - m := by
          have := h m List.mem_cons_self
          omega
        have i := ih fun x hx => h x (List.mem_cons_of_mem _ hx)
        simp only [List.filterMap_cons, e, i, Function.comp]
    exact go _ fun m hm => List.mem_range.mp hm
  rw [e, PySem.W.krv_range, List.filterMap_reverse, PySem.W.krv_all]
theorem bp_getItem_rev {t sl : Addr} {items : Array Value} {vl vu vs : Value} {Q : Value → Shared → Prop} (ht : IsTup s.heap t items) (hs : s.heap.IsSliceOf sl vl vu vs) (pl : IsPart vl none) (pu : IsPart vu none) (ps : IsPart vs (some (-1)))
    (h : Q (.ref s.heap.objs.size) { s with heap := s.heap.push { cls := .type "tuple", data := .seq items.toList.reverse.toArray } })
    (hsz : items.size ≤ sizeLine) : wpAny (model prog w) A (getItem (.ref t) (.ref sl)) Q E s := by
  have htake : sizeOk (.seq items.toList.reverse.toArray) := by
    show items.toList.reverse.toArray.size ≤ sizeLine
    rw [List.size_toArray, List.length_reverse, Array.length_toList]
    exact hsz
  obtain ⟨os, hos, hcs, hds⟩ := id hs
  have hTs : s.TypeIs (.ref sl) "slice" := ⟨os, hos, hcs⟩
  unfold getItem
  try with_reducible refine wpAny_holding ?_
  first | refine wpAny_bind (wpAny_pure ?_) | skip
  refine wpAny_bind (wpAny_sequenceKey ht.typeIs (by decide) ?_)
  refine wpAny_bind (wpAny_callSpecial?_slot (name := Str.ofString "__getitem__") ht.typeIs PyProof.Rows.slot_tuple_getitem
    (wpAny_call_entry PyProof.Rows.slot_tuple_getitem ht.typeIs entry_tuple_getitem ?_ (args_tuple_getitem _ _)))
  show wpAny _ _ (Builtin.Tuple.tupleItemsOf (.ref t) >>= _) _ _ s
  refine wpAny_bind (tupleItemsOf_ ht ?_)
  refine wpAny_bind (wpAny_typeOf hTs ?_)
  rw [if_pos (by decide)]
  refine wpAny_bind (bp_applied_rev hs pl pu ps ?_)
  have hno : ¬ (((((items.size : Nat) : Int) - 1) == 0 && (-1 : Int) == 1 && items.size == items.size) = true) := by
    intro q
    rw [Bool.and_eq_true, Bool.and_eq_true] at q
    have q1 := eq_of_beq q.1.2
    exact absurd q1 (by decide)
  show wpAny _ _ (if ((((items.size : Nat) : Int) - 1) == 0 && (-1 : Int) == 1 && items.size == items.size) = true then _ else _) _ _ s
  rw [if_neg hno, bp_pick_rev]
  first
    | exact wpAny_bind (m := Builtin.Tuple.tupleExact _) (wpAny_newObj_type (wpAny_pure ⟨_, rfl, wpAny_pure h⟩) htake)
    | exact wpAny_bind (m := Builtin.Tuple.tupleExact _) (wpAny_newObj_type (wpAny_bind (wpAny_pure (wpAny_pure ⟨_, rfl, wpAny_pure h⟩))) htake)
    | exact wpAny_bind (wpAny_bind (m := Builtin.Tuple.tupleExact _) (wpAny_newObj_type (wpAny_pure (wpAny_pure ⟨_, rfl, wpAny_pure h⟩)) htake))
    | exact wpAny_bind (wpAny_bind (m := Builtin.Tuple.tupleExact _) (wpAny_newObj_type (wpAny_pure ⟨_, rfl, wpAny_pure h⟩) htake))
end
end HT
namespace Bp
open PySem PySem.Spec PyProof.Rows L2
section
variable {X : Cx}
/-- t[::-1] of a list or a tuple -/
def tRevA (K : PySem.W.Frag) (te : TE) : TE := fun σ H Q => te σ H fun x H1 => ∃ a xs, x = .ref a ∧ ((SqL K H1 a xs ∧ ∀ p, H1 p = none → Q (.ref p) (upd H1 p (.lst xs.reverse))) ∨ (SqT K H1 a xs ∧ ∀ p, H1 p = none → Q (.ref p) (upd H1 p (.tup xs.reverse))))
theorem pe_revA {e : Expr} {te : TE} {k : Nat} {p1 p2 p3 pos : Pos} (he : PE X e te) : PE X (.Subscript e (.Slice none none (some (.UnaryOp .USub (.Constant (.int 1) k p1) p2)) p3) pos) (tRevA X.K te) := by
  refine ⟨fun pins s σ H Q I h => ?_⟩
  refine Subscript_ (thn (he.run pins s σ H _ I h) fun v s1 ⟨x, H1, I1, r1, q1⟩ => ?_)
  obtain ⟨a, xs, ex, hx⟩ := q1
  subst ex
  cases r1
  have hst : PO X (some (.UnaryOp .USub (.Constant (.int 1) k p1) p2)) (tPart (tUn (rU fun i => .int (-i)) (tC (.int 1)))) := po_some (pe_un un_neg pe_int)
  refine wpAny_Slice (thn (po_none.run pins s1 σ H1 (fun o H2 => o = none ∧ H2 = H1) I1 ⟨rfl, rfl⟩) fun vl s2 ⟨l, H2, I2, pl, el, e2⟩ => ?_)
  subst el e2
  refine thn (po_none.run pins s2 σ H2 (fun o H3 => o = none ∧ H3 = H2) I2 ⟨rfl, rfl⟩) fun vu s3 ⟨u, H3, I3, pu, eu, e3⟩ => ?_
  subst eu e3
  refine thn (hst.run pins s3 σ H3 (fun o H4 => o = some (-1) ∧ H4 = H3) I3 ⟨1, rfl, -1, rfl, rfl, rfl⟩) fun vs s4 ⟨o, H4, I4, ps, eo, e4⟩ => ?_
  subst eo e4
  have I5 : Inv X pins σ H4 { s4 with heap := s4.heap.push { cls := .type "slice", data := .fields #[vl, vu, vs] } } := I4.kept (t' := s4.toks) fun b ob q => Heap.get?_push_of_some _ q
  rcases hx with ⟨hx, q⟩ | ⟨hx, q⟩
  · obtain ⟨its, r, ht, hz⟩ := I5.list hx
    have hlen := r.length
    show wpAny (model X.prog X.w) X.A (subscriptTail e (.Slice none none (some (.UnaryOp .USub (.Constant (.int 1) k p1) p2)) p3) (.ref a) (.ref s4.heap.objs.size)) (EP X pins σ Q) X.xe { s4 with heap := s4.heap.push { cls := .type "slice", data := .fields #[vl, vu, vs] } }
    refine tail_any (ops := [.ref a, .ref s4.heap.objs.size]) ht.isList.typeIs (PySem.slot_list_getitem.lookup) ?_ (by with_unfolding_all rfl)
    refine wpAny_getItem_list_slice ht.isList (Heap.IsSliceOf.new _ vl vu vs) pl pu ps (by decide) ?_ (by rw [List.size_toArray]; omega)
    rw [PySem.W.krv_pick]
    refine ⟨.ref _, _, I5.laid (t' := s4.toks) (o := .lst xs.reverse) (fun b ob q => Heap.get?_push_of_some _ q) (Nat.le_refl _) ?_, rfl, q _ (I5.hok.fresh (Nat.le_refl _))⟩
    exact ⟨by rw [List.length_reverse]; exact hz, _, 0, r.reverse, Heap.get?_push_size _ rfl⟩
  · obtain ⟨its, r, ht, hz⟩ := I5.tuple hx
    have hlen := r.length
    show wpAny (model X.prog X.w) X.A (subscriptTail e (.Slice none none (some (.UnaryOp .USub (.Constant (.int 1) k p1) p2)) p3) (.ref a) (.ref s4.heap.objs.size)) (EP X pins σ Q) X.xe { s4 with heap := s4.heap.push { cls := .type "slice", data := .fields #[vl, vu, vs] } }
    refine tail_any (ops := [.ref a, .ref s4.heap.objs.size]) ht.typeIs (PyProof.Rows.slot_tuple_getitem.lookup) ?_ (by with_unfolding_all rfl)
    refine HT.bp_getItem_rev ht (Heap.IsSliceOf.new _ vl vu vs) pl pu ps ?_ (by rw [List.size_toArray]; omega)
    refine ⟨.ref _, _, I5.laid (t' := s4.toks) (o := .tup xs.reverse) (fun b ob q => Heap.get?_push_of_some _ q) (Nat.le_refl _) ?_, rfl, q _ (I5.hok.fresh (Nat.le_refl _))⟩
    exact ⟨by rw [List.length_reverse]; exact hz, _, r.reverse, IsTup.new _ _⟩
end
section
variable {g : Glob} {X : Cx} {N : List Str} {sc : Scope} {k : Nat} {Wsh : WX} {en : Ent} {cf : Cf}
theorem RepL.rev {W : Wd} : ∀ {ds : List D} {vs : List V}, RepL g W ds vs → RepL g W ds.reverse vs.reverse
  | [], vs, h => by rw [RepL.nil_iff.mp h]; exact RepL.nil
  | d :: ds, vs, h => by
    obtain ⟨v, vs', ev, q, l⟩ := RepL.cons_iff.mp h
    subst ev
    rw [List.reverse_cons, List.reverse_cons]
    exact RepL.app (RepL.rev l) (RepL.cons q RepL.nil)
theorem sim_rev {a : Expr} {ca : E} {kk : Nat} {p1 p2 p3 pos : Pos} {m : Mode} (hm : m.val = true) (hK : X.K = g.K) (ha : PE X a (tsim g en Wsh cf .brw ca)) :
    PE X (.Subscript a (.Slice none none (some (.UnaryOp .USub (.Constant (.int 1) kk p1) p2)) p3) pos) (tsim g en Wsh cf m (.rev ca)) := by
  refine PE.imp (pe_revA ha) ?_
  rintro σ H Q ⟨W, env, st, M, C, h⟩
  rw [evE, fin_val hm] at h
  refine ⟨W, env, st, M, C, Go.bind h ?_⟩
  rintro dx st1 x W1 H1 - x1 C1 r1 h1
  obtain ⟨d, e, h4⟩ := Go.of h1
  have kk : Fin g W1 st1 H1 d Q := fun v W' H' x C' r => h4 v W' H' x C' (RepM.of hm r)
  unfold revD at e
  cases dx <;> (try (simp at e; done))
  · rename_i ds
    simp only [Option.some.injEq] at e
    subst e
    obtain ⟨p, vs, e1, q, r⟩ := r1.tup C1
    rw [e1]
    exact ⟨p, vs, rfl, .inr ⟨by rw [hK]; exact q, fun p hp => kk.tup C1 (RepL.rev r) p hp⟩⟩
  · rename_i ds
    simp only [Option.some.injEq] at e
    subst e
    obtain ⟨p, vs, e1, q, r⟩ := r1.lst C1
    rw [e1]
    exact ⟨p, vs, rfl, .inl ⟨SqL.of q, fun p hp => kk.lst C1 (RepL.rev r) p hp⟩⟩
theorem RepN.back {W W1 W' : Wd} {H H1 H' : Hp} {d : D} {v : V} (x1 : Ext W H W1 H1) (x2 : Ext W1 H1 W' H') (r : RepN g H1 W' H' d v) : RepN g H W' H' d v := by
  obtain ⟨ds, a, vs, e1, e2, n, e3, e4, e5, l⟩ := r
  refine ⟨ds, a, vs, e1, e2, ?_, e3, e4, e5, l⟩
  cases q : H a with
  | none => rfl
  | some o =>
    by_cases z : a ∈ W.α
    · exact absurd ((x1.le.trans x2.le).a.subset z) e5
    · have := x1.fr a o q z
      rw [n] at this; cases this
theorem simN_ife {t a b : Expr} {ct ca cb : E} {pos : Pos} (ht : PT X t (tsimT g en Wsh cf ct)) (ha : PE X a (tsimN g en Wsh cf ca)) (hb : PE X b (tsimN g en Wsh cf cb)) : PE X (.IfExp t a b pos) (tsimN g en Wsh cf (.ife ct ca cb)) := by
  refine PE.imp (pe_ifExp ht ha hb) ?_
  rintro σ H Q ⟨W, env, st, M, C, h⟩
  rw [evE, fin_frz] at h
  refine ⟨W, env, st, M, C, Go.asBl h ?_⟩
  intro b st1 v W1 H1 x1 C1 e h1
  cases e
  have go : ∀ {c : E}, Go g Wsh (RepN g H) σ W1 H1 (evE cf c .frz env st1) Q → tsimN g en Wsh cf c σ H1 Q := fun {c} h1 => by
    refine ⟨W1, env, st1, M.ext x1, C1, ?_⟩
    cases q : evE cf c .frz env st1 with
    | ok d st' => rw [q] at h1; exact fun v W' H' x c r => h1 v W' H' x c (RepN.back x1 x r)
    | exc c d st' => rw [q] at h1; exact h1
    | bad => rw [q] at h1; exact h1
  cases b with
  | true => rw [if_pos rfl] at h1 ⊢; exact go h1
  | false => rw [if_neg Bool.false_ne_true] at h1 ⊢; exact go h1
end
end Bp
set_option Elab.async false
set_option linter.all false
set_option maxRecDepth 100000
/-! BpEnum: enumerate over a tuple. -/
namespace Bp
open PySem PySem.Spec PyProof.Rows L2
open Sem (wp)
set_option maxHeartbeats 2000000 in
theorem meets_enum_T (l : Addr) (items : Array Value) :
    Meets (Builtin.«enumerate.__new__» ⟨[.type "enumerate", .ref l], []⟩) (fun _ R s => s.heap.IsTuple l items ∧
      R (.ok (.ret (.ref (s.heap.push { cls := .type "tuple_iterator", data := .fields #[.ref l, .int 0 0] }).objs.size)))
        { s with heap := (s.heap.push { cls := .type "tuple_iterator", data := .fields #[.ref l, .int 0 0] }).push { cls := .type "enumerate", data := .fields #[.none, .bool false, .ref s.heap.objs.size, rawInt 0, .none, .none] } }) :=
  .of_wp fun prog w A R s h => by
    obtain ⟨hp, g, d, tk, os⟩ := s; obtain ⟨hl, h⟩ := h
    have hsub := sub_enumerate
    have q1 : ∀ {A' : Around} {E : Value → Shared → Prop} {Q : Value → Shared → Prop}, Q (.ref hp.objs.size) ⟨hp.push { cls := .type "tuple_iterator", data := .fields #[.ref l, .int 0 0] }, g, d, tk, os⟩ → wpAny (model prog w) A' (pyIter (.ref l)) Q E ⟨hp, g, d, tk, os⟩ :=
      fun q => wpAny_pyIter_tuple hl q
    wp_walk using q1
    refine wpAny_stack_any fun st => wpAny_pure ?_
    split
    · rename_i c _ _ _ _ _
      cases (c == Value.type "enumerate")
      · wp_walk using q1
        exact ⟨_, rfl, h⟩
      · wp_walk using q1
        exact ⟨_, rfl, h⟩
    · wp_walk using q1
      exact ⟨_, rfl, h⟩

theorem call_enum_T {prog : Program} {w : World} {A : Around} {E : Value → Shared → Prop} {s : Shared} {l : Addr} {items : Array Value} {Q : Value → Shared → Prop} (hL : s.heap.IsTuple l items)
    (h : ∀ h', IsEnum h' (s.heap.objs.size + 1) s.heap.objs.size 0 .none → h'.IsTupleIter s.heap.objs.size l 0 → h'.objs.size = s.heap.objs.size + 2 →
      (∀ b o, s.heap.get? b = some o → h'.get? b = some o) → Q (.ref (s.heap.objs.size + 1)) { s with heap := h' }) :
    wpAny (model prog w) A (call (.type "enumerate") [.ref l]) Q E s := by
  refine callType_new F.called_enumerate (by decide) (F.typeCall_enumerate_1 _) (F.newCall_enumerate_1 _) (fun obj => F.args_object_init_2 obj _) F.entry_enumerate_new
    (meets_enum_T l items) ⟨hL, ?_⟩
  have hz : (s.heap.push { cls := .type "tuple_iterator", data := .fields #[.ref l, .int 0 0] }).objs.size = s.heap.objs.size + 1 := Heap.size_push ..
  show _ ∧ _
  rw [hz]
  have he : IsEnum ((s.heap.push { cls := .type "tuple_iterator", data := .fields #[.ref l, .int 0 0] }).push
      { cls := .type "enumerate", data := .fields #[.none, .bool false, .ref s.heap.objs.size, rawInt 0, .none, .none] }) (s.heap.objs.size + 1) s.heap.objs.size 0 .none := by
    have := Heap.get?_push_size (s.heap.push { cls := .type "tuple_iterator", data := .fields #[.ref l, .int 0 0] })
      (o := { cls := .type "enumerate", data := .fields #[.none, .bool false, .ref s.heap.objs.size, rawInt 0, .none, .none] }) rfl
    rw [hz] at this; exact this
  refine ⟨⟨_, he, rfl⟩, h _ he ⟨_, Heap.get?_push_of_some _ (Heap.get?_push_size _ rfl), rfl, rfl⟩ (by rw [Heap.size_push, hz]) fun b o x => Heap.get?_push_of_some _ (Heap.get?_push_of_some _ x)⟩
def IteT (K : PySem.W.Frag) (a : Addr) : L2.It :=
  ⟨fun i H => ∃ (xs : List V) (x : V), SqT K H a xs ∧ xs[i]? = some x, fun i H v H' => ∃ T x, v = .ref T ∧ H T = none ∧ H' = upd H T (.tup [.int (i : Nat), x]) ∧ ∀ xs, SqT K H a xs → xs[i]? = some x, fun i H => ∃ xs : List V, SqT K H a xs ∧ xs.length = i⟩
theorem enum_apart {h : Heap} {e it a : Addr} {i : Int} {old : Value} {items : Array Value} (he : IsEnum h e it i old) (ht : h.IsTuple a items) : e ≠ a := fun z => by
  subst z
  obtain ⟨o, ho, hc, _⟩ := ht
  have he : h.get? e = some _ := he
  rw [he] at ho
  cases ho
  exact absurd hc (by simp)
theorem turn_enumT {P : Program} {w : World} {K : PySem.W.Frag} {elts : List Expr} {kk : Nat} {tpos : Pos} (a e it : Addr) (hai : a ≠ it) :
    Turn P w K (.Tuple elts kk tpos) (IteT K a) [e, it] e (fun i h => (∃ old, IsEnum h e it ((i : Nat) : Int) old) ∧ h.IsTupleIter it a i ∧ e ≠ it) where
  mem := by simp
  obj := fun i h st b hb => by
    obtain ⟨⟨old, he⟩, ⟨o, ho, hc, hd⟩, _⟩ := st
    have e' : b = e ∨ b = it := by simpa using hb
    rcases e' with z | z
    · rw [z]; exact ⟨_, he, fun v q => nomatch q⟩
    · rw [z]; exact ⟨o, ho, fun v q => by rw [hd] at q; cases q⟩
  keep := fun i h h' st k => let ⟨⟨old, he⟩, hi, hne⟩ := st; ⟨⟨old, k e (by simp) _ he⟩, hi.at fun o q => k it (by simp) o q, hne⟩
  item := by
    intro X hP hw hK hc i pins s σ H E I hf st hg
    subst hP hw hK
    obtain ⟨⟨old, he⟩, hit, hne⟩ := st
    obtain ⟨xs, x, hq, hx⟩ := hg
    obtain ⟨its, rv, p, hz⟩ := I.tuple hq
    obtain ⟨u, hu, ru⟩ := rv.get hx
    have hel : e < s.heap.objs.size := Heap.lt_size he
    have hil : it < s.heap.objs.size := by obtain ⟨_, q, _⟩ := hit; exact Heap.lt_size q
    have hea : e ≠ a := enum_apart he p
    have hlt : i < its.toArray.size := by
      rw [List.size_toArray]; exact (List.getElem?_eq_some_iff.mp hu).1
    refine wpAny_pyNext_enum_itemD (Draws.tuple (A := X.A.in1) (I.ok.hd hc) it a hai its.toArray) he ⟨hit, p⟩ hlt hne (by simp [hne, hea]) fun y h' tk hP ho hst' hT hsz hk => ?_
    have hyu : y = u := by
      have h1 : its[i]? = some y := by simpa using hP
      rw [hu] at h1
      exact (Option.some.inj h1).symm
    subst hyu
    obtain ⟨hit', p'⟩ := hst'
    refine ⟨_, rfl, wpAny_letOwnedTupleGo_enum (s := { s with heap := h', toks := tk + 1 }) ho fun h'' he' sb => ?_⟩
    have hT2 : h''.get? s.heap.objs.size = some { cls := .type "tuple", data := .seq #[.int i tk, y] } := (sb.2 _ (Nat.ne_of_gt hel)).trans hT
    have new : ObjOk X.prog X.w (upd H s.heap.objs.size (.tup [.int (i : Nat), x])) h'' s.heap.objs.size (.tup [.int (i : Nat), x]) :=
      ⟨by show 2 ≤ sizeLine; decide, [.int i tk, y], .cons ⟨_, rfl⟩ (.cons ru .nil), ⟨_, hT2, rfl, _, rfl⟩⟩
    have I1 : Inv X pins σ (upd H s.heap.objs.size (.tup [.int (i : Nat), x])) { s with heap := h'', toks := tk + 1 } :=
      I.turnedNew (ch := [e, it]) (fun b ob hb q => (sb.2 b (fun z => hb (by simp [z]))).trans (hk b ob (fun z => hb (by simp [z])) (fun z => hb (by simp [z])) q)) hf (Nat.le_refl _) new
    refine ⟨.ref s.heap.objs.size, _, I1, rfl, ⟨_, x, rfl, I.hok.fresh (Nat.le_refl _), rfl, fun ys hy => by rw [I.tuple_inj hy hq]; exact hx⟩, ⟨⟨y, ?_⟩, hit'.at fun o q => (sb.2 it (Ne.symm hne)).trans q, hne⟩, fun b hb => ?_⟩
    · have e1 : ((i + 1 : Nat) : Int) = (i : Int) + 1 := by omega
      rw [e1]; exact he'
    · have hb' : b < s.heap.objs.size := by
        have e' : b = e ∨ b = it := by simpa using hb
        rcases e' with z | z
        · rw [z]; exact hel
        · rw [z]; exact hil
      rw [upd_ne (Nat.ne_of_lt hb')]
      exact (hf b hb).1
  done := by
    intro X hP hw hK hc i pins s σ H E I hf st hg
    subst hP hw hK
    obtain ⟨⟨old, he⟩, hit, hne⟩ := st
    obtain ⟨xs, hq, hx⟩ := hg
    obtain ⟨its, rv, p, hz⟩ := I.tuple hq
    obtain ⟨f0, f1, f2, f3, f4, f5⟩ := hf it (by simp)
    have hl := rv.length
    have ei : i = its.toArray.size := by rw [List.size_toArray]; omega
    rw [ei] at hit he
    exact wpAny_pyNext_enum_endD (Draws.tuple (A := X.A.in1) (I.ok.hd hc) it a hai its.toArray) he ⟨hit, p⟩ fun h' eb => ⟨rfl, I.turned (t' := s.toks) (fun b o hb q => eb b o hb q) f0 f1 f3 f4 f5⟩
  self := fun A i s Q E st h => let ⟨⟨_, he⟩, _⟩ := st; wpAny_pyIter_enum he h

def iEnumA (K : PySem.W.Frag) (ta : TA) : TI := fun σ H R => ta σ H fun vs H1 => ∃ a xs, vs = [.ref a] ∧ ((SqL K H1 a xs ∧ R (Ite K a) H1) ∨ (SqT K H1 a xs ∧ R (IteT K a) H1))
theorem pi_enumA {X : Cx} {e : Expr} {ta : TA} {p pos tpos : Pos} {elts : List Expr} {kk : Nat} (hg : Gl X "enumerate") (hm : X.mg "enumerate" = none) (ha : PA X [e] ta) (hs : starEach [e] X.env = [(false, eval e X.env)]) :
    PI X (.Tuple elts kk tpos) (.Call (.Name "enumerate" p) [e] [] pos) (iEnumA X.K ta) := by
  refine ⟨fun pins s σ H R I h => ?_⟩
  refine Call_ (ld_blt I hg hm boot_enumerate (PyProof.Rows.callWith_type1 (thn (ha.run pos pins s σ H _ I h) fun us s1 ⟨vs, H1, I1, r1, q1⟩ => ?_) hs rfl))
  obtain ⟨a, xs, ex, q1⟩ := q1
  subst ex
  cases r1 with
  | cons r rr =>
    cases rr
    cases r
    have fresh : ∀ b, b ∈ [s1.heap.objs.size + 1, s1.heap.objs.size] → FpOk X pins H1 b := fun b hb => by
      have e' : b = s1.heap.objs.size + 1 ∨ b = s1.heap.objs.size := by simpa using hb
      have hle : s1.heap.objs.size ≤ b := by
        rcases e' with z | z
        · rw [z]; exact Nat.le_add_right _ _
        · rw [z]; exact Nat.le_refl _
      exact I1.fpOk hle (I1.hok.fresh hle)
    rcases q1 with ⟨hq, q⟩ | ⟨hq, q⟩
    · obtain ⟨its, rv, p', hz⟩ := I1.list hq
      refine call_enumerate_list p'.isList fun h' he hit hsz hk => wpAny_pyIter_enum he ?_
      have I2 : Inv X pins σ H1 { s1 with heap := h' } := I1.kept (t' := s1.toks) hk
      exact ⟨s1.heap.objs.size + 1, [s1.heap.objs.size + 1, s1.heap.objs.size], _, _, H1, rfl, I2, turn_enum a (s1.heap.objs.size + 1) s1.heap.objs.size, ⟨⟨.none, he⟩, hit, Nat.succ_ne_self _⟩, fresh, q⟩
    · obtain ⟨its, rv, p', hz⟩ := I1.tuple hq
      obtain ⟨o1, ho1, _⟩ := id p'
      have hne : a ≠ s1.heap.objs.size := Nat.ne_of_lt (Heap.lt_size ho1)
      refine call_enum_T (show s1.heap.IsTuple a its.toArray from p') fun h' he hit hsz hk => wpAny_pyIter_enum he ?_
      have I2 : Inv X pins σ H1 { s1 with heap := h' } := I1.kept (t' := s1.toks) hk
      exact ⟨s1.heap.objs.size + 1, [s1.heap.objs.size + 1, s1.heap.objs.size], _, _, H1, rfl, I2, turn_enumT a (s1.heap.objs.size + 1) s1.heap.objs.size hne, ⟨⟨.none, he⟩, hit, Nat.succ_ne_self _⟩, fresh, q⟩
theorem walk_enumT {K : PySem.W.Frag} {a : Addr} {xs : List V} : L2.Walk (IteT K a) xs.length (fun H => SqT K H a xs) (YPair (fun i => some (.int (i : Nat))) (fun i => xs[i]?)) := by
  refine ⟨fun i _ hi q => ⟨xs, xs[i], q, by simp [hi]⟩, fun _ q => ⟨xs, q, rfl⟩, fun i H v H' _ q y => ?_⟩
  obtain ⟨T, x, h1, h2, h3, h4⟩ := y
  exact ⟨T, .int (i : Nat), x, h1, h2, h3, rfl, h4 xs q⟩
theorem walk_zipT {K : PySem.W.Frag} {a b : Addr} {xs ys : List V} {n : Nat} (hn : n = min xs.length ys.length) : L2.Walk (RZ.ItzT K a b) n (fun H => SqT K H a xs ∧ SqT K H b ys) (YPair (fun i => xs[i]?) (fun i => ys[i]?)) := by
  subst hn
  refine ⟨fun i _ hi q => ?_, fun _ q => ⟨xs, ys, q.1, q.2, by omega⟩, fun i H v H' _ q y => ?_⟩
  · have h1 : i < xs.length := by omega
    have h2 : i < ys.length := by omega
    exact ⟨xs, ys, xs[i], ys[i], q.1, q.2, by simp [h1], by simp [h2]⟩
  · obtain ⟨T, x, z, h1, h2, h3, h4, h5⟩ := y
    exact ⟨T, x, z, h1, h2, h3, h4 xs q.1, h5 ys q.2⟩
end Bp
set_option Elab.async false
set_option linter.all false
set_option maxRecDepth 100000
/-! BpComp: what is walked over, targets, comprehensions. -/
namespace Bp
open PySem PySem.Spec PyProof.Rows L2

/-! ### slots -/
section
variable {g : Glob} {en : Ent} {W : Wd} {H : Hp} {env : Env} {σ : L2.St}
theorem EnvM.unset (m : EnvM g en W env σ H) (i : Nat) : EnvM g en W (env.set i none) (σ.set i none) H := by
  have back : ∀ (j : Nat) (s : Slot), (env.set i none)[j]? = some (some s) → j ≠ i ∧ env[j]? = some (some s) := fun j s e => by
    by_cases z : i = j
    · subst z
      by_cases hl : i < env.length
      · rw [List.getElem?_set_self hl] at e; cases e
      · rw [List.getElem?_eq_none (by simpa using hl)] at e; cases e
    · rw [List.getElem?_set_ne z] at e; exact ⟨fun q => z q.symm, e⟩
  have same : ∀ (j : Nat), j ≠ i → (σ.set i none)[j]? = σ[j]? := fun j h => List.getElem?_set_ne (fun q => h q.symm)
  refine ⟨m.ent, by rw [List.length_set, List.length_set, m.len], fun j s e => ?_, fun j o a e1 e2 => ?_, fun j k o o' v hne e1 e2 e3 e4 => ?_⟩
  · obtain ⟨h1, h2⟩ := back j s e
    rw [same j h1]; exact m.slot j s h2
  · obtain ⟨h1, h2⟩ := back j _ e1
    rw [same j h1] at e2; exact m.own j o a h2 e2
  · obtain ⟨h1, h2⟩ := back j _ e1
    obtain ⟨h3, h4⟩ := back k _ e2
    rw [same j h1] at e3
    rw [same k h3] at e4
    exact m.apart j k o o' v hne h2 h4 e3 e4
theorem EnvM.wipe (m : EnvM g en W env σ H) : ∀ vs : List Nat, EnvM g en W (wipeE env vs) (L2.wipe σ vs) H
  | [] => m
  | v :: vs => (EnvM.wipe m vs).unset v
theorem EnvM.put (m : EnvM g en W env σ H) {i : Nat} {d : D} {v : V} (hi : i < env.length) (r : Rep g W d v) : EnvM g en W (env.set i (some (.val d))) (σ.set i (some v)) H := by
  have hi2 : i < σ.length := by rw [m.len]; exact hi
  have back : ∀ (j : Nat) (o : Bp.Obj), (env.set i (some (.val d)))[j]? = some (some (.own o)) → j ≠ i ∧ env[j]? = some (some (.own o)) := fun j s e => by
    by_cases z : i = j
    · subst z
      rw [List.getElem?_set_self hi] at e; cases e
    · rw [List.getElem?_set_ne z] at e; exact ⟨fun q => z q.symm, e⟩
  have same : ∀ (j : Nat), j ≠ i → (σ.set i (some v))[j]? = σ[j]? := fun j h => List.getElem?_set_ne (fun q => h q.symm)
  refine ⟨m.ent, by rw [List.length_set, List.length_set, m.len], fun j s e => ?_, fun j o a e1 e2 => ?_, fun j k o o' v hne e1 e2 e3 e4 => ?_⟩
  · by_cases z : i = j
    · subst z
      rw [List.getElem?_set_self hi] at e
      cases e
      exact ⟨v, by rw [List.getElem?_set_self hi2], r⟩
    · rw [List.getElem?_set_ne z] at e
      rw [List.getElem?_set_ne z]; exact m.slot j s e
  · obtain ⟨h1, h2⟩ := back j _ e1
    rw [same j h1] at e2; exact m.own j o a h2 e2
  · obtain ⟨h1, h2⟩ := back j _ e1
    obtain ⟨h3, h4⟩ := back k _ e2
    rw [same j h1] at e3
    rw [same k h3] at e4
    exact m.apart j k o o' v hne h2 h4 e3 e4
end
theorem wipe_set {σ : L2.St} {i : Nat} {x : Option V} : ∀ {vs : List Nat}, i ∈ vs → L2.wipe (σ.set i x) vs = L2.wipe σ vs
  | v :: vs, h => by
    show (L2.wipe (σ.set i x) vs).set v none = (L2.wipe σ vs).set v none
    by_cases hv : i ∈ vs
    · rw [wipe_set hv]
    · have e : v = i := by
        rcases List.mem_cons.mp h with h | h
        · exact h.symm
        · exact absurd h hv
      subst e
      have go : ∀ (us : List Nat), L2.wipe (σ.set v x) us = (L2.wipe σ us).set v x ∨ L2.wipe (σ.set v x) us = L2.wipe σ us := by
        intro us
        induction us with
        | nil => exact .inl rfl
        | cons u us ih =>
          show (L2.wipe (σ.set v x) us).set u none = ((L2.wipe σ us).set u none).set v x ∨ (L2.wipe (σ.set v x) us).set u none = (L2.wipe σ us).set u none
          rcases ih with e | e
          · by_cases z : u = v
            · subst z
              right
              rw [e, List.set_set]
            · left
              rw [e, List.set_comm _ _ (fun q => z q.symm)]
          · right; rw [e]
      rcases go vs with e | e
      · rw [e, List.set_set]
      · rw [e]
mutual
def Tg.slots : Tg → List Nat
  | .slot i => [i]
  | .tup ts => Tg.slotsL ts
def Tg.slotsL : List Tg → List Nat
  | [] => []
  | t :: ts => t.slots ++ Tg.slotsL ts
end
/-- what is owned was owned -/
def OwnSub (env env2 : Env) (σ σ2 : L2.St) : Prop := ∀ (i : Nat) (o : Bp.Obj), env2[i]? = some (some (.own o)) → env[i]? = some (some (.own o)) ∧ σ2[i]? = σ[i]?
theorem OwnSub.refl {env : Env} {σ : L2.St} : OwnSub env env σ σ := fun _ _ e => ⟨e, rfl⟩
theorem OwnSub.trans {e1 e2 e3 : Env} {s1 s2 s3 : L2.St} (h : OwnSub e1 e2 s1 s2) (k : OwnSub e2 e3 s2 s3) : OwnSub e1 e3 s1 s3 := fun i o e => by
  obtain ⟨a, b⟩ := k i o e
  obtain ⟨c, d⟩ := h i o a
  exact ⟨c, b.trans d⟩
theorem OwnSub.set {env : Env} {σ : L2.St} {i : Nat} {s : Option Slot} {v : Option V} (hs : ∀ o, s ≠ some (.own o)) : OwnSub env (env.set i s) σ (σ.set i v) := fun j o e => by
  by_cases z : i = j
  · subst z
    by_cases hl : i < env.length
    · rw [List.getElem?_set_self hl] at e
      exact absurd (Option.some.inj e) (hs o)
    · rw [List.getElem?_eq_none (by simpa using hl)] at e; cases e
  · rw [List.getElem?_set_ne z] at e
    exact ⟨e, List.getElem?_set_ne z⟩
theorem OwnSub.wipe {env : Env} {σ : L2.St} : ∀ vs : List Nat, OwnSub env (wipeE env vs) σ (L2.wipe σ vs)
  | [] => .refl
  | v :: vs => (OwnSub.wipe vs).trans (.set fun o => by simp)
theorem OwnSub.put {env : Env} {σ : L2.St} {i : Nat} {d : D} {v : V} : OwnSub env (env.set i (some (.val d))) σ (σ.set i (some v)) := .set fun o => by simp
def tsimG (g : Glob) (en : Ent) (tg : Tg) : TG := fun v σ H Q => ∃ W env st d env2, EnvM g en W env σ H ∧ CellM g W st H ∧ Rep g W d v ∧ bindT tg d env = some env2 ∧ ∀ σ2, EnvM g en W env2 σ2 H → (∀ vs : List Nat, (∀ i ∈ tg.slots, i ∈ vs) → L2.wipe σ2 vs = L2.wipe σ vs) → OwnSub env env2 σ σ2 → Q σ2 H
def tsimGs (g : Glob) (en : Ent) (tgs : List Tg) : TGs := fun us σ H Q => ∃ W env st ds env2, EnvM g en W env σ H ∧ CellM g W st H ∧ RepL g W ds us ∧ bindTs tgs ds env = some env2 ∧ ∀ σ2, EnvM g en W env2 σ2 H → (∀ vs : List Nat, (∀ i ∈ Tg.slotsL tgs, i ∈ vs) → L2.wipe σ2 vs = L2.wipe σ vs) → OwnSub env env2 σ σ2 → Q σ2 H
theorem PG.imp {X : Cx} {e : Expr} {t t' : TG} (h : PG X e t) (i : ∀ v σ H Q, t' v σ H Q → t v σ H Q) : PG X e t' := ⟨fun pins s σ H v u Q I r q => h.run pins s σ H v u Q I r (i v σ H Q q)⟩
theorem PGs.imp {X : Cx} {e : List Expr} {t t' : TGs} (h : PGs X e t) (i : ∀ v σ H Q, t' v σ H Q → t v σ H Q) : PGs X e t' := ⟨fun pins s σ H v u Q I r q => h.run pins s σ H v u Q I r (i v σ H Q q)⟩
section
variable {g : Glob} {X : Cx} {N : List Str} {sc : Scope} {k : Nat} {Wsh : WX} {en : Ent} {cf : Cf}
theorem simG_slot {i : Nat} {x : Str} {pos : Pos} (hnd : X.N.Nodup) (hN : X.N[i]? = some x) (hx : Loc X.env.scope x) (hf : X.fn x = true ∨ X.env.scope.names.lookup x = some .local) : PG X (.Name x pos) (tsimG g en (.slot i)) := by
  refine PG.imp (pg_name hnd hN hx hf) ?_
  rintro v σ H Q ⟨W, env, st, d, env2, M, C, r, e, q⟩
  simp only [bindT] at e
  split at e
  · rename_i hi
    cases e
    exact q _ (M.put hi r) (fun vs h => wipe_set (h i (by simp [Tg.slots]))) .put
  · cases e
theorem simGs_nil : PGs X [] (tsimGs g en []) := by
  refine PGs.imp pgs_nil ?_
  rintro v σ H Q ⟨W, env, st, ds, env2, M, C, r, e, q⟩
  cases ds with
  | nil =>
    simp only [bindTs, Option.some.injEq] at e
    subst e
    exact ⟨RepL.nil_iff.mp r, q σ M (fun _ _ => rfl) .refl⟩
  | cons d ds => simp [bindTs] at e
theorem simGs_cons {e : Expr} {es : List Expr} {t : Tg} {ts : List Tg} (h1 : PG X e (tsimG g en t)) (h2 : PGs X es (tsimGs g en ts)) (hs : (assignEach (e :: es) X.env).map (·.2) = assign e X.env :: (assignEach es X.env).map (·.2)) : PGs X (e :: es) (tsimGs g en (t :: ts)) := by
  refine PGs.imp (pgs_cons h1 h2 hs) ?_
  rintro us σ H Q ⟨W, env, st, ds, env2, M, C, r, e, q⟩
  cases ds with
  | nil => simp [bindTs] at e
  | cons d ds =>
    simp only [bindTs] at e
    obtain ⟨env1, e1, e2⟩ := Option.bind_eq_some_iff.mp e
    obtain ⟨v, us', eu, rv, rl⟩ := RepL.cons_iff.mp r
    refine ⟨v, us', eu, W, env, st, d, env1, M, C, rv, e1, fun σ1 M1 w1 o1 => ?_⟩
    refine ⟨W, env1, st, ds, env2, M1, C, rl, e2, fun σ2 M2 w2 o2 => q σ2 M2 (fun vs h => ?_) (o1.trans o2)⟩
    rw [w2 vs fun i hi => h i (by simp only [Tg.slotsL, List.mem_append]; exact .inr hi), w1 vs fun i hi => h i (by simp only [Tg.slotsL, List.mem_append]; exact .inl hi)]
theorem bindTs_len : ∀ {ts : List Tg} {ds : List D} {env env2 : Env}, bindTs ts ds env = some env2 → ds.length = ts.length
  | [], [], _, _, _ => rfl
  | [], _ :: _, _, _, h => by simp [bindTs] at h
  | _ :: _, [], _, _, h => by simp [bindTs] at h
  | t :: ts, d :: ds, env, env2, h => by
    simp only [bindTs] at h
    obtain ⟨env1, e1, e2⟩ := Option.bind_eq_some_iff.mp h
    rw [List.length_cons, List.length_cons, bindTs_len e2]
theorem simG_tup {es : List Expr} {kk : Nat} {ts : List Tg} {pos : Pos} (hc : X.calm = true) (hK : X.K = g.K) (h : PGs X es (tsimGs g en ts)) (hn : (assignEach es X.env).length = ts.length) (hst : (assignEach es X.env).findIdx? (·.1) = none) : PG X (.Tuple es kk pos) (tsimG g en (.tup ts)) := by
  refine PG.imp (pg_tup (n := ts.length) hc h hn hst) ?_
  rintro v σ H Q ⟨W, env, st, d, env2, M, C, r, e, q⟩
  simp only [bindT] at e
  cases d <;> (try (simp at e; done))
  rename_i ds
  simp only at e
  obtain ⟨a, vs, e1, s, l⟩ := r.sqT C
  refine ⟨a, vs, e1, by rw [hK]; exact s, by rw [← l.len, bindTs_len e], W, env, st, ds, env2, M, C, l, e, fun σ2 M2 w2 o2 => q σ2 M2 (fun vs h => w2 vs fun i hi => h i (by simp only [Tg.slots]; exact hi)) o2⟩
end

/-! ### what is walked over -/
def Later (fz : Bool) (W : Wd) (H : Hp) (W' : Wd) (H' : Hp) : Prop := if fz = true then Wle W W' else Ext W H W' H'
theorem Later.le {fz : Bool} {W W' : Wd} {H H' : Hp} (h : Later fz W H W' H') : Wle W W' := by
  unfold Later at h
  split at h
  · exact h
  · exact h.le
theorem Later.trans {fz : Bool} {W W1 W2 : Wd} {H H1 H2 : Hp} (h : Later fz W H W1 H1) (x : Ext W1 H1 W2 H2) : Later fz W H W2 H2 := by
  unfold Later at h ⊢
  split
  · rename_i q; rw [if_pos q] at h; exact h.trans x.le
  · rename_i q; rw [if_neg q] at h; exact h.trans x
/-- the iterator gives these -/
structure ItR (g : Glob) (fz : Bool) (J : L2.It) (W : Wd) (H : Hp) (G : Hp → Prop) (Y : Nat → Hp → V → Hp → Prop) (xs : List D) : Prop where
  walk : L2.Walk J xs.length G Y
  holds : ∀ W' st' H', Later fz W H W' H' → CellM g W' st' H' → G H'
  gives : ∀ (i : Nat) (d : D) (W' : Wd) (st' : Store) (H' : Hp) (x : V) (H'' : Hp), xs[i]? = some d → Later fz W H W' H' → CellM g W' st' H' → Y i H' x H'' → ∃ W'', Ext W' H' W'' H'' ∧ CellM g W'' st' H'' ∧ Rep g W'' d x
def ItOk (g : Glob) (fz : Bool) (W : Wd) (H : Hp) (xs : List D) (J : L2.It) : Prop := ∃ G Y, ItR g fz J W H G Y xs
theorem ItOk.mk {g : Glob} {fz : Bool} {J : L2.It} {W : Wd} {H : Hp} {G : Hp → Prop} {Y : Nat → Hp → V → Hp → Prop} {xs : List D} {n : Nat} (hn : xs.length = n) (w : L2.Walk J n G Y) (h1 : ∀ W' st' H', Later fz W H W' H' → CellM g W' st' H' → G H')
    (h2 : ∀ (i : Nat) (d : D) (W' : Wd) (st' : Store) (H' : Hp) (x : V) (H'' : Hp), xs[i]? = some d → Later fz W H W' H' → CellM g W' st' H' → Y i H' x H'' → ∃ W'', Ext W' H' W'' H'' ∧ CellM g W'' st' H'' ∧ Rep g W'' d x) : ItOk g fz W H xs J := by
  subst hn
  exact ⟨G, Y, w, h1, h2⟩
def tsimI (g : Glob) (en : Ent) (Wsh : WX) (cf : Cf) (fz : Bool) (it : It) : TI := fun σ H R => ∃ W env st, EnvM g en W env σ H ∧ CellM g W st H ∧ Go g Wsh (fun W' H' xs J => ItOk g fz W' H' xs J) σ W H (evI cf it env st) R
theorem PI.imp {X : Cx} {tg e : Expr} {t t' : TI} (h : PI X tg e t) (i : ∀ σ H Q, t' σ H Q → t σ H Q) : PI X tg e t' := ⟨fun pins s σ H Q I q => h.run pins s σ H Q I (i σ H Q q)⟩
theorem PI.or {X : Cx} {tg e : Expr} {t t' : TI} (h : PI X tg e t) (h' : PI X tg e t') : PI X tg e (fun σ H R => t σ H R ∨ t' σ H R) := ⟨fun pins s σ H Q I q => by
  rcases q with q | q
  · exact h.run pins s σ H Q I q
  · exact h'.run pins s σ H Q I q⟩
section
variable {g : Glob} {X : Cx} {N : List Str} {sc : Scope} {k : Nat} {Wsh : WX} {en : Ent} {cf : Cf}
theorem itOk_lst {fz b : Bool} (hK : X.K = g.K) (hb : b = true → fz = false) {W : Wd} {st : Store} {H : Hp} {ds : List D} {v : V} (C : CellM g W st H) (r : RepM g (if b then .brw else .frz) W H (.lst ds) v) : ∃ a vs, v = .ref a ∧ SqL X.K H a vs ∧ ItOk g fz W H ds (Itl X.K a) := by
  cases b with
  | false =>
    have r : Rep g W (.lst ds) v := r
    obtain ⟨a, vs, e, q, l⟩ := Rep.lst_iff.mp r
    refine ⟨a, vs, e, SqL.of (C.fle _ _ q), ItOk.mk (by rw [l.len]) (walk_list (xs := vs)) ?_ ?_⟩
    · intro W' st' H' x C'
      exact SqL.of (C'.fle _ _ (x.le.f _ _ q))
    · intro i d W' st' H' x H'' hd x1 C' hy
      obtain ⟨eH, ev⟩ := hy
      rw [eH]
      obtain ⟨v', ev', rv⟩ := l.get hd
      rw [ev] at ev'
      cases ev'
      exact ⟨W', .refl, C', Rep.mono x1.le _ _ rv⟩
  | true =>
    have r : RepB g W H (.lst ds) v := r
    have hz := hb rfl
    subst hz
    have hp : ∃ a vs, v = .ref a ∧ H a = some (.lst vs) ∧ RepL g W ds vs ∧ ∀ W' st' H', Ext W H W' H' → CellM g W' st' H' → H' a = some (.lst vs) := by
      rcases r with r | ⟨es, a, vs, e1, e2, e3, e4, e5⟩
      · obtain ⟨a, vs, e, q, l⟩ := Rep.lst_iff.mp r
        exact ⟨a, vs, e, C.fle _ _ q, l, fun W' st' H' x C' => C'.fle _ _ (x.le.f _ _ q)⟩
      · cases e1
        exact ⟨a, vs, e2, e3, e5, fun W' st' H' x C' => x.fr _ _ e3 e4⟩
    obtain ⟨a, vs, e, q, l, hk⟩ := hp
    refine ⟨a, vs, e, SqL.of q, ItOk.mk (by rw [l.len]) (walk_list (xs := vs)) ?_ ?_⟩
    · intro W' st' H' x C'
      exact SqL.of (hk W' st' H' x C')
    · intro i d W' st' H' x H'' hd x1 C' hy
      obtain ⟨eH, ev⟩ := hy
      rw [eH]
      obtain ⟨v', ev', rv⟩ := l.get hd
      rw [ev] at ev'
      cases ev'
      exact ⟨W', .refl, C', Rep.mono x1.le _ _ rv⟩
theorem RepM.tup {b : Bool} {W : Wd} {H : Hp} {ds : List D} {v : V} (r : RepM g (if b then .brw else .frz) W H (.tup ds) v) : Rep g W (.tup ds) v := by
  cases b with
  | false => exact r
  | true => exact RepB.not_lst (show RepB g W H (.tup ds) v from r) fun _ => by simp
theorem itOk_tup {fz : Bool} (hK : X.K = g.K) {W : Wd} {st : Store} {H : Hp} {ds : List D} {v : V} (C : CellM g W st H) (r : Rep g W (.tup ds) v) : ∃ a vs, v = .ref a ∧ SqT X.K H a vs ∧ ItOk g fz W H ds (Itt X.K a) := by
  obtain ⟨a, vs, e, q, l⟩ := Rep.tup_iff.mp r
  refine ⟨a, vs, e, by rw [hK]; exact SqT.mono C.fle q, ItOk.mk (by rw [l.len]) (walk_tup (xs := vs)) ?_ ?_⟩
  · intro W' st' H' x C'
    rw [hK]; exact SqT.mono (fun a o e => C'.fle _ _ (x.le.f _ _ e)) q
  · intro i d W' st' H' x H'' hd x1 C' hy
    obtain ⟨eH, ev⟩ := hy
    rw [eH]
    obtain ⟨v', ev', rv⟩ := l.get hd
    rw [ev] at ev'
    cases ev'
    exact ⟨W', .refl, C', Rep.mono x1.le _ _ rv⟩
theorem simI_seq {fz b : Bool} {e tg : Expr} {c : E} (hK : X.K = g.K) (hb : b = true → fz = false) (h : PE X e (tsim g en Wsh cf (if b then .brw else .frz) c)) : PI X tg e (tsimI g en Wsh cf fz (.seq b c)) := by
  refine PI.imp (PI.or (pi_list h) (pi_tup h)) ?_
  rintro σ H R ⟨W, env, st, M, C, h⟩
  rw [evI] at h
  cases q : evE cf c (if b then .brw else .frz) env st with
  | bad => rw [q] at h; exact h.elim
  | exc c' d s =>
    rw [q] at h
    refine .inl ⟨W, env, st, M, C, ?_⟩
    rw [q]
    exact h
  | ok d st1 =>
    have hg := h
    rw [q] at h
    have h : Go g Wsh _ σ W H (Res.of d.items st1) R := h
    cases d <;> (try exact h.elim)
    · rename_i ds
      refine .inr ⟨W, env, st, M, C, ?_⟩
      rw [q]
      intro v W' H' x C' r
      obtain ⟨a, vs, e1, e2, e3⟩ := itOk_tup (X := X) (fz := fz) hK C' (RepM.tup r)
      exact ⟨a, e1, ⟨vs, e2⟩, h _ W' H' x C' e3⟩
    · rename_i ds
      refine .inl ⟨W, env, st, M, C, ?_⟩
      rw [q]
      intro v W' H' x C' r
      obtain ⟨a, vs, e1, e2, e3⟩ := itOk_lst (X := X) (fz := fz) hK hb C' r
      exact ⟨a, e1, ⟨vs, e2⟩, h _ W' H' x C' e3⟩
theorem upto_get : ∀ {n : Nat} {lo : Int} {i : Nat} {d : D}, (upto lo n)[i]? = some d → d = .int (lo + i)
  | 0, _, _, _, h => by simp [upto] at h
  | n + 1, lo, 0, d, h => by
    simp only [upto, List.getElem?_cons_zero, Option.some.injEq] at h
    rw [← h]; simp
  | n + 1, lo, i + 1, d, h => by
    simp only [upto, List.getElem?_cons_succ] at h
    rw [upto_get h]
    congr 1
    omega
theorem upto_len : ∀ (n : Nat) (lo : Int), (upto lo n).length = n
  | 0, _ => rfl
  | n + 1, lo => by rw [upto, List.length_cons, upto_len]
theorem itOk_range {fz : Bool} {W : Wd} {H : Hp} {lo : Int} {n : Nat} : ItOk g fz W H (upto lo n) (Itr lo n) := by
  refine ItOk.mk (upto_len _ _) (walk_range) ?_ ?_
  · intro W' st' H' x C'; trivial
  · intro i d W' st' H' x H'' hd x1 C' hy
    obtain ⟨eH, ev⟩ := hy
    rw [eH, ev, upto_get hd]
    exact ⟨W', .refl, C', Rep.int_iff.mpr rfl⟩
theorem r62 {i : Int} (h : range62 i = true) : -(2 ^ 62) ≤ i ∧ i < 2 ^ 62 := of_decide_eq_true h
theorem simI_rng1 {fz : Bool} {e tg : Expr} {c : E} {p pos : Pos} (cc : Ctx g X N sc k Wsh) (hg : sc.names.lookup ("range" : Str) = some .globalImplicit) (hmg : g.mg "range" = none) (h : PE X e (tsim g en Wsh cf .frz c)) (hs : starEach [e] X.env = [(false, eval e X.env)]) : PI X tg (.Call (.Name "range" p) [e] [] pos) (tsimI g en Wsh cf fz (.rng1 c)) := by
  refine PI.imp (pi_range1 (by show X.env.scope.names.lookup ("range" : Str) = _; rw [cc.hsc]; exact hg) (by rw [cc.hmg]; exact hmg) (pa_cons h pa_nil hs) hs) ?_
  rintro σ H R ⟨W, env, st, M, C, h⟩
  rw [evI] at h
  refine ⟨W, env, st, M, C, Go.bind h ?_⟩
  rintro d st1 v W1 H1 - x1 C1 r1 h1
  obtain ⟨xs, e1, h2⟩ := Go.of h1
  cases d <;> (try (simp [rng1D] at e1; done))
  rename_i j
  simp only [rng1D] at e1
  split at e1
  · rename_i hj
    cases e1
    obtain ⟨b1, b2⟩ := r62 hj
    exact ⟨j, by rw [Rep.int_iff.mp (show Rep g W1 (.int j) v from r1)], b1, b2, h2 _ W1 H1 .refl C1 itOk_range⟩
  · cases e1
theorem simI_rng2 {fz : Bool} {e e' tg : Expr} {c c' : E} {p pos : Pos} (cc : Ctx g X N sc k Wsh) (hg : sc.names.lookup ("range" : Str) = some .globalImplicit) (hmg : g.mg "range" = none) (h : PE X e (tsim g en Wsh cf .frz c)) (h' : PE X e' (tsim g en Wsh cf .frz c')) (hs : starEach [e, e'] X.env = (false, eval e X.env) :: starEach [e'] X.env) (hs2 : starEach [e'] X.env = [(false, eval e' X.env)]) : PI X tg (.Call (.Name "range" p) [e, e'] [] pos) (tsimI g en Wsh cf fz (.rng2 c c')) := by
  refine PI.imp (pi_range2 (by show X.env.scope.names.lookup ("range" : Str) = _; rw [cc.hsc]; exact hg) (by rw [cc.hmg]; exact hmg) (pa_cons h (pa_cons h' pa_nil hs2) hs) (by rw [hs, hs2]) hs2) ?_
  rintro σ H R ⟨W, env, st, M, C, h⟩
  rw [evI] at h
  refine ⟨W, env, st, M, C, Go.bind h ?_⟩
  rintro dx st1 v W1 H1 - x1 C1 r1 h1
  refine ⟨W1, env, st1, M.ext x1, C1, Go.bind h1 ?_⟩
  rintro dy st2 v' W2 H2 - x2 C2 r2 h2
  obtain ⟨xs, e1, h3⟩ := Go.of h2
  cases dx <;> (try (simp [rng2D] at e1; done))
  rename_i i
  cases dy <;> (try (simp [rng2D] at e1; done))
  rename_i j
  simp only [rng2D] at e1
  split at e1
  · rename_i hj
    cases e1
    rw [Bool.and_eq_true] at hj
    obtain ⟨b1, b2⟩ := r62 hj.1
    obtain ⟨b3, b4⟩ := r62 hj.2
    exact ⟨i, j, by rw [Rep.int_iff.mp (show Rep g W1 (.int i) v from r1), Rep.int_iff.mp (show Rep g W2 (.int j) v' from r2)], ⟨b1, b2, b3, b4⟩, h3 _ W2 H2 .refl C2 itOk_range⟩
  · cases e1
theorem enumD_len : ∀ (ds : List D) (i : Int), (enumD i ds).length = ds.length
  | [], _ => rfl
  | d :: ds, i => by rw [enumD, List.length_cons, List.length_cons, enumD_len]
theorem enumD_get : ∀ {ds : List D} {i : Int} {j : Nat} {d : D}, (enumD i ds)[j]? = some d → ∃ x, ds[j]? = some x ∧ d = .tup [.int (i + j), x]
  | [], _, _, _, h => by simp [enumD] at h
  | x :: ds, i, 0, d, h => by
    simp only [enumD, List.getElem?_cons_zero, Option.some.injEq] at h
    exact ⟨x, rfl, by rw [← h]; simp⟩
  | x :: ds, i, j + 1, d, h => by
    simp only [enumD, List.getElem?_cons_succ] at h
    obtain ⟨y, e1, e2⟩ := enumD_get h
    refine ⟨y, by simpa using e1, ?_⟩
    rw [e2]
    congr 3
    omega
/-- a new pair -/
theorem pair_rep {W' : Wd} {st' : Store} {H' : Hp} {T : Addr} {a b : D} {x y : V} (C' : CellM g W' st' H') (hT : H' T = none) (ra : Rep g W' a x) (rb : Rep g W' b y) : ∃ W'', Ext W' H' W'' (upd H' T (.tup [x, y])) ∧ CellM g W'' st' (upd H' T (.tup [x, y])) ∧ Rep g W'' (.tup [a, b]) (.ref T) :=
  ⟨W'.add T (.tup [x, y]), ext_add C' hT, C'.add hT, Rep.tup_iff.mpr ⟨T, [x, y], rfl, SqT.of upd_same, RepL.mono (Wle.add (C'.fnone hT)) _ _ (.cons ra (.cons rb .nil))⟩⟩
theorem simI_enum {fz b : Bool} {e : Expr} {c : E} {p pos tpos : Pos} {elts : List Expr} {kk : Nat} (cc : Ctx g X N sc k Wsh) (hb : b = true → fz = false) (hg : sc.names.lookup ("enumerate" : Str) = some .globalImplicit) (hmg : g.mg "enumerate" = none) (h : PE X e (tsim g en Wsh cf (if b then .brw else .frz) c)) (hs : starEach [e] X.env = [(false, eval e X.env)]) :
    PI X (.Tuple elts kk tpos) (.Call (.Name "enumerate" p) [e] [] pos) (tsimI g en Wsh cf fz (.enum b c)) := by
  have hK := cc.hK
  refine PI.imp (pi_enumA (by show X.env.scope.names.lookup ("enumerate" : Str) = _; rw [cc.hsc]; exact hg) (by rw [cc.hmg]; exact hmg) (pa_cons h pa_nil hs) hs) ?_
  rintro σ H R ⟨W, env, st, M, C, h⟩
  rw [evI] at h
  refine ⟨W, env, st, M, C, Go.bind h ?_⟩
  rintro d st1 v W1 H1 - x1 C1 r1 h1
  obtain ⟨xs, e1, h2⟩ := Go.of h1
  cases d <;> (try (simp [D.items] at e1; done))
  · rename_i ds
    simp only [D.items, Option.map_some, Option.some.injEq] at e1
    subst e1
    obtain ⟨a, vs, e2, q, l⟩ := Rep.tup_iff.mp (RepM.tup r1)
    rw [e2]
    refine ⟨a, vs, rfl, .inr ⟨by rw [hK]; exact SqT.mono C1.fle q, h2 _ W1 H1 .refl C1 (ItOk.mk (by rw [enumD_len, l.len]) (walk_enumT (xs := vs)) ?_ ?_)⟩⟩
    · intro W' st' H' x C'
      rw [hK]; exact SqT.mono (fun a o e => C'.fle _ _ (x.le.f _ _ e)) q
    · intro i d W' st' H' x H'' hd x1 C' hy
      obtain ⟨T, y, z, e3, e4, e5, e6, e7⟩ := hy
      dsimp only at e6 e7
      obtain ⟨dx, e8, e9⟩ := enumD_get hd
      obtain ⟨v', e10, rv⟩ := l.get e8
      rw [e7] at e10
      cases e10
      cases e6
      rw [e3, e5, e9]
      exact pair_rep C' e4 (Rep.int_iff.mpr (by simp)) (Rep.mono x1.le _ _ rv)
  · rename_i ds
    simp only [D.items, Option.map_some, Option.some.injEq] at e1
    subst e1
    have hp : ∃ a vs, v = .ref a ∧ H1 a = some (.lst vs) ∧ RepL g W1 ds vs ∧ ∀ W' st' H', Later fz W1 H1 W' H' → CellM g W' st' H' → H' a = some (.lst vs) := by
      cases b with
      | false =>
        obtain ⟨a, vs, e, q, l⟩ := Rep.lst_iff.mp (show Rep g W1 (.lst ds) v from r1)
        exact ⟨a, vs, e, C1.fle _ _ q, l, fun W' st' H' x C' => C'.fle _ _ (x.le.f _ _ q)⟩
      | true =>
        have hz := hb rfl
        subst hz
        rcases (show RepB g W1 H1 (.lst ds) v from r1) with r | ⟨es, a, vs, e1, e2, e3, e4, e5⟩
        · obtain ⟨a, vs, e, q, l⟩ := Rep.lst_iff.mp r
          exact ⟨a, vs, e, C1.fle _ _ q, l, fun W' st' H' x C' => C'.fle _ _ (x.le.f _ _ q)⟩
        · cases e1
          exact ⟨a, vs, e2, e3, e5, fun W' st' H' (x : Ext W1 H1 W' H') C' => x.fr _ _ e3 e4⟩
    obtain ⟨a, vs, e2, q, l, hk⟩ := hp
    rw [e2]
    refine ⟨a, vs, rfl, .inl ⟨SqL.of q, h2 _ W1 H1 .refl C1 (ItOk.mk (by rw [enumD_len, l.len]) (walk_enum (xs := vs)) ?_ ?_)⟩⟩
    · intro W' st' H' x C'
      exact SqL.of (hk _ _ _ x C')
    · intro i d W' st' H' x H'' hd x1 C' hy
      obtain ⟨T, y, z, e3, e4, e5, e6, e7⟩ := hy
      dsimp only at e6 e7
      obtain ⟨dx, e8, e9⟩ := enumD_get hd
      obtain ⟨v', e10, rv⟩ := l.get e8
      rw [e7] at e10
      cases e10
      cases e6
      rw [e3, e5, e9]
      exact pair_rep C' e4 (Rep.int_iff.mpr (by simp)) (Rep.mono x1.le _ _ rv)
theorem zipD_len : ∀ (as bs : List D), (zipD as bs).length = min as.length bs.length
  | [], _ => by simp [zipD]
  | _ :: _, [] => by simp [zipD]
  | a :: as, b :: bs => by rw [zipD, List.length_cons, zipD_len, List.length_cons, List.length_cons]; omega
theorem zipD_get : ∀ {as bs : List D} {i : Nat} {d : D}, (zipD as bs)[i]? = some d → ∃ a b, as[i]? = some a ∧ bs[i]? = some b ∧ d = .tup [a, b]
  | [], _, _, _, h => by simp [zipD] at h
  | _ :: _, [], _, _, h => by simp [zipD] at h
  | a :: as, b :: bs, 0, d, h => by
    simp only [zipD, List.getElem?_cons_zero, Option.some.injEq] at h
    exact ⟨a, b, rfl, rfl, h.symm⟩
  | a :: as, b :: bs, i + 1, d, h => by
    simp only [zipD, List.getElem?_cons_succ] at h
    obtain ⟨x, y, e1, e2, e3⟩ := zipD_get h
    exact ⟨x, y, by simpa using e1, by simpa using e2, e3⟩
theorem simI_zip {fz : Bool} {e e' : Expr} {c c' : E} {p pos tpos : Pos} {elts : List Expr} {kk : Nat} (cc : Ctx g X N sc k Wsh) (hg : sc.names.lookup ("zip" : Str) = some .globalImplicit) (hmg : g.mg "zip" = none) (h : PE X e (tsim g en Wsh cf .frz c)) (h' : PE X e' (tsim g en Wsh cf .frz c')) (hs : starEach [e, e'] X.env = (false, eval e X.env) :: starEach [e'] X.env) (hs2 : starEach [e'] X.env = (false, eval e' X.env) :: starEach [] X.env) :
    PI X (.Tuple elts kk tpos) (.Call (.Name "zip" p) [e, e'] [] pos) (tsimI g en Wsh cf fz (.zip c c')) := by
  have hK := cc.hK
  have hpl : (backTo pos (starEach [e'] X.env)).any (·.1) = false := by rw [hs2]; rfl
  refine PI.imp (RZ.pi_zipA (by show X.env.scope.names.lookup ("zip" : Str) = _; rw [cc.hsc]; exact hg) (by rw [cc.hmg]; exact hmg) (pa_cons h (pa_cons h' pa_nil hs2) hs) hs hpl) ?_
  rintro σ H R ⟨W, env, st, M, C, h⟩
  rw [evI] at h
  refine ⟨W, env, st, M, C, Go.bind h ?_⟩
  rintro dx st1 v W1 H1 - x1 C1 r1 h1
  refine ⟨W1, env, st1, M.ext x1, C1, Go.bind h1 ?_⟩
  rintro dy st2 v' W2 H2 - x2 C2 r2 h2
  obtain ⟨xs, e1, h3⟩ := Go.of h2
  replace r1 : Rep g W2 dx v := Rep.mono x2.le _ _ r1
  replace r2 : Rep g W2 dy v' := r2
  cases dx <;> (try (simp [zipI] at e1; done)) <;> cases dy <;> (try (simp [zipI] at e1; done))
  · rename_i as bs
    simp only [zipI, Option.some.injEq] at e1
    subst e1
    obtain ⟨a, vs, e2, q, l⟩ := Rep.tup_iff.mp r1
    obtain ⟨b, us, e3, q', l'⟩ := Rep.tup_iff.mp r2
    rw [e2, e3]
    refine ⟨a, b, vs, us, rfl, .inr ⟨by rw [hK]; exact SqT.mono C2.fle q, by rw [hK]; exact SqT.mono C2.fle q', h3 _ W2 H2 .refl C2 (ItOk.mk (by rw [zipD_len, l.len, l'.len]) (walk_zipT (xs := vs) (ys := us) rfl) ?_ ?_)⟩⟩
    · intro W' st' H' x C'
      rw [hK]; exact ⟨SqT.mono (fun a o e => C'.fle _ _ (x.le.f _ _ e)) q, SqT.mono (fun a o e => C'.fle _ _ (x.le.f _ _ e)) q'⟩
    · intro i d W' st' H' x H'' hd x1 C' hy
      obtain ⟨T, y, z, e4, e5, e6, e7, e8⟩ := hy
      dsimp only at e7 e8
      obtain ⟨da, db, e9, e10, e11⟩ := zipD_get hd
      obtain ⟨va, ea, ra⟩ := l.get e9
      obtain ⟨vb, eb, rb⟩ := l'.get e10
      rw [e7] at ea
      rw [e8] at eb
      cases ea
      cases eb
      rw [e4, e6, e11]
      exact pair_rep C' e5 (Rep.mono x1.le _ _ ra) (Rep.mono x1.le _ _ rb)
  · rename_i as bs
    simp only [zipI, Option.some.injEq] at e1
    subst e1
    obtain ⟨a, vs, e2, q, l⟩ := Rep.lst_iff.mp r1
    obtain ⟨b, us, e3, q', l'⟩ := Rep.lst_iff.mp r2
    rw [e2, e3]
    refine ⟨a, b, vs, us, rfl, .inl ⟨SqL.of (C2.fle _ _ q), SqL.of (C2.fle _ _ q'), h3 _ W2 H2 .refl C2 (ItOk.mk (by rw [zipD_len, l.len, l'.len]) (walk_zip (xs := vs) (ys := us) rfl) ?_ ?_)⟩⟩
    · intro W' st' H' x C'
      exact ⟨SqL.of (C'.fle _ _ (x.le.f _ _ q)), SqL.of (C'.fle _ _ (x.le.f _ _ q'))⟩
    · intro i d W' st' H' x H'' hd x1 C' hy
      obtain ⟨T, y, z, e4, e5, e6, e7, e8⟩ := hy
      dsimp only at e7 e8
      obtain ⟨da, db, e9, e10, e11⟩ := zipD_get hd
      obtain ⟨va, ea, ra⟩ := l.get e9
      obtain ⟨vb, eb, rb⟩ := l'.get e10
      rw [e7] at ea
      rw [e8] at eb
      cases ea
      cases eb
      rw [e4, e6, e11]
      exact pair_rep C' e5 (Rep.mono x1.le _ _ ra) (Rep.mono x1.le _ _ rb)
end
end Bp
set_option Elab.async false
set_option linter.all false
set_option maxRecDepth 100000
/-! BpLc: comprehensions. -/
namespace Bp
open PySem PySem.Spec PyProof.Rows L2

theorem wipe_sub {σ : L2.St} {vs : List Nat} : ∀ {us : List Nat}, (∀ i ∈ us, i ∈ vs) → L2.wipe (L2.wipe σ us) vs = L2.wipe σ vs
  | [], _ => rfl
  | u :: us, h => by
    show L2.wipe ((L2.wipe σ us).set u none) vs = _
    rw [wipe_set (h u List.mem_cons_self)]
    exact wipe_sub fun i hi => h i (List.mem_cons_of_mem _ hi)
theorem wipe_wipe (σ : L2.St) (vs : List Nat) : L2.wipe (L2.wipe σ vs) vs = L2.wipe σ vs := wipe_sub fun _ h => h

/-! ### the answer of a comprehension -/
def compF (cf : Cf) (env : Env) (vs : List Nat) (tg : Tg) (c e : E) (x : D) (st : Store) : Res (List D) := match bindT tg x (wipeE env vs) with
  | some env2 => (asBl (evE cf c .tst env2 st) fun k st => if k then (evE cf e .frz env2 st).bind fun y st => .ok (.lst [y]) st else .ok (.lst []) st).calm.bind fun d st => Res.of (one? d) st
  | none => .bad
theorem calm_ok {α β : Type} {r : Res α} {k : α → Store → Res β} {b : β} {st : Store} (h : r.calm.bind k = .ok b st) : ∃ a s, r = .ok a s ∧ k a s = .ok b st := by
  cases r with
  | ok a s => exact ⟨a, s, rfl, h⟩
  | exc c d s => cases h
  | bad => cases h
theorem of_ok {α : Type} {o : Option α} {s st : Store} {a : α} (h : Res.of o s = .ok a st) : o = some a ∧ s = st := by
  cases o with
  | none => cases h
  | some x => cases h; exact ⟨rfl, rfl⟩
theorem asBl_ok {r : Res D} {k : Bool → Store → Res D} {d : D} {st : Store} (h : asBl r k = .ok d st) : ∃ b s, r = .ok (.bl b) s ∧ k b s = .ok d st := by
  obtain ⟨a, s, e, h⟩ := bind_ok_iff h
  cases a <;> (try (cases h; done))
  rename_i b
  exact ⟨b, s, e, h⟩
theorem compF_ok {cf : Cf} {env : Env} {vs : List Nat} {tg : Tg} {c e : E} {x : D} {st st1 : Store} {ys : List D} (h : compF cf env vs tg c e x st = .ok ys st1) :
    ∃ env2 b s, bindT tg x (wipeE env vs) = some env2 ∧ evE cf c .tst env2 st = .ok (.bl b) s ∧ ((b = true ∧ ∃ y, evE cf e .frz env2 s = .ok y st1 ∧ ys = [y]) ∨ (b = false ∧ st1 = s ∧ ys = [])) := by
  unfold compF at h
  cases q : bindT tg x (wipeE env vs) with
  | none => rw [q] at h; cases h
  | some env2 =>
    rw [q] at h
    obtain ⟨a, s, e1, h⟩ := calm_ok h
    obtain ⟨e2, e3⟩ := of_ok h
    obtain ⟨b, s1, e4, h4⟩ := asBl_ok e1
    refine ⟨env2, b, s1, rfl, e4, ?_⟩
    cases b with
    | true =>
      left
      rw [if_pos rfl] at h4
      obtain ⟨y, s2, e5, h5⟩ := bind_ok_iff h4
      cases h5
      simp only [one?, Option.some.injEq] at e2
      exact ⟨rfl, y, by rw [e5, e3], e2.symm⟩
    | false =>
      right
      rw [if_neg Bool.false_ne_true] at h4
      cases h4
      simp only [one?, Option.some.injEq] at e2
      exact ⟨rfl, e3.symm, e2.symm⟩
theorem compF_calm {cf : Cf} {env : Env} {vs : List Nat} {tg : Tg} {c e : E} {x : D} {st : Store} (k : Nat) (d : D) (s : Store) : compF cf env vs tg c e x st ≠ .exc k d s := by
  unfold compF
  intro h
  cases q : bindT tg x (wipeE env vs) with
  | none => rw [q] at h; cases h
  | some env2 =>
    rw [q] at h
    simp only at h
    generalize (asBl (evE cf c .tst env2 st) fun k st => if k then (evE cf e .frz env2 st).bind fun y st => .ok (.lst [y]) st else .ok (.lst []) st) = r at h
    cases r with
    | ok a s => cases a <;> cases h
    | exc c d s => cases h
    | bad => cases h
theorem mapGo_calm {f : D → Store → Res (List D)} (hf : ∀ x st k d s, f x st ≠ .exc k d s) : ∀ (xs : List D) (st : Store) (k : Nat) (d : D) (s : Store), mapGo f xs st ≠ .exc k d s
  | [], st, k, d, s => by simp [mapGo]
  | x :: xs, st, k, d, s => by
    intro h
    rw [mapGo] at h
    cases q : f x st with
    | bad => rw [q] at h; cases h
    | exc k d s => exact hf _ _ _ _ _ q
    | ok ys s1 =>
      rw [q] at h
      have h : ((mapGo f xs s1).bind fun zs st2 => Res.ok (ys ++ zs) st2) = .exc k d s := h
      cases q2 : mapGo f xs s1 with
      | bad => rw [q2] at h; cases h
      | exc k d s => exact mapGo_calm hf _ _ _ _ _ q2
      | ok zs s2 => rw [q2] at h; cases h
theorem mapGo_cons {f : D → Store → Res (List D)} {x : D} {xs : List D} {st st' : Store} {zs : List D} (h : mapGo f (x :: xs) st = .ok zs st') : ∃ ys s zs', f x st = .ok ys s ∧ mapGo f xs s = .ok zs' st' ∧ zs = ys ++ zs' := by
  rw [mapGo] at h
  obtain ⟨ys, s, e, h⟩ := bind_ok_iff h
  obtain ⟨zs', s', e2, h⟩ := bind_ok_iff h
  cases h
  exact ⟨ys, s, zs', e, e2, rfl⟩
theorem mapGo_nil {f : D → Store → Res (List D)} {st st' : Store} {zs : List D} (h : mapGo f [] st = .ok zs st') : zs = [] ∧ st' = st := by
  rw [mapGo] at h
  cases h
  exact ⟨rfl, rfl⟩

/-- the list that grows at D -/
structure Acc (g : Glob) (W1 : Wd) (H1 : Hp) (D' : Addr) (Wc : Wd) (Hc : Hp) (st : Store) (ds : List D) : Prop where
  ext : Ext W1 H1 Wc Hc
  cell : CellM g Wc st Hc
  at_ : ∃ vs, Hc D' = some (.lst vs) ∧ RepL g Wc ds vs
  nf : Wc.F D' = none
  na : D' ∉ Wc.α
section
variable {g : Glob} {W1 Wc W2 : Wd} {H1 Hc H2 : Hp} {D' : Addr} {st st2 : Store} {ds : List D}
theorem Acc.step (a : Acc g W1 H1 D' Wc Hc st ds) (x : Ext Wc Hc W2 H2) (c : CellM g W2 st2 H2) : Acc g W1 H1 D' W2 H2 st2 ds := by
  obtain ⟨vs, e, l⟩ := a.at_
  refine ⟨a.ext.trans x, c, ⟨vs, x.fr _ _ e a.na, RepL.mono x.le _ _ l⟩, x.kf _ _ e a.na a.nf, fun z => ?_⟩
  rcases x.na _ z with q | q
  · exact a.na q
  · rw [q] at e; cases e
/-- a list that no one has is written -/
theorem CellM.wr {W : Wd} {H : Hp} {st : Store} {a : Addr} {o : HO} (c : CellM g W st H) (nf : W.F a = none) (na : a ∉ W.α) : CellM g W st (L2.upd H a o) := by
  refine ⟨fun b u e => ?_, c.len, c.nd, c.nf, fun i k e => ?_⟩
  · by_cases z : b = a
    · subst z; rw [nf] at e; cases e
    · rw [upd_ne z]; exact c.fle b u e
  · obtain ⟨b, e1, r⟩ := c.cell i k e
    refine ⟨b, e1, r.ext Wle.refl (upd_ne fun z => ?_)⟩
    subst z
    exact na (mem_get e1)
theorem Ext.wr {W W' : Wd} {H H' : Hp} {a : Addr} {o : HO} (x : Ext W H W' H') (n : H a = none) : Ext W H W' (upd H' a o) :=
  ⟨x.le, fun b u e z => by rw [upd_ne (ne_of_none e n)]; exact x.fr b u e z, x.kf, x.na⟩
theorem EnvM.wr {en : Ent} {W : Wd} {env : Env} {σ : L2.St} {H : Hp} {a : Addr} {o : HO} (m : EnvM g en W env σ H) (n : en.H a = none) (hne : ∀ (i : Nat) (ob : Bp.Obj) (b : Addr), env[i]? = some (some (.own ob)) → σ[i]? = some (some (.ref b)) → b ≠ a) : EnvM g en W env σ (upd H a o) := by
  refine ⟨m.ent.wr n, m.len, fun i s e => ?_, m.own, m.apart⟩
  obtain ⟨v, ev, r⟩ := m.slot i s e
  refine ⟨v, ev, ?_⟩
  cases s with
  | val d => exact r
  | own ob =>
    cases ob with
    | lst ds =>
      obtain ⟨b, vs, e1, e2, e3⟩ := r
      subst e1
      exact ⟨b, vs, rfl, by rw [upd_ne (hne i _ b e ev)]; exact e2, e3⟩
theorem Acc.push (a : Acc g W1 H1 D' Wc Hc st ds) (n : H1 D' = none) {d : D} {v : V} {acc : List V} (e : Hc D' = some (.lst acc)) (r : Rep g Wc d v) : Acc g W1 H1 D' Wc (upd Hc D' (.lst (acc ++ [v]))) st (ds ++ [d]) := by
  obtain ⟨vs, e1, l⟩ := a.at_
  rw [e] at e1
  cases e1
  exact ⟨a.ext.wr n, a.cell.wr a.nf a.na, ⟨_, upd_same, l.app (.cons r .nil)⟩, a.nf, a.na⟩
theorem Acc.new {W : Wd} {H : Hp} {st : Store} {a : Addr} (c : CellM g W st H) (h : H a = none) : Acc g W H a W (upd H a (.lst [])) st [] :=
  ⟨ext_upd h, c.upd h, ⟨[], upd_same, .nil⟩, c.fnone h, c.anone h⟩
end
section
variable {g : Glob} {X : Cx} {N : List Str} {sc : Scope} {k : Nat} {Wsh : WX} {en : Ent} {cf : Cf}
def tYesE : E := .cst (.bl true)
/-- a comprehension's reading -/
theorem lc_read {fz0 : It} {tg : Tg} {vs : List Nat} {c e : E} (hvs : ∀ i ∈ tg.slots, i ∈ vs) {σ : L2.St} {H : Hp} {Q : VK} {wi : TI} (hwi : wi = tsimI g en Wsh cf false fz0) {tt : TT} (htt : tt = tsimT g en (fun _ _ _ _ => False) cf c)
    (h : tsimN g en Wsh cf (.comp vs tg fz0 c e) σ H Q) : tLc wi (tsimG g en tg) tt (tsim g en (fun _ _ _ _ => False) cf .frz e) vs σ H Q := by
  subst hwi htt
  obtain ⟨W, env, st, M, C, h⟩ := h
  rw [evE, fin_frz] at h
  refine ⟨W, env, st, M, C, Go.bind h ?_⟩
  rintro xs st1 J W1 H1 - x1 C1 ⟨G, Y, it⟩ h1
  have M1 := M.ext x1
  intro D' hD
  have h1 : Go g Wsh (RepN g H) σ W1 H1 ((mapGo (compF cf env vs tg c e) xs st1).bind fun ys st => if fits ys.length then .ok (.lst ys) st else .bad) Q := h1
  have h0 : H D' = none := by
    cases q : H D' with
    | none => rfl
    | some o =>
      by_cases z : D' ∈ W.α
      · exact absurd (x1.le.a.subset z) (C1.anone hD)
      · rw [x1.fr D' o q z] at hD; cases hD
  have hm : ∃ zs st', mapGo (compF cf env vs tg c e) xs st1 = .ok zs st' ∧ fits zs.length = true ∧ ∀ v W' H', Ext W1 H1 W' H' → CellM g W' st' H' → RepN g H W' H' (.lst zs) v → Q v H' := by
    cases q : mapGo (compF cf env vs tg c e) xs st1 with
    | bad => rw [q] at h1; exact h1.elim
    | exc k d s => exact absurd q (mapGo_calm (fun _ _ => compF_calm) _ _ _ _ _)
    | ok zs st' =>
      rw [q] at h1
      have h1 : Go g Wsh (RepN g H) σ W1 H1 (if fits zs.length then .ok (.lst zs) st' else .bad) Q := h1
      split at h1
      · rename_i hf
        exact ⟨zs, st', rfl, hf, h1⟩
      · exact h1.elim
  obtain ⟨zs, st', hz, hfit, hQ⟩ := hm
  refine lc_it it.walk (fun i Hc => ∃ Wc st ds zs', Acc g W1 H1 D' Wc Hc st ds ∧ mapGo (compF cf env vs tg c e) (xs.drop i) st = .ok zs' st' ∧ ds ++ zs' = zs) ?_ ?_ ?_ ?_
  · exact ⟨W1, st1, [], zs, Acc.new C1 hD, hz, rfl⟩
  · rintro i Hc - ⟨Wc, s, ds, zs', A, _, _⟩
    exact it.holds Wc s Hc A.ext A.cell
  · rintro i x Hc Hx hi ⟨Wc, s, ds, zs', A, hgo, hcat⟩ hy
    have hd : xs[i]? = some xs[i] := List.getElem?_eq_getElem hi
    obtain ⟨Wx, xx, Cx', rx⟩ := it.gives i xs[i] Wc s Hc x Hx hd A.ext A.cell hy
    have A1 := A.step xx Cx'
    rw [List.drop_eq_getElem_cons hi] at hgo
    obtain ⟨ys, s1, zs2, hf, hgo2, hcat2⟩ := mapGo_cons hgo
    obtain ⟨env2, b, s2, hb, ht, hcase⟩ := compF_ok hf
    refine ⟨Wx, wipeE env vs, s, xs[i], env2, (M1.ext A1.ext).wipe vs, Cx', rx, hb, fun σ2 M2 w2 o2 => ⟨?_, ?_⟩⟩
    · rw [w2 vs hvs]
      exact (wipe_wipe σ vs)
    · refine ⟨Wx, env2, s, M2, Cx', ?_⟩
      rw [ht]
      intro b' W3 H3 x3 C3 eb
      cases eb
      have A3 := A1.step x3 C3
      have M3 := M2.ext x3
      rcases hcase with ⟨hb, y, hy, eys⟩ | ⟨hb, hs, eys⟩
      · subst hb
        rw [if_pos rfl]
        refine ⟨W3, env2, s2, M3, C3, ?_⟩
        rw [hy]
        intro v W4 H4 x4 C4 rv
        have A4 := A3.step x4 C4
        obtain ⟨acc, ea, la⟩ := A4.at_
        refine ⟨acc, ea, ?_, W4, s1, ds ++ [y], zs2, A4.push hD ea rv, hgo2, ?_⟩
        · have h2 : ds.length < zs.length := by
            rw [← hcat, hcat2, eys, List.length_append, List.length_append]; simp; omega
          have h3 := fits_line hfit
          rw [← la.len]
          omega
        · rw [← hcat, hcat2, eys, List.append_assoc]
      · subst hb
        rw [if_neg Bool.false_ne_true]
        subst hs
        refine ⟨W3, s1, ds, zs2, A3, hgo2, ?_⟩
        rw [← hcat, hcat2, eys]; rfl
  · rintro Hc ⟨Wc, s, ds, zs', A, hgo, hcat⟩
    rw [List.drop_length] at hgo
    obtain ⟨e1, e2⟩ := mapGo_nil hgo
    subst e1 e2
    rw [List.append_nil] at hcat
    subst hcat
    obtain ⟨us, ea, la⟩ := A.at_
    exact hQ _ Wc Hc A.ext A.cell ⟨ds, D', us, rfl, rfl, h0, ea, A.nf, A.na, la⟩

def compF2 (cf : Cf) (env : Env) (vs : List Nat) (tg : Tg) (c : E) (vs2 : List Nat) (tg2 : Tg) (it2 : It) (c2 e : E) (x : D) (st : Store) : Res (List D) := match bindT tg x (wipeE env vs) with
  | some env2 => (asBl (evE cf c .tst env2 st) fun k st => if k then (evI cf it2 env2 st).bind fun xs2 st => (mapGo (compF cf env2 vs2 tg2 c2 e) xs2 st).bind fun ys st => .ok (.lst ys) st else .ok (.lst []) st).calm.bind fun d st => Res.of (one? d) st
  | none => .bad
theorem compF2_ok {env : Env} {vs vs2 : List Nat} {tg tg2 : Tg} {it2 : It} {c c2 e : E} {x : D} {st st1 : Store} {ys : List D} (h : compF2 cf env vs tg c vs2 tg2 it2 c2 e x st = .ok ys st1) :
    ∃ env2 b s, bindT tg x (wipeE env vs) = some env2 ∧ evE cf c .tst env2 st = .ok (.bl b) s ∧ ((b = true ∧ ∃ xs2 s2, evI cf it2 env2 s = .ok xs2 s2 ∧ mapGo (compF cf env2 vs2 tg2 c2 e) xs2 s2 = .ok ys st1) ∨ (b = false ∧ st1 = s ∧ ys = [])) := by
  unfold compF2 at h
  cases q : bindT tg x (wipeE env vs) with
  | none => rw [q] at h; cases h
  | some env2 =>
    rw [q] at h
    obtain ⟨a, s, e1, h⟩ := calm_ok h
    obtain ⟨e2, e3⟩ := of_ok h
    obtain ⟨b, s1, e4, h4⟩ := asBl_ok e1
    refine ⟨env2, b, s1, rfl, e4, ?_⟩
    cases b with
    | true =>
      left
      rw [if_pos rfl] at h4
      obtain ⟨xs2, s2, e5, h5⟩ := bind_ok_iff h4
      obtain ⟨zs, s3, e6, h6⟩ := bind_ok_iff h5
      cases h6
      simp only [one?, Option.some.injEq] at e2
      subst e2 e3
      exact ⟨rfl, xs2, s2, e5, e6⟩
    | false =>
      right
      rw [if_neg Bool.false_ne_true] at h4
      cases h4
      simp only [one?, Option.some.injEq] at e2
      exact ⟨rfl, e3.symm, e2.symm⟩
theorem compF2_calm {env : Env} {vs vs2 : List Nat} {tg tg2 : Tg} {it2 : It} {c c2 e : E} {x : D} {st : Store} (k : Nat) (d : D) (s : Store) : compF2 cf env vs tg c vs2 tg2 it2 c2 e x st ≠ .exc k d s := by
  unfold compF2
  intro h
  cases q : bindT tg x (wipeE env vs) with
  | none => rw [q] at h; cases h
  | some env2 =>
    rw [q] at h
    simp only at h
    generalize (asBl (evE cf c .tst env2 st) fun k st => if k then (evI cf it2 env2 st).bind fun xs2 st => (mapGo (compF cf env2 vs2 tg2 c2 e) xs2 st).bind fun ys st => .ok (.lst ys) st else .ok (.lst []) st) = r at h
    cases r with
    | ok a s => cases a <;> cases h
    | exc c d s => cases h
    | bad => cases h
theorem lc2_read {it it2 : It} {tg tg2 : Tg} {vs vs2 : List Nat} {c c2 e : E} (hvs : ∀ i ∈ tg.slots, i ∈ vs) (hvs2 : ∀ i ∈ tg2.slots, i ∈ vs2) {σ : L2.St} {H : Hp} {Q : VK}
    (h : tsimN g en Wsh cf (.comp2 vs tg it c vs2 tg2 it2 c2 e) σ H Q) :
    tLc2 (tsimI g en Wsh cf false it) (tsimG g en tg) (tsimT g en (fun _ _ _ _ => False) cf c) (tsimI g en (fun _ _ _ _ => False) cf true it2) (tsimG g en tg2) (tsimT g en (fun _ _ _ _ => False) cf c2) (tsim g en (fun _ _ _ _ => False) cf .frz e) vs vs2 σ H Q := by
  obtain ⟨W, env, st, M, C, h⟩ := h
  rw [evE, fin_frz] at h
  refine ⟨W, env, st, M, C, Go.bind h ?_⟩
  rintro xs st1 J W1 H1 - x1 C1 ⟨G, Y, it⟩ h1
  have M1 := M.ext x1
  intro D' hD
  have h1 : Go g Wsh (RepN g H) σ W1 H1 ((mapGo (compF2 cf env vs tg c vs2 tg2 it2 c2 e) xs st1).bind fun ys st => if fits ys.length then .ok (.lst ys) st else .bad) Q := h1
  have h0 : H D' = none := by
    cases q : H D' with
    | none => rfl
    | some o =>
      by_cases z : D' ∈ W.α
      · exact absurd (x1.le.a.subset z) (C1.anone hD)
      · rw [x1.fr D' o q z] at hD; cases hD
  have hm : ∃ zs st', mapGo (compF2 cf env vs tg c vs2 tg2 it2 c2 e) xs st1 = .ok zs st' ∧ fits zs.length = true ∧ ∀ v W' H', Ext W1 H1 W' H' → CellM g W' st' H' → RepN g H W' H' (.lst zs) v → Q v H' := by
    cases q : mapGo (compF2 cf env vs tg c vs2 tg2 it2 c2 e) xs st1 with
    | bad => rw [q] at h1; exact h1.elim
    | exc k d s => exact absurd q (mapGo_calm (fun _ _ => compF2_calm) _ _ _ _ _)
    | ok zs st' =>
      rw [q] at h1
      have h1 : Go g Wsh (RepN g H) σ W1 H1 (if fits zs.length then .ok (.lst zs) st' else .bad) Q := h1
      split at h1
      · rename_i hf
        exact ⟨zs, st', rfl, hf, h1⟩
      · exact h1.elim
  obtain ⟨zs, st', hz, hfit, hQ⟩ := hm
  have hfl := fits_line hfit
  let Pv : Nat → Hp → Prop := fun i Hc => ∃ Wc st ds zs', Acc g W1 H1 D' Wc Hc st ds ∧ mapGo (compF2 cf env vs tg c vs2 tg2 it2 c2 e) (xs.drop i) st = .ok zs' st' ∧ ds ++ zs' = zs
  refine ⟨fun i m Hc => m = xs.length - i ∧ i ≤ xs.length ∧ Pv i Hc, ⟨_, rfl, Nat.zero_le _, W1, st1, [], zs, Acc.new C1 hD, hz, rfl⟩, ?_⟩
  rintro i m Hc ⟨rfl, hin, Wc, s, ds, zs', A, hgo, hcat⟩
  have hG := it.holds Wc s Hc A.ext A.cell
  by_cases hi : i < xs.length
  · refine .inr ⟨it.walk.goes i Hc hi hG, Pv (i + 1), fun H' p' => ⟨_, by omega, rfl, hi, p'⟩, fun x Hx hy => ?_⟩
    have hy := it.walk.yields i Hc x Hx hi hG hy
    have hd : xs[i]? = some xs[i] := List.getElem?_eq_getElem hi
    obtain ⟨Wx, xx, Cx', rx⟩ := it.gives i xs[i] Wc s Hc x Hx hd A.ext A.cell hy
    have A1 := A.step xx Cx'
    rw [List.drop_eq_getElem_cons hi] at hgo
    obtain ⟨ys, s1, zs2, hf, hgo2, hcat2⟩ := mapGo_cons hgo
    obtain ⟨env2, b, s2, hb, ht, hcase⟩ := compF2_ok hf
    refine ⟨Wx, wipeE env vs, s, xs[i], env2, (M1.ext A1.ext).wipe vs, Cx', rx, hb, fun σ2 M2 w2 o2 => ⟨?_, ?_⟩⟩
    · rw [w2 vs hvs]
      exact (wipe_wipe σ vs)
    · refine ⟨Wx, env2, s, M2, Cx', ?_⟩
      rw [ht]
      intro b' W3 H3 x3 C3 eb
      cases eb
      have A3 := A1.step x3 C3
      have M3 := M2.ext x3
      rcases hcase with ⟨hb, xs2, s3, hi2, hm2⟩ | ⟨hb, hs, eys⟩
      · subst hb
        rw [if_pos rfl]
        refine ⟨W3, env2, s2, M3, C3, ?_⟩
        rw [hi2]
        rintro J1 W4 H4 x4 C4 ⟨G2, Y2, it'⟩
        have A4 := A3.step x4 C4
        have M4 := M3.ext x4
        have hen : en.H D' = none := by
          cases q : en.H D' with
          | none => rfl
          | some o =>
            by_cases z : D' ∈ en.W.α
            · exact absurd (M1.ent.le.a.subset z) (C1.anone hD)
            · rw [M1.ent.fr D' o q z] at hD; cases hD
        have hne : ∀ (i : Nat) (o : Bp.Obj) (a : Addr), env2[i]? = some (some (.own o)) → σ2[i]? = some (some (.ref a)) → a ≠ D' := fun i o a e1 e2 => by
          obtain ⟨f1, f2⟩ := ((OwnSub.wipe vs).trans o2) i o e1
          rw [f2] at e2
          obtain ⟨v, ev, r⟩ := M1.slot i _ f1
          rw [e2] at ev
          cases o with
          | lst us =>
            obtain ⟨a', vs', e3, e4, _⟩ := r
            have e5 : V.ref a = V.ref a' := by rw [← e3]; exact Option.some.inj (Option.some.inj ev)
            cases e5
            intro z
            subst z
            rw [hD] at e4
            cases e4
        let Pw : Nat → Hp → Prop := fun j Hc => ∃ Wc st ds' ys', Acc g W1 H1 D' Wc Hc st ds' ∧ Wle W4 Wc ∧ EnvM g en Wc env2 σ2 Hc ∧ mapGo (compF cf env2 vs2 tg2 c2 e) (xs2.drop j) st = .ok ys' s1 ∧ ds' ++ ys' = ds ++ ys
        refine ⟨fun j m Hc => m = xs2.length - j ∧ j ≤ xs2.length ∧ Pw j Hc, ⟨_, rfl, Nat.zero_le _, W4, s3, ds, ys, A4, Wle.refl, M4, hm2, rfl⟩, ?_⟩
        rintro j m Hd ⟨rfl, hjn, Wd', sd, ds', ys', Ad, le4, Md, hgoj, hcatj⟩
        have hG2 := it'.holds Wd' sd Hd le4 Ad.cell
        by_cases hj : j < xs2.length
        · refine .inr ⟨it'.walk.goes j Hd hj hG2, Pw (j + 1), fun H' p' => ⟨_, by omega, rfl, hj, p'⟩, fun y Hy hyy => ?_⟩
          have hyy := it'.walk.yields j Hd y Hy hj hG2 hyy
          have hd2 : xs2[j]? = some xs2[j] := List.getElem?_eq_getElem hj
          obtain ⟨Wy, xy, Cy, ry⟩ := it'.gives j xs2[j] Wd' sd Hd y Hy hd2 le4 Ad.cell hyy
          have A5 := Ad.step xy Cy
          have M5 := Md.ext xy
          rw [List.drop_eq_getElem_cons hj] at hgoj
          obtain ⟨us, s5, ws, hf5, hgo5, hcat5⟩ := mapGo_cons hgoj
          obtain ⟨env3, b3, s6, hb3, ht3, hcase3⟩ := compF_ok hf5
          have hlt : ds'.length + us.length ≤ zs.length := by
            rw [← hcat, hcat2, ← List.append_assoc, ← hcatj, hcat5]; simp
          refine ⟨Wy, wipeE env2 vs2, sd, xs2[j], env3, M5.wipe vs2, Cy, ry, hb3, fun σ3 M6 w3 o3 => ⟨?_, ?_⟩⟩
          · rw [w3 vs2 hvs2]
            exact (wipe_wipe σ2 vs2)
          · refine ⟨Wy, env3, sd, M6, Cy, ?_⟩
            rw [ht3]
            intro b' W7 H7 x7 C7 eb
            cases eb
            have A7 := A5.step x7 C7
            rcases hcase3 with ⟨hb, z, hz3, eus⟩ | ⟨hb, hs, eus⟩
            · subst hb
              rw [if_pos rfl]
              refine ⟨W7, env3, s6, M6.ext x7, C7, ?_⟩
              rw [hz3]
              intro v W8 H8 x8 C8 rv
              have A8 := A7.step x8 C8
              obtain ⟨acc, ea, la⟩ := A8.at_
              have M8 := (M5.ext x7).ext x8
              refine ⟨acc, ea, ?_, W8, s5, ds' ++ [z], ws, A8.push hD ea rv, ((le4.trans xy.le).trans x7.le).trans x8.le, ?_, hgo5, ?_⟩
              · rw [eus] at hlt
                simp only [List.length_singleton] at hlt
                rw [← la.len]; omega
              · exact M8.wr hen fun i o a e1 e2 => hne i o a e1 e2
              · rw [List.append_assoc, ← hcatj, hcat5, eus]
            · subst hb
              rw [if_neg Bool.false_ne_true]
              subst hs
              refine ⟨W7, s5, ds', ws, A7, (le4.trans xy.le).trans x7.le, M5.ext x7, hgo5, ?_⟩
              rw [← hcatj, hcat5, eus]; rfl
        · have ej : j = xs2.length := by omega
          subst ej
          rw [List.drop_length] at hgoj
          obtain ⟨e1, e2⟩ := mapGo_nil hgoj
          subst e1 e2
          rw [List.append_nil] at hcatj
          refine .inl ⟨it'.walk.stops Hd hG2, Wd', s1, ds', zs2, Ad, hgo2, ?_⟩
          rw [hcatj, ← hcat, hcat2, List.append_assoc]
      · subst hb
        rw [if_neg Bool.false_ne_true]
        subst hs
        refine ⟨W3, s1, ds, zs2, A3, hgo2, ?_⟩
        rw [← hcat, hcat2, eys]; rfl
  · have ei : i = xs.length := by omega
    subst ei
    rw [List.drop_length] at hgo
    obtain ⟨e1, e2⟩ := mapGo_nil hgo
    subst e1 e2
    rw [List.append_nil] at hcat
    subst hcat
    obtain ⟨us, ea, la⟩ := A.at_
    exact .inl ⟨it.walk.stops Hc hG, hQ _ Wc Hc A.ext A.cell ⟨ds, D', us, rfl, rfl, h0, ea, A.nf, A.na, la⟩⟩
end
end Bp
set_option Elab.async false
set_option linter.all false
set_option maxRecDepth 100000
/-! BpStm: statements. -/
namespace Bp
open PySem PySem.Spec PyProof.Rows L2

def GoS (g : Glob) (en : Ent) (n : Nat) (Wsh : WX) (D : Ends) (W : Wd) (r : Res Out) : Prop := match r with
  | .ok (.nxt env) st => ∀ σ W' H', Wle W W' → env.length = n → EnvM g en W' env σ H' → CellM g W' st H' → D.nx σ H'
  | .ok (.brk env) st => ∀ σ W' H', Wle W W' → env.length = n → EnvM g en W' env σ H' → CellM g W' st H' → D.bk σ H'
  | .ok (.ret d) st => ∀ v W' H', Ext en.W en.H W' H' → CellM g W' st H' → Rep g W' d v → D.rt v H'
  | .exc k d st => ∀ (σ : L2.St) dx v W' H', σ.length = n → Ext en.W en.H W' H' → CellM g W' st H' → H' dx = some (.xd [(g.xF k, v)]) → Rep g W' d v → Wsh (.ref (g.xA k)) (some dx) σ H'
  | .bad => False
def tsimS (g : Glob) (en : Ent) (n : Nat) (Wsh : WX) (cf : Cf) (s : S) : TS := fun D σ H => ∃ W env st, env.length = n ∧ EnvM g en W env σ H ∧ CellM g W st H ∧ GoS g en n Wsh D W (evS cf s env st)
def tsimSs (g : Glob) (en : Ent) (n : Nat) (Wsh : WX) (cf : Cf) (ss : List S) : TS := fun D σ H => ∃ W env st, env.length = n ∧ EnvM g en W env σ H ∧ CellM g W st H ∧ GoS g en n Wsh D W (evSs cf ss env st)
section
variable {g : Glob} {X : Cx} {N : List Str} {sc : Scope} {k n : Nat} {Wsh : WX} {en : Ent} {cf : Cf} {D : Ends}
theorem GoS.mono {W W1 : Wd} {r : Res Out} (h : GoS g en n Wsh D W r) (le : Wle W W1) : GoS g en n Wsh D W1 r := by
  cases r with
  | ok o st =>
    cases o with
    | nxt env => exact fun σ W' H' l => h σ W' H' (le.trans l)
    | brk env => exact fun σ W' H' l => h σ W' H' (le.trans l)
    | ret d => exact h
  | exc k d st => exact h
  | bad => exact h
theorem GoS.bindE {α β : Type} {R : Wd → Hp → α → β → Prop} {W : Wd} {H : Hp} {env : Env} {σ : L2.St} {r : Res α} {kk : α → Store → Res Out} {P : β → Hp → Prop} (M : EnvM g en W env σ H) (hn : env.length = n) (h : GoS g en n Wsh D W (r.bind kk))
    (step : ∀ d st v W1 H1, r = .ok d st → Ext W H W1 H1 → CellM g W1 st H1 → R W1 H1 d v → GoS g en n Wsh D W1 (kk d st) → P v H1) : Go g Wsh R σ W H r P := by
  cases r with
  | ok d st => exact fun v W' H' x c q => step d st v W' H' rfl x c q (GoS.mono h x.le)
  | exc c d st => exact fun dx v W' H' x c q z => h σ dx v W' H' (by rw [M.len, hn]) (M.ent.trans x) c q z
  | bad => exact h

/-! ### lists of statements -/
theorem simSs_nil : PSs X [] (tsimSs g en n Wsh cf []) := by
  refine PSs.imp pss_nil ?_
  rintro D σ H ⟨W, env, st, hn, M, C, h⟩
  rw [evSs] at h
  exact h σ W H .refl hn M C
theorem simSs_cons {st : Stmt} {rest : List Stmt} {s : S} {ss : List S} (h1 : PS X st (tsimS g en n Wsh cf s)) (h2 : PSs X rest (tsimSs g en n Wsh cf ss)) : PSs X (st :: rest) (tsimSs g en n Wsh cf (s :: ss)) := by
  refine PSs.imp (pss_cons h1 h2) ?_
  rintro D σ H ⟨W, env, st, hn, M, C, h⟩
  rw [evSs] at h
  refine ⟨W, env, st, hn, M, C, ?_⟩
  cases q : evS cf s env st with
  | bad => rw [q] at h; exact h
  | exc k d st' => rw [q] at h; exact h
  | ok o st' =>
    rw [q] at h
    cases o with
    | nxt env' => exact fun σ' W' H' le hl M' C' => ⟨W', env', st', hl, M', C', GoS.mono (show GoS g en n Wsh D W (evSs cf ss env' st') from h) le⟩
    | brk env' => exact h
    | ret d => exact h
/-- a list that a slot owns freezes -/
theorem simSs_frz {i : Nat} {rest : List Stmt} {ss : List S} (h : PSs X rest (tsimSs g en n Wsh cf ss)) : PSs X rest (tsimSs g en n Wsh cf (.frz i :: ss)) := by
  refine PSs.imp h ?_
  rintro D σ H ⟨W, env, st, hn, M, C, h⟩
  rw [evSs] at h
  rw [evS] at h
  unfold frzE ownAt at h
  cases e : env[i]? with
  | none => rw [e] at h; exact h.elim
  | some s =>
    rw [e] at h
    cases s with
    | none => exact h.elim
    | some s =>
      cases s with
      | val d => exact h.elim
      | own o =>
        cases o with
        | lst ds =>
          have hi : i < env.length := (List.getElem?_eq_some_iff.mp e).1
          have h : GoS g en n Wsh D W ((wr (env.put i (.val (.lst ds))) st).bind _) := h
          unfold Env.put at h
          rw [if_pos hi] at h
          have h : GoS g en n Wsh D W (evSs cf ss (env.set i (some (.val (.lst ds)))) st) := h
          obtain ⟨v, ev, r⟩ := M.slot i _ e
          obtain ⟨a, vs, e1, e2, l⟩ := id r
          subst e1
          obtain ⟨n1, n2, n3⟩ := M.own i _ a e ev
          have le : Wle W (W.add a (.lst vs)) := Wle.add n2
          refine ⟨W.add a (.lst vs), env.set i (some (.val (.lst ds))), st, by rw [List.length_set]; exact hn, ?_, C.frz e2 n2 n3, GoS.mono h le⟩
          have hne : ∀ (j : Nat) (o : Bp.Obj) (b : Addr), j ≠ i → env[j]? = some (some (.own o)) → σ[j]? = some (some (.ref b)) → b ≠ a := fun j o b hj f1 f2 z => by
            subst z
            exact M.apart j i o _ _ hj f1 e f2 ev
          have back : ∀ (j : Nat) (o : Bp.Obj), (env.set i (some (.val (.lst ds))))[j]? = some (some (.own o)) → j ≠ i ∧ env[j]? = some (some (.own o)) := fun j s f => by
            by_cases z : i = j
            · subst z
              rw [List.getElem?_set_self hi] at f; cases f
            · rw [List.getElem?_set_ne z] at f; exact ⟨fun q => z q.symm, f⟩
          refine ⟨ext_frz M.ent n1 n2, by rw [List.length_set]; exact M.len, fun j s f => ?_, fun j o b f1 f2 => ?_, fun j k o o' v hne' f1 f2 f3 f4 => ?_⟩
          · by_cases z : i = j
            · subst z
              rw [List.getElem?_set_self hi] at f
              cases f
              exact ⟨_, ev, Rep.lst_iff.mpr ⟨a, vs, rfl, upd_same, RepL.mono le _ _ l⟩⟩
            · rw [List.getElem?_set_ne z] at f
              obtain ⟨v, q1, q2⟩ := M.slot j s f
              refine ⟨v, q1, ?_⟩
              cases s with
              | val d => exact Rep.mono le _ _ q2
              | own o =>
                cases o with
                | lst us =>
                  obtain ⟨b, ws, q3, q4, q5⟩ := q2
                  exact ⟨b, ws, q3, q4, RepL.mono le _ _ q5⟩
          · obtain ⟨g1, g2⟩ := back j o f1
            obtain ⟨m1, m2, m3⟩ := M.own j o b g2 f2
            refine ⟨m1, ?_, m3⟩
            show L2.upd W.F a _ b = none
            rw [upd_ne (hne j o b g1 g2 f2)]; exact m2
          · obtain ⟨g1, g2⟩ := back j o f1
            obtain ⟨g3, g4⟩ := back k o' f2
            exact M.apart j k o o' v hne' g2 g4 f3 f4

/-! ### plain statements -/
theorem simS_pas {pos : Pos} : PS X (.Pass pos) (tsimS g en n Wsh cf .pas) := by
  refine PS.imp ps_pass ?_
  rintro D σ H ⟨W, env, st, hn, M, C, h⟩
  rw [evS] at h
  exact h σ W H .refl hn M C
theorem simS_brk {pos : Pos} : PS X (.Break pos) (tsimS g en n Wsh cf .brk) := by
  refine PS.imp ps_break ?_
  rintro D σ H ⟨W, env, st, hn, M, C, h⟩
  rw [evS] at h
  exact h σ W H .refl hn M C
theorem simS_nev {st : Stmt} : PS X st (tsimS g en n Wsh cf .nev) := by
  refine ⟨fun pins s σ H D I h => ?_⟩
  obtain ⟨W, env, st, hn, M, C, h⟩ := h
  rw [evS] at h
  exact h.elim
theorem simS_doc {x : Str} {j : Nat} {pos pos' : Pos} : PS X (.Expr (.Constant (.str x) j pos) pos') (tsimS g en n Wsh cf .pas) := by
  refine PS.imp ps_doc ?_
  rintro D σ H ⟨W, env, st, hn, M, C, h⟩
  rw [evS] at h
  exact h σ W H .refl hn M C
theorem simS_ret {e : Expr} {c : E} {pos : Pos} (h : PE X e (tsim g en Wsh cf .frz c)) : PS X (.Return (some e) pos) (tsimS g en n Wsh cf (.ret c)) := by
  refine PS.imp (ps_ret h) ?_
  rintro D σ H ⟨W, env, st, hn, M, C, h⟩
  rw [evS] at h
  refine ⟨W, env, st, M, C, GoS.bindE M hn h ?_⟩
  rintro d st1 v W1 H1 - x1 C1 r1 h1
  exact h1 v W1 H1 (M.ent.trans x1) C1 r1
theorem simS_retN {pos : Pos} : PS X (.Return none pos) (tsimS g en n Wsh cf .retN) := by
  refine PS.imp ps_retN ?_
  rintro D σ H ⟨W, env, st, hn, M, C, h⟩
  rw [evS] at h
  exact h .non W H M.ent C (Rep.non_iff.mpr rfl)
theorem simS_ex {e : Expr} {c : E} {pos : Pos} (h : PE X e (tsim g en Wsh cf .frz c)) (hs : swapsWith e none pos.line X.env = pure false) : PS X (.Expr e pos) (tsimS g en n Wsh cf (.ex c)) := by
  refine PS.imp (ps_expr h hs) ?_
  rintro D σ H ⟨W, env, st, hn, M, C, h⟩
  rw [evS] at h
  refine ⟨W, env, st, M, C, GoS.bindE M hn h ?_⟩
  rintro d st1 v W1 H1 - x1 C1 r1 h1
  exact h1 σ W1 H1 .refl hn (M.ext x1) C1
theorem simS_iff {e : Expr} {c : E} {a b : List Stmt} {ca cb : List S} {pos : Pos} (h : PT X e (tsimT g en Wsh cf c)) (ha : PSs X a (tsimSs g en n Wsh cf ca)) (hb : PSs X b (tsimSs g en n Wsh cf cb)) : PS X (.If e a b pos) (tsimS g en n Wsh cf (.iff c ca cb)) := by
  refine PS.imp (ps_if h ha hb) ?_
  rintro D σ H ⟨W, env, st, hn, M, C, h⟩
  rw [evS] at h
  refine ⟨W, env, st, M, C, GoS.bindE M hn h ?_⟩
  rintro d st1 v W1 H1 - x1 C1 r1 h1
  subst r1
  cases v with
  | true => rw [if_pos rfl]; exact ⟨W1, env, st1, hn, M.ext x1, C1, h1⟩
  | false => rw [if_neg Bool.false_ne_true]; exact ⟨W1, env, st1, hn, M.ext x1, C1, h1⟩

/-! ### stores -/
mutual
theorem bindT_len : ∀ (t : Tg) (d : Bp.D) (env env2 : Env), bindT t d env = some env2 → env2.length = env.length
  | .slot i, d, env, env2, h => by
    simp only [bindT] at h
    split at h
    · cases h; rw [List.length_set]
    · cases h
  | .tup ts, d, env, env2, h => by
    simp only [bindT] at h
    cases d <;> (try (simp at h; done))
    exact bindTs_len' ts _ env env2 h
theorem bindTs_len' : ∀ (ts : List Tg) (ds : List Bp.D) (env env2 : Env), bindTs ts ds env = some env2 → env2.length = env.length
  | [], ds, env, env2, h => by
    cases ds <;> simp [bindTs] at h
    rw [h]
  | t :: ts, ds, env, env2, h => by
    cases ds with
    | nil => simp [bindTs] at h
    | cons d ds =>
      simp only [bindTs] at h
      obtain ⟨env1, e1, e2⟩ := Option.bind_eq_some_iff.mp h
      rw [bindTs_len' ts ds env1 env2 e2, bindT_len t d env env1 e1]
end
theorem wr_some {o : Option Env} {st : Store} {W : Wd} (h : GoS g en n Wsh D W (wr o st)) : ∃ env, o = some env ∧ GoS g en n Wsh D W (.ok (.nxt env) st) := by
  cases o with
  | none => exact h.elim
  | some env => exact ⟨env, rfl, h⟩
theorem wrS_some {o : Option Store} {env : Env} {W : Wd} (h : GoS g en n Wsh D W (wrS o env)) : ∃ st, o = some st ∧ GoS g en n Wsh D W (.ok (.nxt env) st) := by
  cases o with
  | none => exact h.elim
  | some st => exact ⟨st, rfl, h⟩
theorem simS_asg {st : Stmt} {t : Tg} {c : E} (h : PS X st (tAsg (tsim g en Wsh cf .frz c) (tsimG g en t))) : PS X st (tsimS g en n Wsh cf (.asg t c)) := by
  refine PS.imp h ?_
  rintro D σ H ⟨W, env, st, hn, M, C, h⟩
  rw [evS] at h
  refine ⟨W, env, st, M, C, GoS.bindE M hn h ?_⟩
  rintro d st1 v W1 H1 - x1 C1 r1 h1
  obtain ⟨env2, e, h2⟩ := wr_some h1
  exact ⟨W1, env, st1, d, env2, M.ext x1, C1, r1, e, fun σ2 M2 _ _ => h2 σ2 W1 H1 .refl (by rw [bindT_len _ _ _ _ e, hn]) M2 C1⟩
theorem simS_asgN {st : Stmt} {i : Nat} {c : E} (h : PS X st (tAsg (tsim g en Wsh cf .frz c) (gName i))) : PS X st (tsimS g en n Wsh cf (.asg (.slot i) c)) := by
  refine PS.imp h ?_
  rintro D σ H ⟨W, env, st, hn, M, C, h⟩
  rw [evS] at h
  refine ⟨W, env, st, M, C, GoS.bindE M hn h ?_⟩
  rintro d st1 v W1 H1 - x1 C1 r1 h1
  obtain ⟨env2, e, h2⟩ := wr_some h1
  simp only [bindT] at e
  split at e
  · rename_i hi
    cases e
    exact h2 _ W1 H1 .refl (by rw [List.length_set]; exact hn) ((M.ext x1).put hi r1) C1
  · cases e
theorem PS.asgN {st : Stmt} {te te' : TE} {i : Nat} (h : PS X st (tAsg te (gName i))) (f : ∀ σ H Q, te' σ H Q → te σ H Q) : PS X st (tAsg te' (gName i)) := PS.imp h fun D σ H q => f σ H _ q
/-- a new list in a slot -/
theorem EnvM.putOwn {W : Wd} {env : Env} {σ : L2.St} {H : Hp} {i : Nat} {a : Addr} {vs : List V} {ds : List Bp.D} (m : EnvM g en W env σ H) (hi : i < env.length) (n0 : en.H a = none) (hne : ∀ (j : Nat) (o : Bp.Obj) (b : Addr), env[j]? = some (some (.own o)) → σ[j]? = some (some (.ref b)) → b ≠ a)
    (ha : H a = some (.lst vs)) (hf : W.F a = none) (hn : a ∉ W.α) (l : RepL g W ds vs) : EnvM g en W (env.set i (some (.own (.lst ds)))) (σ.set i (some (.ref a))) H := by
  have hi2 : i < σ.length := by rw [m.len]; exact hi
  have back : ∀ (j : Nat) (o : Bp.Obj), j ≠ i → (env.set i (some (.own (.lst ds))))[j]? = some (some (.own o)) → env[j]? = some (some (.own o)) := fun j o h e => by
    rw [List.getElem?_set_ne (fun q => h q.symm)] at e; exact e
  have same : ∀ (j : Nat), j ≠ i → (σ.set i (some (.ref a)))[j]? = σ[j]? := fun j h => List.getElem?_set_ne (fun q => h q.symm)
  refine ⟨m.ent, by rw [List.length_set, List.length_set, m.len], fun j s e => ?_, fun j o b e1 e2 => ?_, fun j k o o' v hjk e1 e2 e3 e4 => ?_⟩
  · by_cases z : j = i
    · subst z
      rw [List.getElem?_set_self hi] at e
      cases e
      exact ⟨.ref a, by rw [List.getElem?_set_self hi2], a, vs, rfl, ha, l⟩
    · rw [List.getElem?_set_ne (fun q => z q.symm)] at e
      rw [same j z]
      exact m.slot j s e
  · by_cases z : j = i
    · subst z
      rw [List.getElem?_set_self hi2] at e2
      cases e2
      exact ⟨n0, hf, hn⟩
    · rw [same j z] at e2
      exact m.own j o b (back j o z e1) e2
  · have ref : ∀ (j : Nat) (o : Bp.Obj) (v : V), env[j]? = some (some (.own o)) → σ[j]? = some (some v) → ∃ b, v = .ref b ∧ b ≠ a := fun j o v f1 f2 => by
      obtain ⟨w, f3, f4⟩ := m.slot j _ f1
      rw [f2] at f3
      cases f3
      cases o with
      | lst us =>
        obtain ⟨b, ws, f5, _, _⟩ := f4
        subst f5
        exact ⟨b, rfl, hne j _ b f1 f2⟩
    by_cases z : j = i
    · subst z
      have hk : k ≠ j := fun q => hjk q.symm
      rw [List.getElem?_set_self hi2] at e3
      cases e3
      rw [same k hk] at e4
      obtain ⟨b, f1, f2⟩ := ref k o' _ (back k o' hk e2) e4
      cases f1
      exact f2 rfl
    · rw [same j z] at e3
      by_cases z2 : k = i
      · subst z2
        rw [List.getElem?_set_self hi2] at e4
        cases e4
        obtain ⟨b, f1, f2⟩ := ref j o _ (back j o z e1) e3
        cases f1
        exact f2 rfl
      · rw [same k z2] at e4
        exact m.apart j k o o' v hjk (back j o z e1) (back k o' z2 e2) e3 e4
theorem EnvM.ownRef {W : Wd} {env : Env} {σ : L2.St} {H : Hp} (m : EnvM g en W env σ H) {j : Nat} {o : Bp.Obj} {b : Addr} (f1 : env[j]? = some (some (.own o))) (f2 : σ[j]? = some (some (.ref b))) : ∃ vs, H b = some (.lst vs) := by
  obtain ⟨w, f3, f4⟩ := m.slot j _ f1
  rw [f2] at f3
  cases o with
  | lst us =>
    obtain ⟨b', ws, f5, f6, _⟩ := f4
    have : V.ref b = V.ref b' := by rw [← f5]; exact Option.some.inj (Option.some.inj f3)
    cases this
    exact ⟨ws, f6⟩
theorem EnvM.entNone {W : Wd} {env : Env} {σ : L2.St} {H : Hp} {st : Store} (m : EnvM g en W env σ H) (C : CellM g W st H) {a : Addr} (h : H a = none) : en.H a = none := by
  cases q : en.H a with
  | none => rfl
  | some o =>
    by_cases z : a ∈ en.W.α
    · exact absurd (m.ent.le.a.subset z) (C.anone h)
    · rw [m.ent.fr a o q z] at h; cases h
theorem simS_own {st : Stmt} {i : Nat} {c : E} (h : PS X st (tAsg (tsimN g en Wsh cf c) (gName i))) : PS X st (tsimS g en n Wsh cf (.own i c)) := by
  refine PS.imp h ?_
  rintro D σ H ⟨W, env, st, hn, M, C, h⟩
  rw [evS] at h
  refine ⟨W, env, st, M, C, GoS.bindE M hn h ?_⟩
  rintro d st1 v W1 H1 - x1 C1 ⟨ds, a, vs, e1, e2, n0, ha, hf, hna, l⟩ h1
  subst e1 e2
  obtain ⟨env2, e, h2⟩ := wr_some h1
  have e : env.put i (.own (.lst ds)) = some env2 := e
  unfold Env.put at e
  split at e
  · rename_i hi
    cases e
    refine h2 _ W1 H1 .refl (by rw [List.length_set]; exact hn) ((M.ext x1).putOwn hi (M.entNone C n0) (fun j o b f1 f2 z => ?_) ha hf hna l) C1
    subst z
    obtain ⟨ws, q⟩ := M.ownRef f1 f2
    rw [n0] at q
    cases q
  · cases e

/-! ### writing a list that a slot owns -/
theorem EnvM.dropE {W : Wd} {env : Env} {σ : L2.St} {H : Hp} (m : EnvM g en W env σ H) (i : Nat) : EnvM g en W (env.set i none) σ H := by
  have back : ∀ (j : Nat) (s : Slot), (env.set i none)[j]? = some (some s) → j ≠ i ∧ env[j]? = some (some s) := fun j s e => by
    by_cases z : i = j
    · subst z
      by_cases hl : i < env.length
      · rw [List.getElem?_set_self hl] at e; cases e
      · rw [List.getElem?_eq_none (by simpa using hl)] at e; cases e
    · rw [List.getElem?_set_ne z] at e; exact ⟨fun q => z q.symm, e⟩
  exact ⟨m.ent, by rw [List.length_set, m.len], fun j s e => m.slot j s (back j s e).2, fun j o a e1 e2 => m.own j o a (back j _ e1).2 e2, fun j k o o' v hne e1 e2 e3 e4 => m.apart j k o o' v hne (back j _ e1).2 (back k _ e2).2 e3 e4⟩
theorem set_same {σ : L2.St} {i : Nat} {x : Option V} (h : σ[i]? = some x) : σ.set i x = σ := by
  apply List.ext_getElem?
  intro j
  by_cases z : i = j
  · subst z
    rw [List.getElem?_set_self (List.getElem?_eq_some_iff.mp h).1, h]
  · rw [List.getElem?_set_ne z]
theorem EnvM.wrOwn {W : Wd} {env : Env} {σ : L2.St} {H : Hp} {i : Nat} {o : Bp.Obj} {a : Addr} {ds' : List Bp.D} {vs' : List V} (m : EnvM g en W env σ H) (e : env[i]? = some (some (.own o))) (es : σ[i]? = some (some (.ref a))) (l : RepL g W ds' vs') :
    EnvM g en W (env.set i (some (.own (.lst ds')))) σ (upd H a (.lst vs')) := by
  obtain ⟨n1, n2, n3⟩ := m.own i o a e es
  have hi : i < env.length := (List.getElem?_eq_some_iff.mp e).1
  have hne : ∀ (j : Nat) (ob : Bp.Obj) (b : Addr), (env.set i none)[j]? = some (some (.own ob)) → σ[j]? = some (some (.ref b)) → b ≠ a := fun j ob b f1 f2 z => by
    subst z
    by_cases q : i = j
    · subst q
      rw [List.getElem?_set_self hi] at f1; cases f1
    · rw [List.getElem?_set_ne q] at f1
      exact m.apart j i ob o _ (fun z => q z.symm) f1 e f2 es
  have m2 := ((m.dropE i).wr (o := .lst vs') n1 hne).putOwn (i := i) (by rw [List.length_set]; exact hi) n1 hne upd_same n2 n3 l
  rw [List.set_set, set_same es] at m2
  exact m2
theorem ownAt_some {env : Env} {i : Nat} {ds : List Bp.D} (h : ownAt env i = some ds) : env[i]? = some (some (.own (.lst ds))) := by
  unfold ownAt at h
  split at h
  · rename_i us e
    cases h
    exact e
  · cases h
theorem put_some {env env2 : Env} {i : Nat} {s : Slot} (h : env.put i s = some env2) : i < env.length ∧ env2 = env.set i (some s) := by
  unfold Env.put at h
  split at h
  · rename_i hi; cases h; exact ⟨hi, rfl⟩
  · cases h
theorem hasOwn_some {env : Env} {i : Nat} (h : hasOwn env i = true) : ∃ ds, env[i]? = some (some (.own (.lst ds))) := by
  unfold hasOwn at h
  obtain ⟨ds, e⟩ := Option.isSome_iff_exists.mp h
  exact ⟨ds, ownAt_some e⟩
/-- the list of a slot, its place -/
theorem EnvM.ownLst {W : Wd} {env : Env} {σ : L2.St} {H : Hp} (m : EnvM g en W env σ H) {i : Nat} {ds : List Bp.D} (e : env[i]? = some (some (.own (.lst ds)))) : ∃ a vs, σ[i]? = some (some (.ref a)) ∧ H a = some (.lst vs) ∧ RepL g W ds vs := by
  obtain ⟨v, ev, r⟩ := m.slot i _ e
  obtain ⟨a, vs, e1, e2, e3⟩ := r
  subst e1
  exact ⟨a, vs, ev, e2, e3⟩
/-- behind a write -/
theorem GoS.wrote {W : Wd} {env : Env} {σ : L2.St} {H : Hp} {st : Store} {i : Nat} {o : Bp.Obj} {a : Addr} {ds' : List Bp.D} {vs' : List V} (m : EnvM g en W env σ H) (C : CellM g W st H) (hn : env.length = n) (e : env[i]? = some (some (.own o))) (es : σ[i]? = some (some (.ref a))) (l : RepL g W ds' vs')
    (h : GoS g en n Wsh D W (.ok (.nxt (env.set i (some (.own (.lst ds'))))) st)) : D.nx σ (upd H a (.lst vs')) := by
  obtain ⟨n1, n2, n3⟩ := m.own i o a e es
  exact h σ W _ .refl (by rw [List.length_set]; exact hn) (m.wrOwn e es l) (C.wr n2 n3)
theorem tyV_lst {H : Hp} {a : Addr} {vs : List V} (h : H a = some (.lst vs)) : L2.tyV X.K "list" (.ref a) H := .inl ⟨rfl, vs, SqL.of h⟩
theorem simS_push {i : Nat} {x : Str} {e : Expr} {c : E} {p apos cpos pos : Pos} (cc : Ctx g X N sc k Wsh) (hN : N[i]? = some x) (hv : Vis sc x) (hd : (x == ("__debug__" : Str)) = false) (hcd : (x == ("__classdict__" : Str)) = false) (he : PE X e (tsim g en Wsh cf .frz c)) (hs : starEach [e] X.env = (false, eval e X.env) :: starEach [] X.env) (hline : (apos.endLine == cpos.line) = true) :
    PS X (.Expr (.Call (.Attribute (.Name x p) "append" apos) [e] [] cpos) pos) (tsimS g en n Wsh cf (.push i c)) := by
  refine PS.imp (ps_expr (pe_bm PySem.F.plainAttrs_list PySem.F.slot_list_append PySem.F.type_list_append mt_append (pe_var (i := i) (by rw [cc.hN]; exact hN) (by rw [cc.hsc]; exact hv) hd hcd) (pa_cons he pa_nil hs) rfl (by rw [hs]; rfl) hline hs rfl) rfl) ?_
  rintro D σ H ⟨W, env, st, hn, M, C, h⟩
  rw [evS] at h
  split at h
  · rename_i h0
    obtain ⟨ds, e0⟩ := hasOwn_some h0
    obtain ⟨a, vs, es, ha, l⟩ := M.ownLst e0
    refine ⟨_, es, tyV_lst ha, W, env, st, M, C, GoS.bindE M hn h ?_⟩
    rintro d st1 v W1 H1 - x1 C1 r1 h1
    obtain ⟨env2, e2, h2⟩ := wr_some h1
    have M1 := M.ext x1
    obtain ⟨a', vs1, es', ha1, l1⟩ := M1.ownLst e0
    rw [es] at es'
    cases es'
    unfold pushE ownAt at e2
    rw [e0] at e2
    have e2 : (if ds.length < 16777216 then env.put i (.own (.lst (ds ++ [d]))) else none) = some env2 := e2
    split at e2
    · rename_i hl
      obtain ⟨_, e3⟩ := put_some e2
      subst e3
      refine ⟨a, vs1, v, rfl, rfl, ha1, by rw [← l1.len, sizeLine_eq]; exact hl, GoS.wrote M1 C1 hn e0 es (l1.app (.cons r1 .nil)) h2⟩
    · cases e2
  · exact h.elim
theorem simS_ext {i : Nat} {x : Str} {e : Expr} {c : E} {p apos cpos pos : Pos} (cc : Ctx g X N sc k Wsh) (hN : N[i]? = some x) (hv : Vis sc x) (hd : (x == ("__debug__" : Str)) = false) (hcd : (x == ("__classdict__" : Str)) = false) (he : PE X e (tsim g en Wsh cf .frz c)) (hs : starEach [e] X.env = (false, eval e X.env) :: starEach [] X.env) (hline : (apos.endLine == cpos.line) = true) :
    PS X (.Expr (.Call (.Attribute (.Name x p) "extend" apos) [e] [] cpos) pos) (tsimS g en n Wsh cf (.ext i c)) := by
  refine PS.imp (ps_expr (pe_bm PySem.F.plainAttrs_list PySem.F.slot_list_extend PySem.F.type_list_extend mt_extend (pe_var (i := i) (by rw [cc.hN]; exact hN) (by rw [cc.hsc]; exact hv) hd hcd) (pa_cons he pa_nil hs) rfl (by rw [hs]; rfl) hline hs rfl) rfl) ?_
  rintro D σ H ⟨W, env, st, hn, M, C, h⟩
  rw [evS] at h
  split at h
  · rename_i h0
    obtain ⟨ds, e0⟩ := hasOwn_some h0
    obtain ⟨a, vs, es, ha, l⟩ := M.ownLst e0
    refine ⟨_, es, tyV_lst ha, W, env, st, M, C, GoS.bindE M hn h ?_⟩
    rintro d st1 v W1 H1 - x1 C1 r1 h1
    obtain ⟨env2, e2, h2⟩ := wr_some h1
    have M1 := M.ext x1
    obtain ⟨a', vs1, es', ha1, l1⟩ := M1.ownLst e0
    rw [es] at es'
    cases es'
    unfold extE ownAt at e2
    rw [e0] at e2
    cases d <;> (try (simp [one?] at e2; done))
    rename_i us
    have e2 : (if fits (ds.length + us.length) = true then env.put i (.own (.lst (ds ++ us))) else none) = some env2 := e2
    split at e2
    · rename_i hl
      obtain ⟨_, e3⟩ := put_some e2
      subst e3
      obtain ⟨b, zs, e4, e5, l5⟩ := Rep.lst_iff.mp (show Rep g W1 (.lst us) v from r1)
      subst e4
      refine ⟨a, b, vs1, zs, rfl, rfl, ha1, C1.fle _ _ e5, by rw [← l1.len, ← l5.len]; exact fits_line hl, GoS.wrote M1 C1 hn e0 es (l1.app l5) h2⟩
    · cases e2
  · exact h.elim
theorem simS_ins {i : Nat} {x : Str} {ek e : Expr} {ck c : E} {p apos cpos pos : Pos} (cc : Ctx g X N sc k Wsh) (hN : N[i]? = some x) (hv : Vis sc x) (hd : (x == ("__debug__" : Str)) = false) (hcd : (x == ("__classdict__" : Str)) = false) (hk : PE X ek (tsim g en Wsh cf .frz ck)) (he : PE X e (tsim g en Wsh cf .frz c)) (hs : starEach [ek, e] X.env = (false, eval ek X.env) :: starEach [e] X.env) (hs2 : starEach [e] X.env = (false, eval e X.env) :: starEach [] X.env) (hline : (apos.endLine == cpos.line) = true) :
    PS X (.Expr (.Call (.Attribute (.Name x p) "insert" apos) [ek, e] [] cpos) pos) (tsimS g en n Wsh cf (.ins i ck c)) := by
  refine PS.imp (ps_expr (pe_bm PySem.F.plainAttrs_list PySem.F.slot_list_insert PySem.F.type_list_insert mt_insert (pe_var (i := i) (by rw [cc.hN]; exact hN) (by rw [cc.hsc]; exact hv) hd hcd) (pa_cons hk (pa_cons he pa_nil hs2) hs) rfl (by rw [hs, hs2]; rfl) hline hs (by rw [hs2]; rfl)) rfl) ?_
  rintro D σ H ⟨W, env, st, hn, M, C, h⟩
  rw [evS] at h
  split at h
  · rename_i h0
    obtain ⟨ds, e0⟩ := hasOwn_some h0
    obtain ⟨a, vs, es, ha, l⟩ := M.ownLst e0
    refine ⟨_, es, tyV_lst ha, W, env, st, M, C, GoS.bindE M hn h ?_⟩
    rintro dk st0 vk W0 H0 - x0 C0 r0 h10
    have M0 := M.ext x0
    refine ⟨W0, env, st0, M0, C0, GoS.bindE M0 hn h10 ?_⟩
    clear h10
    rintro d st1 v W1 H1 - x1 C1 r1 h11
    obtain ⟨env2, e2, h2⟩ := wr_some h11
    clear h11
    have M1 := M0.ext x1
    obtain ⟨a', vs1, es', ha1, l1⟩ := M1.ownLst e0
    rw [es] at es'
    cases es'
    unfold insE ownAt at e2
    rw [e0] at e2
    cases dk <;> (try (simp [intD] at e2; done))
    rename_i j
    have e2 : (if (range62 j && decide (0 ≤ j) && decide (ds.length < 16777216)) = true then env.put i (.own (.lst (insAt ds j.toNat d))) else none) = some env2 := e2
    split at e2
    · rename_i hl
      simp only [Bool.and_eq_true, decide_eq_true_eq] at hl
      obtain ⟨⟨q1, q2⟩, q3⟩ := hl
      obtain ⟨b1, b2⟩ := r62 q1
      obtain ⟨_, e3⟩ := put_some e2
      subst e3
      refine ⟨a, vs1, j, v, rfl, by rw [Rep.int_iff.mp (show Rep g W0 (.int j) vk from r0)], ha1, by rw [← l1.len, sizeLine_eq]; exact q3, q2, by omega, GoS.wrote M1 C1 hn e0 es ?_ h2⟩
      exact ((l1.take _).app (.cons r1 .nil)).app (l1.drop _)
    · cases e2
  · exact h.elim

/-! ### xs[i] = v -/
theorem swaps_sub {e o ix : Expr} {p : Pos} {l : Nat} {env : PySem.Env} : swapsWithSole [.Subscript o ix p] e l env = pure false := by
  unfold swapsWithSole swapsWith
  cases e <;> rfl
theorem stores_sub {e o ix : Expr} {p : Pos} {env : PySem.Env} : swappedStores [.Subscript o ix p] e env = pure none := by
  unfold swappedStores
  rfl
theorem simS_seti {i : Nat} {x : Str} {ek e : Expr} {ck c : E} {p p2 pos : Pos} (cc : Ctx g X N sc k Wsh) (hN : N[i]? = some x) (hv : Vis sc x) (hd : (x == ("__debug__" : Str)) = false) (hcd : (x == ("__classdict__" : Str)) = false) (hk : PE X ek (tsim g en Wsh cf .frz ck)) (he : PE X e (tsim g en Wsh cf .frz c))
    (ha : ∀ v, assign (.Subscript (.Name x p) ek p2) X.env v = (do
      let ov ← holding [v] (eval (.Name x p) X.env)
      let iv ← holding [v, ov] (eval ek X.env)
      standAt p2
      holding [v, ov, iv] (setItem ov iv v)
      release [v, ov, iv] [])) :
    PS X (.Assign [.Subscript (.Name x p) ek p2] e pos) (tsimS g en n Wsh cf (.seti i ck c)) := by
  refine PS.imp (ps_asg he (pg_sub (pe_var (i := i) (by rw [cc.hN]; exact hN) (by rw [cc.hsc]; exact hv) hd hcd) hk set_list ha) swaps_sub stores_sub rfl) ?_
  rintro D σ H ⟨W, env, st, hn, M, C, h⟩
  rw [evS] at h
  refine ⟨W, env, st, M, C, GoS.bindE M hn h ?_⟩
  rintro d st1 v W1 H1 - x1 C1 r1 h1
  have M1 := M.ext x1
  split at h1
  · rename_i h0
    obtain ⟨ds, e0⟩ := hasOwn_some h0
    obtain ⟨a, vs, es, ha, l⟩ := M1.ownLst e0
    refine ⟨_, es, W1, env, st1, M1, C1, GoS.bindE M1 hn h1 ?_⟩
    rintro dk st2 vk W2 H2 - x2 C2 r2 h2
    obtain ⟨env2, e2, h3⟩ := wr_some h2
    have M2 := M1.ext x2
    obtain ⟨a', vs2, es', ha2, l2⟩ := M2.ownLst e0
    rw [es] at es'
    cases es'
    unfold setE ownAt at e2
    rw [e0] at e2
    cases dk <;> (try (simp [intD] at e2; done))
    rename_i j
    have e2 : ((Bp.ixN ds.length j).bind fun n => env.put i (.own (.lst (ds.set n d)))) = some env2 := e2
    obtain ⟨m, e3, e4⟩ := Option.bind_eq_some_iff.mp e2
    obtain ⟨_, e5⟩ := put_some e4
    subst e5
    rw [l2.len, ixN_same] at e3
    refine ⟨a, vs2, j, m, rfl, Rep.int_iff.mp (show Rep g W2 (.int j) vk from r2), ha2, e3, GoS.wrote M2 C2 hn e0 es (l2.set m (Rep.mono x2.le _ _ r1)) h3⟩
  · exact h1.elim
end
end Bp
set_option Elab.async false
set_option linter.all false
set_option maxRecDepth 100000
/-! BpStm2: writes to cells, loops, two at once. -/
namespace Bp
open PySem PySem.Spec PyProof.Rows L2
section
variable {g : Glob} {X : Cx} {N : List Str} {sc : Scope} {k n : Nat} {Wsh : WX} {en : Ent} {cf : Cf} {D : Ends}

/-! ### cells -/
theorem nodup_get {α : Type} {l : List α} (h : l.Nodup) {i j : Nat} {x : α} (e1 : l[i]? = some x) (e2 : l[j]? = some x) : i = j := by
  obtain ⟨h1, q1⟩ := List.getElem?_eq_some_iff.mp e1
  obtain ⟨h2, q2⟩ := List.getElem?_eq_some_iff.mp e2
  have hp := List.pairwise_iff_getElem.mp h
  rcases Nat.lt_trichotomy i j with z | z | z
  · exact absurd (q1.trans q2.symm) (hp i j h1 h2 z)
  · exact z
  · exact absurd (q2.trans q1.symm) (hp j i h2 h1 z)
/-- a cell is written -/
theorem CellM.wrC {W : Wd} {H : Hp} {st : Store} {r : Nat} {a : Addr} {o : HO} {c' : Cell} (C : CellM g W st H) (ea : W.α[r]? = some a) (hr : CellRep g W (L2.upd H a o) a c') : CellM g W (st.set r c') (L2.upd H a o) := by
  refine ⟨fun b u e => ?_, by rw [List.length_set]; exact C.len, C.nd, C.nf, fun i c e => ?_⟩
  · by_cases z : b = a
    · subst z
      rw [C.nf b (mem_get ea)] at e; cases e
    · rw [upd_ne z]; exact C.fle b u e
  · by_cases z : r = i
    · subst z
      have hl : r < st.length := by rw [← C.len]; exact (List.getElem?_eq_some_iff.mp ea).1
      rw [List.getElem?_set_self hl] at e
      cases e
      exact ⟨a, ea, hr⟩
    · rw [List.getElem?_set_ne z] at e
      obtain ⟨b, e1, q⟩ := C.cell i c e
      refine ⟨b, e1, q.ext Wle.refl (upd_ne fun y => ?_)⟩
      subst y
      exact z (nodup_get C.nd ea e1)
theorem ext_wrC {W : Wd} {H : Hp} {a : Addr} {o : HO} (h : a ∈ W.α) : Ext W H W (upd H a o) :=
  ⟨Wle.refl, fun b u e n => by rw [upd_ne fun z => by subst z; exact n h]; exact e, fun _ _ _ _ z => z, fun _ h => .inl h⟩
theorem GoS.wroteC {W : Wd} {env : Env} {σ : L2.St} {H : Hp} {st : Store} {r : Nat} {a : Addr} {o : HO} {c' : Cell} (m : EnvM g en W env σ H) (C : CellM g W st H) (hn : env.length = n) (ea : W.α[r]? = some a) (hr : CellRep g W (L2.upd H a o) a c')
    (h : GoS g en n Wsh D W (.ok (.nxt env) (st.set r c'))) : D.nx σ (upd H a o) :=
  h σ W _ .refl hn (m.ext (ext_wrC (mem_get ea))) (C.wrC ea hr)
theorem isCell_some {st : Store} {d : Bp.D} (h : isCell st d = true) : ∃ r ds, d = .ref r ∧ st[r]? = some (.lst ds) := by
  unfold isCell at h
  obtain ⟨ds, e⟩ := Option.isSome_iff_exists.mp h
  obtain ⟨r, e1, e2⟩ := Option.bind_eq_some_iff.mp e
  cases d <;> (try (simp [refD] at e1; done))
  simp only [refD, Option.some.injEq] at e1
  subst e1
  refine ⟨_, ds, rfl, ?_⟩
  unfold cellAt at e2
  split at e2
  · rename_i q; cases e2; exact q
  · cases e2
theorem simS_cset {o ek e : Expr} {co ck c : E} {p2 pos : Pos} (ho : PE X o (tsim g en Wsh cf .frz co)) (hk : PE X ek (tsim g en Wsh cf .frz ck)) (he : PE X e (tsim g en Wsh cf .frz c))
    (ha : ∀ v, assign (.Subscript o ek p2) X.env v = (do
      let ov ← holding [v] (eval o X.env)
      let iv ← holding [v, ov] (eval ek X.env)
      standAt p2
      holding [v, ov, iv] (setItem ov iv v)
      release [v, ov, iv] [])) :
    PS X (.Assign [.Subscript o ek p2] e pos) (tsimS g en n Wsh cf (.cset co ck c)) := by
  refine PS.imp (ps_asg he (pg_sub ho hk set_list ha) swaps_sub stores_sub rfl) ?_
  rintro D σ H ⟨W, env, st, hn, M, C, h⟩
  rw [evS] at h
  refine ⟨W, env, st, M, C, GoS.bindE M hn h ?_⟩
  rintro d st1 v W1 H1 - x1 C1 r1 h1
  have M1 := M.ext x1
  refine ⟨W1, env, st1, M1, C1, GoS.bindE M1 hn h1 ?_⟩
  rintro dr st2 vr W2 H2 - x2 C2 r2 h2
  have M2 := M1.ext x2
  refine ⟨W2, env, st2, M2, C2, GoS.bindE M2 hn h2 ?_⟩
  rintro dk st3 vk W3 H3 - x3 C3 r3 h3
  have M3 := M2.ext x3
  obtain ⟨st4, e4, h4⟩ := wrS_some h3
  unfold csetS at e4
  obtain ⟨r, e5, e6⟩ := Option.bind_eq_some_iff.mp e4
  obtain ⟨j, e7, e8⟩ := Option.bind_eq_some_iff.mp e6
  obtain ⟨ds, e9, e10⟩ := Option.bind_eq_some_iff.mp e8
  obtain ⟨m, e11, e12⟩ := Option.bind_eq_some_iff.mp e10
  cases e12
  cases dr <;> (try (simp [refD] at e5; done))
  simp only [refD, Option.some.injEq] at e5
  subst e5
  cases dk <;> (try (simp [intD] at e7; done))
  simp only [intD, Option.some.injEq] at e7
  subst e7
  have e9' : st3[‹Nat›]? = some (.lst ds) := by
    unfold cellAt at e9
    split at e9
    · rename_i q; cases e9; exact q
    · cases e9
  obtain ⟨a, q1, q2⟩ := Rep.ref_iff.mp (show Rep g W2 (.ref _) vr from r2)
  obtain ⟨a', q3, vs, q4, l⟩ := C3.cell _ _ e9'
  have q1' := prefix_get x3.le.a q1
  rw [q1'] at q3
  cases q3
  rw [l.len, ixN_same] at e11
  refine ⟨a, vs, _, m, q2, Rep.int_iff.mp (show Rep g W3 (.int _) vk from r3), q4, e11, ?_⟩
  exact GoS.wroteC (c' := .lst (ds.set m d)) M3 C3 hn q1' ⟨_, upd_same, l.set m (Rep.mono (x2.le.trans x3.le) _ _ r1)⟩ h4
theorem simS_cpush {o e : Expr} {co c : E} {apos cpos pos : Pos} (ho : PE X o (tsim g en Wsh cf .frz co)) (he : PE X e (tsim g en Wsh cf .frz c)) (hb : attributeBase o "append" X.env (eval o X.env) = eval o X.env) (hs : starEach [e] X.env = (false, eval e X.env) :: starEach [] X.env) (hline : (apos.endLine == cpos.line) = true) :
    PS X (.Expr (.Call (.Attribute o "append" apos) [e] [] cpos) pos) (tsimS g en n Wsh cf (.cpush co c)) := by
  refine PS.imp (ps_expr (pe_bm PySem.F.plainAttrs_list PySem.F.slot_list_append PySem.F.type_list_append mt_append ho (pa_cons he pa_nil hs) hb (by rw [hs]; rfl) hline hs rfl) rfl) ?_
  rintro D σ H ⟨W, env, st, hn, M, C, h⟩
  rw [evS] at h
  refine ⟨W, env, st, M, C, GoS.bindE M hn h ?_⟩
  rintro dr st1 vr W1 H1 - x1 C1 r1 h1
  have M1 := M.ext x1
  split at h1
  · rename_i hc
    obtain ⟨r, ds, e5, e9⟩ := isCell_some hc
    subst e5
    obtain ⟨a, q1, q2⟩ := Rep.ref_iff.mp (show Rep g W1 (.ref _) vr from r1)
    obtain ⟨a', q3, vs, q4, l⟩ := C1.cell _ _ e9
    rw [q1] at q3
    cases q3
    subst q2
    refine ⟨tyV_lst q4, W1, env, st1, M1, C1, GoS.bindE M1 hn h1 ?_⟩
    rintro d st2 v W2 H2 - x2 C2 r2 h2
    have M2 := M1.ext x2
    obtain ⟨st3, e4, h3⟩ := wrS_some h2
    unfold cpushS at e4
    obtain ⟨r', e5, e6⟩ := Option.bind_eq_some_iff.mp e4
    simp only [refD, Option.some.injEq] at e5
    subst e5
    obtain ⟨ds', e7, e8⟩ := Option.bind_eq_some_iff.mp e6
    split at e8
    · rename_i hl
      cases e8
      have e7' : st2[r]? = some (.lst ds') := by
        unfold cellAt at e7
        split at e7
        · rename_i q; cases e7; exact q
        · cases e7
      obtain ⟨a', q5, vs', q6, l'⟩ := C2.cell _ _ e7'
      have q1' := prefix_get x2.le.a q1
      rw [q1'] at q5
      cases q5
      refine ⟨a, vs', v, rfl, rfl, q6, by rw [← l'.len, sizeLine_eq]; exact hl, ?_⟩
      exact GoS.wroteC (c' := .lst (ds' ++ [d])) M2 C2 hn q1' ⟨_, upd_same, l'.app (.cons r2 .nil)⟩ h3
    · cases e8
  · exact h1.elim
theorem RepF.put {W : Wd} {k : Nat} {d : Bp.D} {v : V} (inj : ∀ j, g.at_ j = g.at_ k → j = k) (r : Rep g W d v) : ∀ {fs : List (Nat × Bp.D)} {ws : List (Str × V)}, RepF g W fs ws → RepF g W (putA k d fs) (putF (g.at_ k) v ws)
  | [], ws, h => by
    have e : ws = [] := h
    subst e
    exact ⟨v, [], rfl, r, rfl⟩
  | (j, x) :: fs, ws, h => by
    obtain ⟨u, ws', e, q, l⟩ := (show ∃ v fs', ws = (g.at_ j, v) :: fs' ∧ Rep g W x v ∧ RepF g W fs fs' from h)
    subst e
    by_cases hk : j = k
    · subst hk
      have e1 : putA j d ((j, x) :: fs) = (j, d) :: fs := by simp [putA]
      have e2 : putF (g.at_ j) v ((g.at_ j, u) :: ws') = (g.at_ j, v) :: ws' := by simp [putF]
      rw [e1, e2]
      exact ⟨v, ws', rfl, r, l⟩
    · have e1 : putA k d ((j, x) :: fs) = (j, x) :: putA k d fs := by simp [putA, hk]
      have hne : ¬ (g.at_ j = g.at_ k) := fun z => hk (inj j z)
      have e2 : putF (g.at_ k) v ((g.at_ j, u) :: ws') = (g.at_ j, u) :: putF (g.at_ k) v ws' := by simp [putF, hne]
      rw [e1, e2]
      exact ⟨u, _, rfl, q, RepF.put inj r l⟩
theorem RepF.len {W : Wd} : ∀ {fs : List (Nat × Bp.D)} {ws : List (Str × V)}, RepF g W fs ws → ws.length = fs.length
  | [], ws, h => by rw [show ws = [] from h]; rfl
  | (j, x) :: fs, ws, h => by
    obtain ⟨u, ws', e, q, l⟩ := (show ∃ v fs', ws = (g.at_ j, v) :: fs' ∧ Rep g W x v ∧ RepF g W fs fs' from h)
    rw [e, List.length_cons, List.length_cons, RepF.len l]
theorem simS_fset {o e : Expr} {co c : E} {kf : Nat} {p2 pos : Pos} (hK : X.K = g.K) (ok : FldOk g cf.nc kf) (ho : PE X o (tsim g en Wsh cf .frz co)) (he : PE X e (tsim g en Wsh cf .frz c)) (hs : swapsWith e (some (.Attribute o (g.at_ kf) p2)) pos.line X.env = pure false) :
    PS X (.Assign [.Attribute o (g.at_ kf) p2] e pos) (tsimS g en n Wsh cf (.fset co kf c)) := by
  refine PS.imp (ps_fld ho he hs) ?_
  rintro D σ H ⟨W, env, st, hn, M, C, h⟩
  rw [evS] at h
  refine ⟨W, env, st, M, C, GoS.bindE M hn h ?_⟩
  rintro d st1 v W1 H1 - x1 C1 r1 h1
  have M1 := M.ext x1
  refine ⟨W1, env, st1, M1, C1, GoS.bindE M1 hn h1 ?_⟩
  rintro dr st2 vr W2 H2 - x2 C2 r2 h2
  have M2 := M1.ext x2
  obtain ⟨st3, e4, h3⟩ := wrS_some h2
  unfold fsetS at e4
  obtain ⟨r, e5, e6⟩ := Option.bind_eq_some_iff.mp e4
  obtain ⟨⟨c', fs⟩, e7, e8⟩ := Option.bind_eq_some_iff.mp e6
  simp only at e8
  split at e8
  · rename_i hl
    cases e8
    cases dr <;> (try (simp [refD] at e5; done))
    simp only [refD, Option.some.injEq] at e5
    subst e5
    have e7' : st2[‹Nat›]? = some (.inst c' fs) := by
      unfold instAt at e7
      split at e7
      · rename_i q; cases e7; exact q
      · cases e7
    obtain ⟨a, q1, q2⟩ := Rep.ref_iff.mp (show Rep g W2 (.ref _) vr from r2)
    obtain ⟨a', q5, dx, ws, q6, l⟩ := C2.cell _ _ e7'
    rw [q1] at q5
    cases q5
    obtain ⟨o1, o2⟩ := ok.cl c' hl.2
    refine ⟨a, _, dx, ws, q2, q6, by rw [hK]; exact o1, by rw [hK]; exact o2, by rw [l.len]; exact hl.1, ?_⟩
    exact GoS.wroteC (c' := .inst c' (putA kf d fs)) M2 C2 hn q1 ⟨dx, _, upd_same, l.put ok.inj (Rep.mono x2.le _ _ r1)⟩ h3
  · cases e8
/-- a new cell -/
theorem sim_cell {es : List Expr} {cs : List E} {pos : Pos} {m : Mode} (hm : m.val = true) (h : PA X es (tsims g en Wsh cf cs)) : PE X (.List es pos) (tsim g en Wsh cf m (.cell cs)) := by
  refine PE.imp (pe_lst h) ?_
  rintro σ H Q ⟨W, env, st, M, C, h⟩
  rw [evE, fin_val hm] at h
  refine ⟨W, env, st, M, C, Go.bind h ?_⟩
  rintro ds st1 vs W1 H1 - x1 C1 r1 h1
  have hl := r1.len
  by_cases hf : fits ds.length = true
  · rw [if_pos hf] at h1
    refine ⟨by rw [← hl]; exact fits_line hf, fun p hp => ?_⟩
    have le : Wle W1 ⟨W1.F, W1.α ++ [p]⟩ := ⟨fun _ _ h => h, List.prefix_append _ _⟩
    have same : ∀ b u, H1 b = some u → upd H1 p (.lst vs) b = some u := fun b u e => by rw [upd_ne (ne_of_none e hp)]; exact e
    refine h1 _ ⟨W1.F, W1.α ++ [p]⟩ _ ⟨le, fun b u e _ => same b u e, fun _ _ _ _ z => z, fun b hb => ?_⟩ ⟨fun b u e => same b u (C1.fle b u e), ?_, ?_, fun b hb => ?_, fun i c e => ?_⟩ (RepM.of hm (Rep.ref_iff.mpr ⟨p, ?_, rfl⟩))
    · rcases List.mem_append.mp hb with hb | hb
      · exact .inl hb
      · rw [List.mem_singleton.mp hb]; exact .inr hp
    · rw [List.length_append, List.length_append, C1.len]; rfl
    · refine List.nodup_append.mpr ⟨C1.nd, by simp, fun a ha b hb => ?_⟩
      rw [List.mem_singleton.mp hb]
      intro z
      subst z
      exact C1.anone hp ha
    · rcases List.mem_append.mp hb with hb | hb
      · exact C1.nf b hb
      · rw [List.mem_singleton.mp hb]; exact C1.fnone hp
    · by_cases hi : i < st1.length
      · rw [List.getElem?_append_left hi] at e
        obtain ⟨a, e1, r⟩ := C1.cell i c e
        refine ⟨a, prefix_get (List.prefix_append _ _) e1, r.ext le ?_⟩
        cases c with
        | lst ds => obtain ⟨vs, q, _⟩ := r; rw [q]; exact same a _ q
        | inst c' fs => obtain ⟨dx', fs', q, _⟩ := r; rw [q]; exact same a _ q
      · have hi2 : i = st1.length := by
          have := (List.getElem?_eq_some_iff.mp e).1
          rw [List.length_append] at this
          simp at this
          omega
        subst hi2
        rw [List.getElem?_append_right (Nat.le_refl _)] at e
        simp at e
        subst e
        exact ⟨p, by rw [← C1.len, List.getElem?_append_right (Nat.le_refl _)]; simp, vs, upd_same, RepL.mono le _ _ r1⟩
    · rw [← C1.len, List.getElem?_append_right (Nat.le_refl _)]; simp
  · rw [if_neg hf] at h1; exact h1.elim

/-! ### loops -/
theorem simS_for {tge iter : Expr} {body : List Stmt} {t : Tg} {it : It} {cb : List S} {pos : Pos} (hp : PassesOwn (model X.prog X.w) X.A X.env X.xe) (hc : X.calm = true) (hi : PI X tge iter (tsimI g en Wsh cf true it)) (hg : PG X tge (tsimG g en t)) (hb : PSs X body (tsimSs g en n Wsh cf cb)) (hs : ∀ x, foldedSetIterable iter X.env x = pure x) :
    PS X (.For tge iter body [] pos) (tsimS g en n Wsh cf (.for_ t it cb)) := by
  refine PS.imp (ps_for hp hc hi hg hb hs) ?_
  rintro D σ H ⟨W, env, st, hn, M, C, h⟩
  rw [evS] at h
  refine ⟨W, env, st, M, C, GoS.bindE M hn h ?_⟩
  rintro xs st1 J W1 H1 - x1 C1 ⟨G, Y, itr⟩ h1
  have M1 := M.ext x1
  let f : Bp.D → Env → Store → Res Out := fun x env st => match bindT t x env with
    | some env => evSs cf cb env st
    | none => .bad
  have h1 : GoS g en n Wsh D W1 (forGo f xs env st1) := h1
  let Pv : Nat → L2.St → Hp → Prop := fun i σ H => ∃ Wc env st, Wle W1 Wc ∧ env.length = n ∧ EnvM g en Wc env σ H ∧ CellM g Wc st H ∧ GoS g en n Wsh D Wc (forGo f (xs.drop i) env st)
  refine ⟨fun i m σ H => m = xs.length - i ∧ i ≤ xs.length ∧ Pv i σ H, ⟨_, rfl, Nat.zero_le _, W1, env, st1, .refl, hn, M1, C1, h1⟩, ?_⟩
  rintro i m σc Hc ⟨rfl, hin, Wc, envc, stc, le, hnc, Mc, Cc, hgo⟩
  have hG := itr.holds Wc stc Hc le Cc
  by_cases hi : i < xs.length
  · refine .inr ⟨itr.walk.goes i Hc hi hG, Pv (i + 1), fun σ' H' p' => ⟨_, by omega, rfl, hi, p'⟩, fun x Hx hy => ?_⟩
    have hy := itr.walk.yields i Hc x Hx hi hG hy
    have hd : xs[i]? = some xs[i] := List.getElem?_eq_getElem hi
    obtain ⟨Wx, xx, Cx', rx⟩ := itr.gives i xs[i] Wc stc Hc x Hx hd le Cc hy
    have Mx := Mc.ext xx
    rw [List.drop_eq_getElem_cons hi, forGo] at hgo
    cases q : bindT t xs[i] envc with
    | none =>
      have e : f xs[i] envc stc = .bad := by show (match bindT t xs[i] envc with | some env => evSs cf cb env stc | none => .bad) = .bad; rw [q]
      rw [e] at hgo
      exact hgo.elim
    | some env2 =>
      have e : f xs[i] envc stc = evSs cf cb env2 stc := by show (match bindT t xs[i] envc with | some env => evSs cf cb env stc | none => .bad) = _; rw [q]
      rw [e] at hgo
      refine ⟨Wx, envc, stc, xs[i], env2, Mx, Cx', rx, q, fun σ2 M2 _ _ => ?_⟩
      refine ⟨Wx, env2, stc, by rw [bindT_len _ _ _ _ q, hnc], M2, Cx', ?_⟩
      have hgo := GoS.mono hgo xx.le
      cases q2 : evSs cf cb env2 stc with
      | bad => rw [q2] at hgo; exact hgo
      | exc k d s => rw [q2] at hgo; exact hgo
      | ok o s =>
        rw [q2] at hgo
        cases o with
        | nxt env' => exact fun σ' W' H' le' hn' M' C' => ⟨W', env', s, (le.trans xx.le).trans le', hn', M', C', GoS.mono (show GoS g en n Wsh D Wx (forGo f (xs.drop (i + 1)) env' s) from hgo) le'⟩
        | brk env' => exact hgo
        | ret d => exact hgo
  · have ei : i = xs.length := by omega
    subst ei
    rw [List.drop_length, forGo] at hgo
    exact .inl ⟨itr.walk.stops Hc hG, hgo σc Wc Hc .refl hnc Mc Cc⟩
theorem simS_whl {e : Expr} {c : E} {body : List Stmt} {cb : List S} {pos : Pos} (hp : PassesOwn (model X.prog X.w) X.A X.env X.xe) (h : PT X e (tsimT g en Wsh cf c)) (hb : PSs X body (tsimSs g en n Wsh cf cb)) :
    PS X (.While e body [] pos) (tsimS g en n Wsh cf (.whl c cb)) := by
  refine PS.imp (ps_while hp h hb) ?_
  rintro D σ H ⟨W, env, st, hn, M, C, h⟩
  rw [evS] at h
  let Pv : Nat → L2.St → Hp → Prop := fun m σ H => ∃ Wc env st, env.length = n ∧ EnvM g en Wc env σ H ∧ CellM g Wc st H ∧ GoS g en n Wsh D Wc (whlGo (fun env st => evE cf c .tst env st) (fun env st => evSs cf cb env st) m env st)
  refine ⟨Pv, ⟨turns, W, env, st, hn, M, C, h⟩, ?_⟩
  rintro m σc Hc ⟨Wc, envc, stc, hnc, Mc, Cc, hgo⟩
  cases m with
  | zero => rw [whlGo] at hgo; exact hgo.elim
  | succ m =>
    rw [whlGo] at hgo
    refine ⟨Wc, envc, stc, Mc, Cc, GoS.bindE Mc hnc hgo ?_⟩
    rintro d st1 b W1 H1 - x1 C1 e1 h1
    subst e1
    cases b with
    | false =>
      rw [if_neg Bool.false_ne_true]
      exact h1 σc W1 H1 .refl hnc (Mc.ext x1) C1
    | true =>
      rw [if_pos rfl]
      refine ⟨Pv m, fun σ' H' p' => ⟨m, by omega, p'⟩, W1, envc, st1, hnc, Mc.ext x1, C1, ?_⟩
      have h1 : GoS g en n Wsh D W1 ((evSs cf cb envc st1).bind fun o st => match o with
        | .nxt env => whlGo (fun env st => evE cf c .tst env st) (fun env st => evSs cf cb env st) m env st
        | .brk env => .ok (.nxt env) st
        | .ret d => .ok (.ret d) st) := h1
      cases q2 : evSs cf cb envc st1 with
      | bad => rw [q2] at h1; exact h1
      | exc k d s => rw [q2] at h1; exact h1
      | ok o s =>
        rw [q2] at h1
        cases o with
        | nxt env' => exact fun σ' W' H' le' hn' M' C' => ⟨W', env', s, hn', M', C', GoS.mono (show GoS g en n Wsh D W1 (whlGo _ _ m env' s) from h1) le'⟩
        | brk env' => exact h1
        | ret d => exact h1

/-! ### two at once -/
theorem simS_par {st : Stmt} {i j : Nat} {cs : List E} (h : PS X st (tPar i j (tsims g en Wsh cf cs))) : PS X st (tsimS g en n Wsh cf (.par [i, j] cs)) := by
  refine PS.imp h ?_
  rintro D σ H ⟨W, env, st, hn, M, C, h⟩
  rw [evS] at h
  refine ⟨W, env, st, M, C, GoS.bindE M hn h ?_⟩
  rintro ds st1 vs W1 H1 - x1 C1 r1 h1
  have M1 := M.ext x1
  obtain ⟨env2, e, h2⟩ := wr_some h1
  match ds, e with
  | [d1, d2], e =>
    simp only [parE] at e
    obtain ⟨env1, e1, e2⟩ := Option.bind_eq_some_iff.mp e
    obtain ⟨env3, e3, e4⟩ := Option.bind_eq_some_iff.mp e2
    cases e4
    obtain ⟨hi, e5⟩ := put_some e1
    obtain ⟨hj, e6⟩ := put_some e3
    subst e5
    subst e6
    obtain ⟨v1, vs', ev1, rv1, l1⟩ := RepL.cons_iff.mp r1
    obtain ⟨v2, vs2, ev2, rv2, l2⟩ := RepL.cons_iff.mp l1
    rw [RepL.nil_iff.mp l2] at ev2
    refine ⟨v1, v2, by rw [ev1, ev2], h2 _ W1 H1 .refl ?_ ((M1.put hi rv1).put hj rv2) C1⟩
    rw [List.length_set, List.length_set, hn]
  | [], e => simp [parE] at e
  | [_], e =>
    simp only [parE] at e
    obtain ⟨env1, e1, e2⟩ := Option.bind_eq_some_iff.mp e
    simp [parE] at e2
  | _ :: _ :: _ :: _, e =>
    simp only [parE] at e
    obtain ⟨env1, e1, e2⟩ := Option.bind_eq_some_iff.mp e
    obtain ⟨env3, e3, e4⟩ := Option.bind_eq_some_iff.mp e2
    simp [parE] at e4
end
end Bp
set_option Elab.async false
set_option linter.all false
set_option maxRecDepth 100000
/-! BpFin: comprehensions as values and in stores; negation; len(set(..)). -/
namespace Bp
open PySem PySem.Spec PyProof.Rows L2
section
variable {g : Glob} {X : Cx} {N : List Str} {sc : Scope} {k n : Nat} {Wsh : WX} {en : Ent} {cf : Cf} {D : Ends}
abbrev WN : WX := fun _ _ _ _ => False
/-- the context of a comprehension's block -/
theorem Ctx.blk (c : Ctx g X N sc k Wsh) (s : Shared) (H : Hp) (scope : Scope) (C : Addr) (cl : List (Str × Addr)) (fp : List Addr) : Ctx g (X.blk s H scope (compEnvC scope cl C X.env) fp) N (relS scope sc) k WN :=
  ⟨c.hP, c.hw, c.hK, c.hmg, c.hbase, c.hcalm, c.hN, c.hnd, by rw [← c.hsc]; rfl, c.hroom, takes0⟩
/-- what is asked of every block -/
def InBlk (X : Cx) (scope : Scope) (P : Cx → Prop) : Prop := ∀ (s : Shared) (H : Hp) (C : Addr) (cl : List (Str × Addr)) (fp : List Addr), P (X.blk s H scope (compEnvC scope cl C X.env) fp)
theorem pts_true {Y : Cx} {W' : WX} : PTs Y [] (tsimT g en W' cf (.cst (.bl true))) := by
  refine ⟨fun pins s σ H Q I h => ?_⟩
  refine pts_nil.run pins s σ H Q I ?_
  obtain ⟨W, env, st, M, C, h⟩ := h
  rw [evE] at h
  exact h true W H .refl C rfl
theorem simN_comp {elt tge iter : Expr} {ifs : List Expr} {scope : Scope} {own : List (Str × Nat)} {pos : Pos} {it : It} {tg : Tg} {c e : E} (cc : Ctx g X N sc k Wsh) (ok : BlkOk N sc scope own) (hvs : ∀ i ∈ tg.slots, i ∈ own.map (·.2)) (hi : PI X tge iter (tsimI g en Wsh cf false it))
    (hg : InBlk X scope fun Y => PG Y tge (tsimG g en tg)) (ht : InBlk X scope fun Y => PTs Y ifs (tsimT g en WN cf c)) (he : InBlk X scope fun Y => PE Y elt (tsim g en WN cf .frz e)) (hs : ∀ x, foldedSetIterable iter X.env x = pure x) :
    PE X (.ListComp elt [⟨tge, iter, ifs, 0⟩] scope pos) (tsimN g en Wsh cf (.comp (own.map (·.2)) tg it c e)) :=
  PE.imp (pe_lc cc.hcalm (by rw [cc.hN]; exact cc.hnd) hi (by rw [cc.hN, cc.hsc]; exact ok) hg ht he hs) fun σ H Q h => lc_read hvs rfl rfl h
theorem simS_comp {i : Nat} {y : Str} {py : Pos} {elt tge iter : Expr} {ifs : List Expr} {scope : Scope} {own : List (Str × Nat)} {pos spos : Pos} {it : It} {tg : Tg} {c e : E} (cc : Ctx g X N sc k Wsh) (hy : N[i]? = some y) (hyl : sc.names.lookup y = some .local) (ok : BlkOk N sc scope own) (hvs : ∀ i ∈ tg.slots, i ∈ own.map (·.2))
    (hsw : swapsWith (.ListComp elt [⟨tge, iter, ifs, 0⟩] scope pos) (some (.Name y py)) spos.line X.env = pure true) (hi : PI X tge iter (tsimI g en Wsh cf false it))
    (hg : InBlk X scope fun Y => PG Y tge (tsimG g en tg)) (ht : InBlk X scope fun Y => PTs Y ifs (tsimT g en WN cf c)) (he : InBlk X scope fun Y => PE Y elt (tsim g en WN cf .frz e)) (hs : ∀ x, foldedSetIterable iter X.env x = pure x) :
    PS X (.Assign [.Name y py] (.ListComp elt [⟨tge, iter, ifs, 0⟩] scope pos) spos) (tAsg (tsimN g en Wsh cf (.comp (own.map (·.2)) tg it c e)) (gName i)) :=
  PS.asgN (ps_setLc cc.hcalm (by rw [cc.hN]; exact cc.hnd) (by rw [cc.hN]; exact hy) (by rw [cc.hsc]; exact hyl) hsw hi (by rw [cc.hN, cc.hsc]; exact ok) hg ht he hs) fun σ H Q h => lc_read hvs rfl rfl h
theorem simN_comp2 {elt tge iter tge1 iter1 : Expr} {ifs ifs1 : List Expr} {scope : Scope} {own : List (Str × Nat)} {vs1 : List Nat} {pos : Pos} {it it1 : It} {tg tg1 : Tg} {c c1 e : E} (cc : Ctx g X N sc k Wsh) (ok : BlkOk N sc scope own) (hv : ∀ i ∈ vs1, i ∈ own.map (·.2)) (hvs : ∀ i ∈ tg.slots, i ∈ own.map (·.2)) (hvs1 : ∀ i ∈ tg1.slots, i ∈ vs1) (hi : PI X tge iter (tsimI g en Wsh cf false it))
    (hg : InBlk X scope fun Y => PG Y tge (tsimG g en tg)) (ht : InBlk X scope fun Y => PTs Y ifs (tsimT g en WN cf c)) (hi1 : InBlk X scope fun Y => PI Y tge1 iter1 (tsimI g en WN cf true it1)) (hg1 : InBlk X scope fun Y => PG Y tge1 (tsimG g en tg1)) (ht1 : InBlk X scope fun Y => PTs Y ifs1 (tsimT g en WN cf c1)) (he : InBlk X scope fun Y => PE Y elt (tsim g en WN cf .frz e))
    (hs : ∀ x, foldedSetIterable iter X.env x = pure x) (hs1 : ∀ env x, foldedSetIterable iter1 env x = pure x) :
    PE X (.ListComp elt [⟨tge, iter, ifs, 0⟩, ⟨tge1, iter1, ifs1, 0⟩] scope pos) (tsimN g en Wsh cf (.comp2 (own.map (·.2)) tg it c vs1 tg1 it1 c1 e)) :=
  PE.imp (pe_lc2 cc.hcalm (by rw [cc.hN]; exact cc.hnd) hi (by rw [cc.hN, cc.hsc]; exact ok) hv hg ht hi1 hg1 ht1 he hs hs1) fun σ H Q h => lc2_read hvs hvs1 h
theorem simS_comp2 {i : Nat} {y : Str} {py : Pos} {elt tge iter tge1 iter1 : Expr} {ifs ifs1 : List Expr} {scope : Scope} {own : List (Str × Nat)} {vs1 : List Nat} {pos spos : Pos} {it it1 : It} {tg tg1 : Tg} {c c1 e : E} (cc : Ctx g X N sc k Wsh) (hy : N[i]? = some y) (hyl : sc.names.lookup y = some .local) (ok : BlkOk N sc scope own) (hv : ∀ i ∈ vs1, i ∈ own.map (·.2)) (hvs : ∀ i ∈ tg.slots, i ∈ own.map (·.2)) (hvs1 : ∀ i ∈ tg1.slots, i ∈ vs1)
    (hsw : swapsWith (.ListComp elt [⟨tge, iter, ifs, 0⟩, ⟨tge1, iter1, ifs1, 0⟩] scope pos) (some (.Name y py)) spos.line X.env = pure true) (hi : PI X tge iter (tsimI g en Wsh cf false it))
    (hg : InBlk X scope fun Y => PG Y tge (tsimG g en tg)) (ht : InBlk X scope fun Y => PTs Y ifs (tsimT g en WN cf c)) (hi1 : InBlk X scope fun Y => PI Y tge1 iter1 (tsimI g en WN cf true it1)) (hg1 : InBlk X scope fun Y => PG Y tge1 (tsimG g en tg1)) (ht1 : InBlk X scope fun Y => PTs Y ifs1 (tsimT g en WN cf c1)) (he : InBlk X scope fun Y => PE Y elt (tsim g en WN cf .frz e))
    (hs : ∀ x, foldedSetIterable iter X.env x = pure x) (hs1 : ∀ env x, foldedSetIterable iter1 env x = pure x) :
    PS X (.Assign [.Name y py] (.ListComp elt [⟨tge, iter, ifs, 0⟩, ⟨tge1, iter1, ifs1, 0⟩] scope pos) spos) (tAsg (tsimN g en Wsh cf (.comp2 (own.map (·.2)) tg it c vs1 tg1 it1 c1 e)) (gName i)) :=
  PS.asgN (ps_setLc2 cc.hcalm (by rw [cc.hN]; exact cc.hnd) (by rw [cc.hN]; exact hy) (by rw [cc.hsc]; exact hyl) hsw hi (by rw [cc.hN, cc.hsc]; exact ok) hv hg ht hi1 hg1 ht1 he hs hs1) fun σ H Q h => lc2_read hvs hvs1 h
/-- a store of a new list, frozen -/
theorem ofN_read {c : E} {σ : L2.St} {H : Hp} {Q : VK} (h : tsim g en Wsh cf .frz c σ H Q) : tsimN g en Wsh cf c σ H Q := by
  obtain ⟨W, env, st, M, C, h⟩ := h
  refine ⟨W, env, st, M, C, ?_⟩
  cases q : evE cf c .frz env st with
  | ok d st1 =>
    rw [q] at h
    intro v W1 H1 x1 C1 r1
    obtain ⟨ds, a, vs, e1, e2, n0, ha, hf, hn, r⟩ := r1
    subst e1 e2
    exact h _ (W1.add a (.lst vs)) H1 (ext_frz x1 n0 hf) (C1.frz ha hf hn) (Rep.lst_iff.mpr ⟨a, vs, rfl, upd_same, RepL.mono (Wle.add hf) _ _ r⟩)
  | exc k d st1 => rw [q] at h; exact h
  | bad => rw [q] at h; exact h
theorem PS.frzN {st : Stmt} {i : Nat} {c : E} (h : PS X st (tAsg (tsimN g en Wsh cf c) (gName i))) : PS X st (tAsg (tsim g en Wsh cf .frz c) (gName i)) := PS.asgN h fun σ H Q q => ofN_read q

/-! ### -x -/
theorem sim_neg {a : Expr} {ca : E} {pos : Pos} {m : Mode} (hm : m.val = true) (ha : PE X a (tsim g en Wsh cf .brw ca)) : PE X (.UnaryOp .USub a pos) (tsim g en Wsh cf m (.neg ca)) := by
  refine PE.imp (pe_un un_neg ha) ?_
  rintro σ H Q ⟨W, env, st, M, C, h⟩
  rw [evE, fin_val hm] at h
  refine ⟨W, env, st, M, C, Go.bind h ?_⟩
  rintro d st1 v W1 H1 - x1 C1 r1 h1
  obtain ⟨d', e, h2⟩ := Go.of h1
  cases d <;> (try (simp [negD] at e; done))
  rename_i i
  simp only [negD, Option.some.injEq] at e
  subst e
  exact ⟨i, RepB.int (show RepB g W1 H1 (.int i) v from r1), h2 _ W1 H1 .refl C1 (RepM.of hm (Rep.int_iff.mpr rfl))⟩

/-! ### len(set(xs)) -/
theorem firstMet_firsts (ns : List Int) : ∀ i, i ≤ ns.length → PyProof.Rows.firstMet (fun i => ns.getD i 0) i = firsts (ns.take i)
  | 0, _ => rfl
  | i + 1, hi => by
    have hlt : i < ns.length := hi
    have e : ns.getD i 0 = ns[i] := by rw [List.getD_eq_getElem?_getD, List.getElem?_eq_getElem hlt]; rfl
    rw [PyProof.Rows.firstMet_succ, firstMet_firsts ns i (Nat.le_of_lt hlt), List.take_succ, List.getElem?_eq_getElem hlt, e]
    unfold firsts
    rw [List.foldl_append]
    rfl
/-- the reading: ints in a list or a tuple -/
def tLenSet (K : PySem.W.Frag) (ta : TE) : TE := fun σ H Q => ta σ H fun x H1 => ∃ (l : Addr) (ns : List Int), x = .ref l ∧ (SqL K H1 l (ns.map V.int) ∨ SqT K H1 l (ns.map V.int)) ∧ ns.length ≤ 4000 ∧ Q (.int (firsts ns).length) H1
theorem pe_lenSet {a : Expr} {ta : TE} {p p2 q pos : Pos} (hg : Gl X "len") (hm : X.mg "len" = none) (hg2 : Gl X "set") (hm2 : X.mg "set" = none) (ha : PE X a ta) (hc : X.calm = true)
    (na : starEach [a] X.env = (false, eval a X.env) :: starEach [] X.env) : PE X (.Call (.Name "len" p) [.Call (.Name "set" p2) [a] [] q] [] pos) (tLenSet X.K ta) := by
  refine ⟨fun pins s σ H Q I h => ?_⟩
  refine Call_ (ld_blt I hg hm boot_len ?_)
  refine PyProof.Rows.callWith_builtin1 (PyProof.Rows.args_cons ?_ rfl) rfl rfl
  refine Call_ (ld_blt I hg2 hm2 boot_set ?_)
  refine PyProof.Rows.callWith_type1 (PyProof.Rows.args_cons (thn (ha.run pins s σ H _ I h) fun v s1 ⟨x, H1, I1, r1, q1⟩ => PyProof.Rows.args_nil ?_) na) na rfl
  obtain ⟨l, ns, rfl, hq, hl, q1⟩ := q1
  cases r1
  rcases hq with hq | hq
  · obtain ⟨its, r, pl, hz⟩ := I1.list hq
    have hlen : its.toArray.size = ns.length := by rw [List.size_toArray, ← r.length, List.length_map]
    refine call_set_list (I1.ok.hd hc) pl.isList (by simpa using RZ.intsAre_vals r) (by rw [hlen]; unfold scanBound; omega) fun h' tk hS hk => ?_
    refine PyProof.Rows.args_nil ?_
    rw [hlen, firstMet_firsts ns ns.length (Nat.le_refl _), List.take_length] at hS
    obtain ⟨o, es, ep, t, ho, hex, hd, _, _, _, hf, hn⟩ := hS
    have I2 : Inv X pins σ H1 { s1 with heap := h', toks := tk } := I1.kept fun b o e => hk b o (Heap.lt_size e) e
    have hle : (firsts ns).length ≤ ns.length := by
      have := PyProof.Rows.firstMet_length_le (fun i => ns.getD i 0) ns.length
      rw [firstMet_firsts ns ns.length (Nat.le_refl _), List.take_length] at this
      exact this
    exact call_len_set ho hex hd hf (by rw [hn]; omega) ⟨.int (firsts ns).length, H1, I2.tok _, ⟨_, by rw [hn]⟩, q1⟩
  · obtain ⟨its, r, pt, hz⟩ := I1.tuple hq
    have hi : PyProof.Rows.IntsAre its.toArray.toList ns := by simpa using RZ.intsAre_vals r
    refine call_set_tupI ns (I1.ok.hd hc) (show s1.heap.IsTuple l its.toArray from pt) hi (by unfold scanBound; omega) fun h' tk c R1 hcn kp => ?_
    refine PyProof.Rows.args_nil ?_
    obtain ⟨o, es, ep, t, ho, hex, hd, hge, hnd, hk, _, hf, hn, _⟩ := R1
    have I2 : Inv X pins σ H1 { s1 with heap := h', toks := tk } := I1.kept kp
    have he : es.size = (firsts ns).length := by
      have e1 := firsts_len (ns := ns) hnd fun j => by
        rw [← hk j]; simp
      rw [← e1, List.length_map, Array.length_toList]
    exact call_len_set ho hex hd hf (by rw [hn]; omega) ⟨.int (firsts ns).length, H1, I2.tok _, ⟨_, by rw [he]⟩, q1⟩
theorem sim_lenset {a : Expr} {ca : E} {p p2 q pos : Pos} {m : Mode} (hm : m.val = true) (cc : Ctx g X N sc k Wsh) (hg : sc.names.lookup ("len" : Str) = some .globalImplicit) (hmg : g.mg "len" = none) (hg2 : sc.names.lookup ("set" : Str) = some .globalImplicit) (hmg2 : g.mg "set" = none) (ha : PE X a (tsim g en Wsh cf .brw ca))
    (na : starEach [a] X.env = (false, eval a X.env) :: starEach [] X.env) : PE X (.Call (.Name "len" p) [.Call (.Name "set" p2) [a] [] q] [] pos) (tsim g en Wsh cf m (.app .lenset [ca])) := by
  refine PE.imp (pe_lenSet (by show X.env.scope.names.lookup ("len" : Str) = _; rw [cc.hsc]; exact hg) (by rw [cc.hmg]; exact hmg) (by show X.env.scope.names.lookup ("set" : Str) = _; rw [cc.hsc]; exact hg2) (by rw [cc.hmg]; exact hmg2) ha cc.hcalm na) ?_
  rintro σ H Q ⟨W, env, st, M, C, h⟩
  rw [evE, fin_val hm, evAs] at h
  refine ⟨W, env, st, M, C, ?_⟩
  cases q : evE cf ca .brw env st with
  | bad => rw [q] at h; exact h.elim
  | exc c d s => rw [q] at h; exact h
  | ok d st1 =>
    rw [q] at h
    intro v W1 H1 x1 C1 r1
    have h1 : Go g Wsh (RepM g m) σ W H (Res.of (biD .lenset [d]) st1) Q := h
    obtain ⟨d', e, h2⟩ := Go.of h1
    simp only [biD] at e
    obtain ⟨ns, e1, e2⟩ := Option.bind_eq_some_iff.mp e
    obtain ⟨ds, e3, e4⟩ := Option.bind_eq_some_iff.mp e1
    split at e2
    · rename_i hl
      cases e2
      have r1 : RepB g W1 H1 d v := r1
      cases d <;> (try (simp [D.items] at e3; done))
      · simp only [D.items, Option.some.injEq] at e3
        subst e3
        obtain ⟨l, vs, e5, q5, l5⟩ := r1.tup C1
        rw [reps_ints l5 e4] at q5
        exact ⟨l, ns, e5, .inr (by rw [cc.hK]; exact q5), by simpa using hl, h2 _ W1 H1 x1 C1 (RepM.of hm (Rep.int_iff.mpr rfl))⟩
      · simp only [D.items, Option.some.injEq] at e3
        subst e3
        obtain ⟨l, vs, e5, q5, l5⟩ := r1.lst C1
        rw [reps_ints l5 e4] at q5
        exact ⟨l, ns, e5, .inl (SqL.of q5), by simpa using hl, h2 _ W1 H1 x1 C1 (RepM.of hm (Rep.int_iff.mpr rfl))⟩
    · cases e2

/-! ### list(range(n)), tuple(range(n)) -/
theorem upto_rep {W : Wd} : ∀ (n : Nat) (lo : Int), RepL g W (upto lo n) ((List.range n).map fun i => V.int (lo + (i : Nat)))
  | 0, lo => RepL.nil
  | n + 1, lo => by
    rw [List.range_succ_eq_map, List.map_cons, List.map_map]
    have ih := upto_rep (W := W) n (lo + 1)
    have e : ((List.range n).map fun i => V.int (lo + 1 + (i : Nat))) = (List.range n).map ((fun i => V.int (lo + (i : Nat))) ∘ Nat.succ) := by
      apply List.map_congr_left
      intro i _
      show V.int (lo + 1 + (i : Nat)) = V.int (lo + ((i + 1 : Nat) : Int))
      congr 1
      omega
    rw [e] at ih
    exact RepL.cons (Rep.int_iff.mpr (by simp)) ih
theorem rg_rep {W : Wd} (n : Int) : RepL g W (upto 0 n.toNat) (rgV 0 n) := by
  have := upto_rep (g := g) (W := W) n.toNat 0
  unfold rgV
  rw [Int.sub_zero]
  exact this
theorem sim_lrange {b : Bi} {tn : Str} {a : Expr} {ca : E} {p p2 q pos : Pos} {m : Mode} (hb : (b = .lrange ∧ tn = "list") ∨ (b = .trange ∧ tn = "tuple")) (hm : m.val = true) (cc : Ctx g X N sc k Wsh) (hg : sc.names.lookup tn = some .globalImplicit) (hmg : g.mg tn = none) (hg2 : sc.names.lookup ("range" : Str) = some .globalImplicit) (hmg2 : g.mg "range" = none) (ha : PE X a (tsim g en Wsh cf .brw ca))
    (na : starEach [a] X.env = (false, eval a X.env) :: starEach [] X.env) : PE X (.Call (.Name tn p) [.Call (.Name "range" p2) [a] [] q] [] pos) (tsim g en Wsh cf m (.app b [ca])) := by
  have hr : PRg X (.Call (.Name "range" p2) [a] [] q) (tRg1 (tsim g en Wsh cf .brw ca)) := prg_1 (by show X.env.scope.names.lookup ("range" : Str) = _; rw [cc.hsc]; exact hg2) (by rw [cc.hmg]; exact hmg2) ha na
  have hg' : Gl X tn := by show X.env.scope.names.lookup tn = _; rw [cc.hsc]; exact hg
  have hm' : X.mg tn = none := by rw [cc.hmg]; exact hmg
  have fin : ∀ (σ : L2.St) (H : Hp) (Q : VK), tsim g en Wsh cf m (.app b [ca]) σ H Q → tRg1 (tsim g en Wsh cf .brw ca) σ H fun a' b' H1 => RgOk a' b' ∧ ∀ q, H1 q = none → (b = .lrange → Q (.ref q) (upd H1 q (.lst (rgV a' b')))) ∧ (b = .trange → Q (.ref q) (upd H1 q (.tup (rgV a' b')))) := by
    rintro σ H Q ⟨W, env, st, M, C, h⟩
    rw [evE, fin_val hm, evAs] at h
    refine ⟨W, env, st, M, C, ?_⟩
    cases q : evE cf ca .brw env st with
    | bad => rw [q] at h; exact h.elim
    | exc c d s => rw [q] at h; exact h
    | ok d st1 =>
      rw [q] at h
      intro v W1 H1 x1 C1 r1
      have h1 : Go g Wsh (RepM g m) σ W H (Res.of (biD b [d]) st1) Q := h
      obtain ⟨d', e, h2⟩ := Go.of h1
      replace r1 : RepB g W1 H1 d v := r1
      rcases hb with ⟨hb, _⟩ | ⟨hb, _⟩
      · subst hb
        cases d <;> (try (simp [biD] at e; done))
        rename_i n
        simp only [biD] at e
        split at e
        · rename_i hn
          cases e
          obtain ⟨n1, n2⟩ := Bool.and_eq_true_iff.mp hn
          obtain ⟨b1, b2⟩ := r62 n1
          have b3 : n ≤ 16777216 := of_decide_eq_true n2
          refine ⟨n, r1.int, ⟨by omega, by omega, by omega, by omega, by omega⟩, fun q hq => ⟨fun _ => ?_, fun z => (by cases z)⟩⟩
          have kk : Fin g W1 st1 H1 (.lst (upto 0 n.toNat)) Q := fun v W' H' x C' r => h2 v W' H' (x1.trans x) C' (RepM.of hm r)
          exact kk.lst C1 (rg_rep n) q hq
        · cases e
      · subst hb
        cases d <;> (try (simp [biD] at e; done))
        rename_i n
        simp only [biD] at e
        split at e
        · rename_i hn
          cases e
          obtain ⟨n1, n2⟩ := Bool.and_eq_true_iff.mp hn
          obtain ⟨b1, b2⟩ := r62 n1
          have b3 : n ≤ 16777216 := of_decide_eq_true n2
          refine ⟨n, r1.int, ⟨by omega, by omega, by omega, by omega, by omega⟩, fun q hq => ⟨fun z => (by cases z), fun _ => ?_⟩⟩
          have kk : Fin g W1 st1 H1 (.tup (upto 0 n.toNat)) Q := fun v W' H' x C' r => h2 v W' H' (x1.trans x) C' (RepM.of hm r)
          exact kk.tup C1 (rg_rep n) q hq
        · cases e
  have mono : ∀ {P P' : Int → Int → Hp → Prop} {σ : L2.St} {H : Hp}, (∀ a b H, P a b H → P' a b H) → tRg1 (tsim g en Wsh cf .brw ca) σ H P → tRg1 (tsim g en Wsh cf .brw ca) σ H P' := by
    rintro P P' σ H i ⟨W, env, st, M, C, h⟩
    exact ⟨W, env, st, M, C, h.imp (fun _ _ _ h => h) fun d st v W' H' x c r => ⟨r, fun ⟨n, e, q⟩ => ⟨n, e, i _ _ _ q⟩⟩⟩
  rcases hb with ⟨hb, ht⟩ | ⟨hb, ht⟩
  · subst ht
    refine PE.imp (pe_listRg cc.hcalm hg' hm' hr rfl) fun σ H Q h => mono (fun a b H q => ⟨q.1, fun z hz => (q.2 z hz).1 hb⟩) (fin σ H Q h)
  · subst ht
    refine PE.imp (pe_tupRg cc.hcalm hg' hm' hr rfl) fun σ H Q h => mono (fun a b H q => ⟨q.1, fun z hz => (q.2 z hz).2 hb⟩) (fin σ H Q h)
end
end Bp
set_option Elab.async false
set_option linter.all false
set_option maxRecDepth 100000
/-! BpExc: errors raised and caught. -/
namespace Bp
open PySem PySem.Spec PyProof.Rows L2
/-- an error's __init__: its one field -/
def spX (C : Addr) (f : Str) : Sp := fun vs H Q _ => ∃ a v, vs = [.ref a, v] ∧ H a = some (exo a C none) ∧ ∀ dx, H dx = none → dx ≠ a → Q .non (upd (upd H dx (exd dx [(f, v)])) a (exo a C (some dx)))
structure ErrOk (g : Glob) (k c : Nat) : Prop where
  ox : OexC g.K (g.xA c)
  ini : ∃ fI fd ps, PySem.W.findIn g.K (.ref (g.xA c)) "__init__" = some (some (.ref fI)) ∧ PySem.W.typeIn g.K (.ref fI) = some (.type "function") ∧ Binds g.K fd ps [] ∧ FnOk g.P g.w g.K g.mg g.base (L2.CX g.P g.w) k fI fd ps (spX (g.xA c) (g.xF c))
section
variable {g : Glob} {X : Cx} {N : List Str} {sc : Scope} {k n : Nat} {Wsh : WX} {en : Ent} {cf : Cf} {D : Ends}
theorem simS_rais {x : Str} {c : Nat} {p p2 pos : Pos} {e : Expr} {ce : E} (cc : Ctx g X N sc (k + 1) Wsh) (T : ErrOk g k c) (hg : sc.names.lookup x = some .globalImplicit) (hmg : g.mg x = some (.ref (g.xA c))) (hdb : (x == ("__debug__" : Str)) = false)
    (ha : PE X e (tsim g en Wsh cf .frz ce)) (he : starEach [e] X.env = (false, eval e X.env) :: starEach [] X.env) :
    PS X (.Raise (some (.Call (.Name x p) [e] [] p2)) none pos) (tsimS g en n Wsh cf (.rais c ce)) := by
  obtain ⟨fI, fd, ps, i1, i2, hb, F⟩ := T.ini
  have F' : FnOk X.prog X.w X.K X.mg X.base (L2.CX X.prog X.w) k fI fd ps (spX (g.xA c) (g.xF c)) := by
    rw [cc.hP, cc.hw, cc.hK, cc.hmg, cc.hbase]; exact F
  refine PS.imp (ps_raise (W := Wsh) cc.hcalm cc.htk (pmk_oex (ds := []) (dvs := []) (by rw [cc.hK]; exact T.ox) (by rw [cc.hK]; exact i1) (by rw [cc.hK]; exact i2) F' cc.hroom (by rw [cc.hK]; exact hb) .nil passL (by show X.env.scope.names.lookup x = _; rw [cc.hsc]; exact hg) (by rw [cc.hmg]; exact hmg) (pa_cons ha pa_nil he) hdb he rfl)) ?_
  rintro D σ H ⟨W, env, st, hn, M, C, h⟩
  rw [evS] at h
  refine ⟨W, env, st, M, C, GoS.bindE M hn h ?_⟩
  rintro d st1 v W1 H1 - x1 C1 r1 h1
  refine ⟨by show 1 ≤ 1000; omega, fun a ha => ⟨a, v, rfl, upd_same, fun dx hd hne => ⟨rfl, dx, [(g.xF c, v)], upd_same, ?_, ?_, ?_⟩⟩⟩
  · rw [upd_ne hne, upd_same]
  · rw [upd_ne hne] at hd; exact hd
  · have hd1 : H1 dx = none := by rw [upd_ne hne] at hd; exact hd
    have e : upd (del (upd (upd (upd H1 a (exo a (g.xA c) none)) dx (exd dx [(g.xF c, v)])) a (exo a (g.xA c) (some dx))) a) dx (.xd [(g.xF c, v)]) = upd H1 dx (.xd [(g.xF c, v)]) := by
      funext b
      by_cases z : b = dx
      · subst z; rw [upd_same, upd_same]
      · rw [upd_ne z, upd_ne z]
        by_cases y : b = a
        · subst y; rw [del_same, ha]
        · rw [del_ne y, upd_ne y, upd_ne z, upd_ne y]
    rw [e]
    have M1 := M.ext x1
    exact h1 σ dx v W1 _ (by rw [M.len, hn]) (M1.ent.trans (ext_upd hd1)) (C1.upd hd1) upd_same r1
/-- what a caught error's class must bear -/
structure CatOk (g : Glob) (xs : List Nat) (c : Nat) : Prop where
  xf : XfC g.K (g.xA c)
  no : PySem.W.findIn g.K (.ref (g.xA c)) (g.xF c) = some none
  ex : ∀ k, xs.contains k = true → PySem.W.exmOne g.K (.ref (g.xA k)) (.ref (g.xA c)) = some (decide (k = c))
theorem simS_tri {x y : Str} {c i : Nat} {tag : Str} {body : List Stmt} {cb : List S} {np p1 p2 p3 p4 p5 pos pos' : Pos} {j1 j2 : Nat} (cc : Ctx g X N sc k Wsh) (T : CatOk g cf.xs c) (hs : X.stack = X.env :: X.outer) (hf : X.env.frame = some X.env.locals) (hi : N[i]? = some y) (hin : i < n) (hly : sc.names.lookup y = some .local) (hy1 : (y == ("__debug__" : Str)) = false) (hy2 : (y == ("__classdict__" : Str)) = false)
    (hg : sc.names.lookup x = some .globalImplicit) (hmg : g.mg x = some (.ref (g.xA c))) (hdb : (x == ("__debug__" : Str)) = false)
    (hb : ∀ (W : WX) (pn : List (Addr × PySem.Obj)) (xe : Value → Shared → Prop), Takes (X.tr pn xe) W → PassesOwn (model X.prog X.w) X.A X.env xe → PSs (X.tr pn xe) body (tsimSs g en n W cf cb))
    (hab : ∀ e : Expr, e = .Name y p4 → attributeBase e (g.xF c) X.env (eval e X.env) = eval e X.env) :
    PS X (.Try body [.ExceptHandler (some (.Name x np)) (some y) [.Return (some (.Tuple [.Constant (.str tag) j1 p2, .Attribute (.Name y p4) (g.xF c) p3] j2 p1)) p5] pos'] [] [] pos) (tsimS g en n Wsh cf (.tri cb i c tag)) := by
  have hN : X.N.Nodup := by rw [cc.hN]; exact cc.hnd
  refine PS.imp (ps_try_as (i := i) (ts := fun a cls d => tRet (tTup (tCons (tC (.str tag)) (tCons (tXf a cls d (g.xA c) (g.xF c) (tVar i)) tNil)))) (tb := fun W => tsimSs g en n W cf cb) (Wout := Wsh) hs hf hN (by rw [cc.hN]; exact hi) (by show X.env.scope.names.lookup y = _; rw [cc.hsc]; exact hly)
    (c := .ref (g.xA c)) ⟨by show X.env.scope.names.lookup x = _; rw [cc.hsc]; exact hg, hdb, .inl (by rw [cc.hmg]; exact hmg)⟩ cc.htk hb ?_) ?_
  · intro a oe cls d pn hz hfl
    have T1 : XfC X.K (g.xA c) := by rw [cc.hK]; exact T.xf
    refine pss_one (ps_ret (pe_tup (pa_cons pe_str (pa_cons (pe_xf T1 (by rw [cc.hK]; exact T.no) hz hfl (pe_var (X := X.suite a ((a, oe) :: pn)) (i := i) ?_ ?_ hy1 hy2) (hab _ rfl)) pa_nil rfl) rfl)))
    · show X.N[i]? = _; rw [cc.hN]; exact hi
    · show Vis X.env.scope y; rw [cc.hsc]; exact .inl hly
  · rintro D σ H ⟨W, env, st, hn, M, C, h⟩
    rw [evS] at h
    refine ⟨W, env, st, hn, M, C, ?_⟩
    cases q : evSs cf cb env st with
    | bad => rw [q] at h; exact h
    | ok o s =>
      rw [q] at h
      cases o with
      | nxt e => exact h
      | brk e => exact h
      | ret d => exact h
    | exc kx d s =>
      rw [q] at h
      have h : GoS g en n Wsh D W (if cf.xs.contains kx then (if kx = c then .ok (.ret (.tup [.str tag, d])) s else .exc kx d s) else .bad) := h
      intro σ' dx v W' H' hl x' C' hd r'
      split at h
      · rename_i hk
        refine ⟨decide (kx = c), by rw [cc.hK]; exact T.ex kx hk, fun hb a ha => ?_, fun hb => ?_⟩
        · have hkc : kx = c := of_decide_eq_true hb
          subst hkc
          rw [if_pos rfl] at h
          refine ⟨.ref a, by rw [List.getElem?_set_self (by omega)], rfl, rfl, dx, _, v, rfl, hd, by simp, ?_⟩
          refine ⟨by show 2 ≤ sizeLine; rw [sizeLine_eq]; omega, fun p hp => ?_⟩
          refine h _ (W'.add p (.tup [.str tag, v])) _ (x'.trans (ext_add C' hp)) (C'.add hp) (Rep.tup_iff.mpr ⟨p, [.str tag, v], rfl, SqT.of upd_same, RepL.mono (Wle.add (C'.fnone hp)) _ _ (.cons (Rep.str_iff.mpr rfl) (.cons r' .nil))⟩)
        · have hkc : kx ≠ c := of_decide_eq_false hb
          rw [if_neg hkc] at h
          exact h σ' dx v W' H' hl x' C' hd r'
      · exact h.elim
end
end Bp
set_option Elab.async false
set_option linter.all false
set_option maxRecDepth 100000
/-! BpSyn: what is asked of the text's form. -/
namespace Bp
open PySem PySem.Spec PyProof.Rows L2
def isStar : Expr → Bool
  | .Starred _ _ => true
  | _ => false
theorem star_of {e : Expr} {es : List Expr} {env : PySem.Env} (h : isStar e = false) : starEach (e :: es) env = (false, eval e env) :: starEach es env := by
  cases e <;> first | rfl | cases h
theorem star_plain : ∀ {es : List Expr} {env : PySem.Env} {pos : Pos}, (es.any isStar) = false → (backTo pos (starEach es env)).any (·.1) = false := by
  intro es
  induction es with
  | nil => intro env pos h; rfl
  | cons e es ih =>
    intro env pos h
    rw [List.any_cons, Bool.or_eq_false_iff] at h
    rw [star_of h.1]
    show (false || (backTo pos (starEach es env)).any (·.1)) = false
    rw [ih h.2]; rfl
def superLike : Expr → Bool
  | .Call _ [] _ _ => true
  | _ => false
theorem attr_plain {o : Expr} {f : Str} {env : PySem.Env} {w : Sem Value} (h : superLike o = false) : attributeBase o f env w = w := by
  cases o with
  | Call fn args kws pos =>
    cases args with
    | nil => cases h
    | cons a as => cases fn <;> rfl
  | _ => rfl
def isSlice : Expr → Bool
  | .Slice _ _ _ _ => true
  | _ => false
theorem ix_plain {b : Expr} (h : isSlice b = false) : PlainIx b := by
  intro o i
  cases b <;> first | rfl | cases h
def isSet : Expr → Bool
  | .Set _ _ _ => true
  | _ => false
theorem folded_of {e : Expr} {env : PySem.Env} (h : isSet e = false) : ∀ x, foldedSetIterable e env x = pure x := by
  intro x
  cases e <;> first | rfl | cases h
def isComp : Expr → Bool
  | .ListComp _ _ _ _ => true
  | .SetComp _ _ _ _ => true
  | .DictComp _ _ _ _ _ => true
  | _ => false
theorem swaps_no {e : Expr} {t : Option Expr} {l : Nat} {env : PySem.Env} (h : isComp e = false) : swapsWith e t l env = pure false := by
  unfold swapsWith
  cases e <;> first | rfl | cases h
theorem swapsSole_no {e : Expr} {ts : List Expr} {l : Nat} {env : PySem.Env} (h : isComp e = false) : swapsWithSole ts e l env = pure false := by
  unfold swapsWithSole
  split
  · exact swaps_no h
  · rfl
def plainT : Expr → Bool
  | .UnaryOp .Not _ _ => false
  | .BoolOp _ _ _ => false
  | .IfExp _ _ _ _ => false
  | .Compare _ _ _ _ => false
  | _ => true
theorem true_plain {e : Expr} {env : PySem.Env} (h : plainT e = true) : ∀ whole, isTrue e env whole = (do let v ← whole; standAt e.pos; holding [v] (truthy v)) := by
  intro whole
  cases e with
  | UnaryOp op a p => cases op <;> first | rfl | cases h
  | BoolOp _ _ _ => cases h
  | IfExp _ _ _ _ => cases h
  | Compare _ _ _ _ => cases h
  | _ => rfl
def isTupE : Expr → Bool
  | .Tuple _ _ _ => true
  | _ => false
theorem stores_no {t e : Expr} {env : PySem.Env} (h : isTupE e = false) : swappedStores [t] e env = pure none := by
  unfold swappedStores
  cases e <;> first | (cases t <;> rfl) | cases h
def foldAll (es : List Expr) : Bool := !(es.length == 2 || es.length == 3) || es.all (foldedForSure 8)
theorem stores_fold {ts es : List Expr} {k k2 : Nat} {p p2 : Pos} {env : PySem.Env} (h : (!(ts.length == 2 || ts.length == 3) || es.all (foldedForSure 8)) = true) : swappedStores [.Tuple ts k p] (.Tuple es k2 p2) env = pure none := by
  unfold swappedStores
  show (if (!(ts.length == 2 || ts.length == 3) || es.length != ts.length || env.blockKind != .function) = true then (return none) else _ : Sem (Option (List Str))) = _
  split
  · rfl
  · rename_i h1
    rcases Bool.or_eq_true_iff.mp h with q | q
    · exact absurd (by rw [q]; rfl) h1
    · split
      · rfl
      · show (if _ then (return none) else _ : Sem (Option (List Str))) = _
        split
        · rfl
        · first | rfl | (rw [if_pos q]; rfl)
theorem sw_eq {elt : Expr} {gs : List Comprehension} {scope : Scope} {p py : Pos} {y : Str} {l : Nat} {env : PySem.Env} : swapsWith (.ListComp elt gs scope p) (some (.Name y py)) l env = pure (env.blockKind == .function && env.kindOf y == some .local && py.line == p.line && !(scope.names.any fun (n, k) => n == y && (k == .local || k == .cell))) := rfl
theorem sw_attr {e o : Expr} {f : Str} {p : Pos} {l : Nat} {env : PySem.Env} : swapsWith e (some (.Attribute o f p)) l env = pure false := by
  unfold swapsWith
  cases e <;> rfl
theorem sub_form {o q : Expr} {p2 : Pos} {env : PySem.Env} (h : isSlice q = false) : ∀ v, assign (.Subscript o q p2) env v = (do
      let ov ← holding [v] (eval o env)
      let iv ← holding [v, ov] (eval q env)
      standAt p2
      holding [v, ov, iv] (setItem ov iv v)
      release [v, ov, iv] []) := by
  intro v
  cases q <;> first | rfl | cases h
theorem par_form {x y : Str} {px py pt pt2 : Pos} {a b : Expr} {kt k2 : Nat} {env : PySem.Env} (hb : env.blockKind = .function) (hx : env.kindOf x = some .local) (hy : env.kindOf y = some .local) (hl : py.line = px.line) (hne : x ≠ y) (ha : isStar a = false) (hb2 : isStar b = false)
    (h1 : (foldedForSure 8 a && foldedForSure 8 b) = false) (h2 : (constantsAlone 8 a && constantsAlone 8 b) = false) :
    swappedStores [.Tuple [.Name x px, .Name y py] kt pt] (.Tuple [a, b] k2 pt2) env = pure (some [x, y]) := by
  have e1 : ((y == x) = false) := by simp [Ne.symm hne]
  unfold swappedStores
  simp only [List.length_cons, List.length_nil, hb, List.any_cons, List.any_nil, List.head?_cons, Option.map_some, Option.getD_some, List.filterMap_cons, List.filterMap_nil, hx, hy, Expr.pos, hl, beq_self_eq_true, Bool.and_self, if_true, List.eraseDups, List.all_cons, List.all_nil, Bool.and_true, h1, h2]
  simp [List.eraseDupsBy, List.eraseDupsBy.loop, e1]
  intro h
  exfalso
  rcases h with h | h
  · cases a <;> first | (cases ha; done) | (exact absurd h (by simp))
  · cases b <;> first | (cases hb2; done) | (exact absurd h (by simp))
end Bp
set_option Elab.async false
set_option linter.all false
set_option maxRecDepth 100000
/-! BpChk: the checker: a small text tells what a Python text does. -/
namespace Bp
open PySem PySem.Spec PyProof.Rows L2
/-- what the module's names stand for -/
structure Gm where
  fn : List (Str × (Nat × Nat))
  cl : List (Str × Nat)
  ini : List (Nat × (Nat × Nat))
  er : List (Str × Nat)
  ef : List (Nat × Str)
  con : List (Str × Nat)
  bi : List Str
  at_ : List (Str × Nat)
  nc : Nat
  me : List ((Nat × Str) × (Nat × Nat)) := []
/-- where one stands in a def: its slots, its scope, the names stored in cells -/
structure Ck where
  N : List Str
  sc : Scope
  fn : Str → Bool
def Ck.blk (k : Ck) (scope : Scope) : Ck := ⟨k.N, relS scope k.sc, fun x => scope.names.lookup x == some .cell⟩
def kindB (k : Ck) (x : Str) (q : NameKind) : Bool := k.sc.names.lookup x == some q
def dbgB (x : Str) : Bool := !(x == ("__debug__" : Str)) && !(x == ("__classdict__" : Str))
def slotB (k : Ck) (i : Nat) (x : Str) : Bool := decide (k.N[i]? = some x) && (kindB k x .local || kindB k x .cell || kindB k x .free) && dbgB x
def locB (k : Ck) (i : Nat) (x : Str) : Bool := decide (k.N[i]? = some x) && ((kindB k x .local || (kindB k x .cell && k.fn x)) && dbgB x)
def gloB (k : Ck) (x : Str) : Bool := kindB k x .globalImplicit && dbgB x && !(x == ("__name__" : Str))
def cstB : D → Const → Bool
  | .non, .none => true
  | .bl b, .bool c => b == c
  | .int i, .int j => decide (i = j)
  | .str x, .str y => decide (x = y)
  | _, _ => false
def op2B : Op2 → Operator → Bool
  | .add, .Add => true
  | .sub, .Sub => true
  | .mul, .Mult => true
  | .mod, .Mod => true
  | .fdiv, .FloorDiv => true
  | .pow, .Pow => true
  | _, _ => false
def cmB : Cm → CmpOp → Bool
  | .eq, .Eq => true
  | .ne, .NotEq => true
  | .lt, .Lt => true
  | .le, .LtE => true
  | .gt, .Gt => true
  | .ge, .GtE => true
  | .isin, .In => true
  | .notin, .NotIn => true
  | .is, .Is => true
  | .isnot, .IsNot => true
  | _, _ => false
def oeqB : Bool → CmpOp → Bool
  | false, .Eq => true
  | true, .NotEq => true
  | _, _ => false
theorem oeq_of {ne : Bool} {op : CmpOp} (h : oeqB ne op = true) : op = if ne then .NotEq else .Eq := by
  cases ne <;> cases op <;> first | rfl | cases h
def biN : Bi → Str
  | .len => "len"
  | .abs => "abs"
  | .min2 => "min"
  | .max2 => "max"
  | .int => "int"
  | .str => "str"
  | .sum => "sum"
  | .all => "all"
  | .any => "any"
  | .minl => "min"
  | .maxl => "max"
  | .sorted => "sorted"
  | .tuple => "tuple"
  | .list => "list"
  | .lenset => "len"
  | .lrange => "list"
  | .trange => "tuple"
def biB (Γ : Gm) (k : Ck) (x : Str) : Bool := gloB k x && Γ.bi.any (fun y => decide (y = x))
def tyN : Ty → Option Str
  | .int => some "int"
  | .bool => some "bool"
  | .str => some "str"
  | .tuple => some "tuple"
  | .list => some "list"
  | .cls _ => none
def tyB (Γ : Gm) (k : Ck) (t : Ty) : Expr → Bool
  | .Name x _ => (match t with
    | .cls c => gloB k x && decide (Γ.cl.lookup x = some c) && decide (c < Γ.nc)
    | _ => decide (tyN t = some x) && biB Γ k x)
  | _ => false
def tysB (Γ : Gm) (k : Ck) : List Ty → List Expr → Bool
  | [], [] => true
  | t :: ts, e :: es => tyB Γ k t e && tysB Γ k ts es
  | _, _ => false
def ownB (k : Ck) (vs : List Nat) : List (Str × Nat) := vs.map fun v => (k.N.getD v "", v)
def blkB (k : Ck) (scope : Scope) (vs : List Nat) : Bool :=
  decide (scope.kind = .function) && (scope.names.all fun y => decide (scope.names.lookup y.1 = some y.2)) && (vs.all fun v => decide (v < k.N.length)) &&
  (scope.names.all fun y => !decide (y.2 = .free) || (kindB k y.1 .cell || kindB k y.1 .free)) &&
  (scope.names.all fun y => !(decide (y.2 = .local) || decide (y.2 = .cell)) || ((ownB k vs).any fun p => decide (p.1 = y.1)) || !(k.N.any fun z => decide (z = y.1)))
mutual
def chG (k : Ck) : Tg → Expr → Bool
  | .slot i, .Name x _ => locB k i x
  | .tup ts, .Tuple es _ _ => decide (es.length = ts.length) && !es.any isStar && chGs k ts es
  | _, _ => false
def chGs (k : Ck) : List Tg → List Expr → Bool
  | [], [] => true
  | t :: ts, e :: es => chG k t e && chGs k ts es
  | _, _ => false
end
def subB (xs ys : List Nat) : Bool := xs.all fun i => ys.any fun j => i == j
mutual
def ch (Γ : Gm) (k : Ck) : E → Mode → Expr → Bool
  | .var i, _, p => (match p with
    | .Name x _ => slotB k i x
    | _ => false)
  | .peek i, m, p => (match p with
    | .Name x _ => (match m with
      | .frz => false
      | _ => slotB k i x)
    | _ => false)
  | .cst d, _, p => (match p with
    | .Constant c _ _ => cstB d c
    | _ => false)
  | .glo j, _, p => (match p with
    | .Name x _ => gloB k x && decide (Γ.con.lookup x = some j)
    | _ => false)
  | .tup es, _, p => (match p with
    | .Tuple ps _ _ => chEs Γ k es ps
    | _ => false)
  | .lst es, _, p => (match p with
    | .List ps _ => chEs Γ k es ps
    | _ => false)
  | .cell es, _, p => (match p with
    | .List ps _ => chEs Γ k es ps
    | _ => false)
  | .bin o a b, _, p => (match p with
    | .BinOp x op y _ => op2B o op && ch Γ k a .brw x && ch Γ k b .brw y
    | _ => false)
  | .neg a, _, p => (match p with
    | .UnaryOp .USub x _ => ch Γ k a .brw x
    | _ => false)
  | .cmp o a b, _, p => (match p with
    | .Compare x [op] [y] _ => cmB o op && ch Γ k a .brw x && ch Γ k b .brw y && !behindInMarks op y
    | _ => false)
  | .chain o o' a b c, _, p => (match p with
    | .Compare x [op, op'] [y, z] _ => cmB o op && cmB o' op' && ch Γ k a .brw x && ch Γ k b .brw y && ch Γ k c .brw z && !lastMarks [op, op'] [y, z]
    | _ => false)
  | .and a b, m, p => (match p with
    | .BoolOp .And (x :: y :: rest) _ => (match m with
      | .tst => ch Γ k a .tst x && (match rest with
        | [] => ch Γ k b .tst y
        | w :: r => chAnd Γ k b .tst y (w :: r))
      | _ => ch Γ k a .frz x && (match rest with
        | [] => ch Γ k b .frz y
        | w :: r => chAnd Γ k b .frz y (w :: r)))
    | _ => false)
  | .or a b, m, p => (match p with
    | .BoolOp .Or (x :: y :: rest) _ => (match m with
      | .tst => ch Γ k a .tst x && (match rest with
        | [] => ch Γ k b .tst y
        | w :: r => chOr Γ k b .tst y (w :: r))
      | _ => ch Γ k a .frz x && (match rest with
        | [] => ch Γ k b .frz y
        | w :: r => chOr Γ k b .frz y (w :: r)))
    | _ => false)
  | .not a, m, p => (match p with
    | .UnaryOp .Not x _ => (match m with
      | .tst => ch Γ k a .tst x
      | _ => ch Γ k a .frz x)
    | _ => false)
  | .ife t a b, m, p => (match p with
    | .IfExp x y z _ => (match m with
      | .tst => false
      | _ => ch Γ k t .tst x && ch Γ k a .frz y && ch Γ k b .frz z)
    | _ => false)
  | .call f es, _, p => (match p with
    | .Call (.Name x _) (q :: qs) [] _ => gloB k x && decide (Γ.fn.lookup x = some (f, es.length)) && chEs Γ k es (q :: qs)
    | _ => false)
  | .meth _ _ _ _, _, _ => false
  | .mk c es, _, p => (match p with
    | .Call (.Name x _) (q :: qs) [] _ => gloB k x && decide (Γ.cl.lookup x = some c) && decide ((Γ.ini.lookup c).map (·.2) = some (es.length + 1)) && chEs Γ k es (q :: qs)
    | _ => false)
  | .mkm c es, _, p => (match p with
    | .Call (.Name x _) (q :: qs) [] _ => gloB k x && decide (Γ.cl.lookup x = some c) && decide ((Γ.ini.lookup c).map (·.2) = some (es.length + 1)) && chEs Γ k es (q :: qs)
    | _ => false)
  | .app b es, _, p => (match b with
    | .lenset => chSet Γ k es p
    | .lrange => chRg Γ k "list" es p
    | .trange => chRg Γ k "tuple" es p
    | _ => (match p with
      | .Call (.Name x _) (q :: qs) [] _ => decide (x = biN b) && biB Γ k x && chAs Γ k es (q :: qs)
      | _ => false))
  | .isi a ts, _, p => (match p with
    | .Call (.Name x _) [q, t] [] _ => decide (x = "isinstance") && biB Γ k x && ch Γ k a .brw q && !isStar q && !isStar t && (match ts with
      | [ty] => tyB Γ k ty t
      | _ => (match t with
        | .Tuple es _ _ => tysB Γ k ts es && decide (ts.length ≤ 1000)
        | _ => false))
    | _ => false)
  | .fld a j, _, p => (match p with
    | .Attribute x f _ => ch Γ k a .frz x && decide (Γ.at_.lookup f = some j) && !superLike x
    | _ => false)
  | .idx a b, _, p => (match p with
    | .Subscript x y _ => ch Γ k a .brw x && ch Γ k b .frz y && !isSlice y
    | _ => false)
  | .slc l h a lo hi, _, p => (match p with
    | .Subscript x (.Slice u v none _) _ => ch Γ k a .brw x && (match u with
        | some y => l && ch Γ k lo .frz y
        | none => !l) && (match v with
        | some y => h && ch Γ k hi .frz y
        | none => !h)
    | _ => false)
  | .rev a, _, p => (match p with
    | .Subscript x (.Slice none none (some (.UnaryOp .USub (.Constant (.int i) _ _) _)) _) _ => decide (i = 1) && ch Γ k a .brw x
    | _ => false)
  | .oeq ne c f a b, _, p => (match p with
    | .Compare x [op] [y] _ => oeqB ne op && decide (Γ.me.lookup (c, ("__eq__" : Str)) = some (f, 2)) && ch Γ k a .frz x && ch Γ k b .frz y && !behindInMarks op y
    | _ => false)
  | .comp vs tg it c e, _, p => (match p with
    | .ListComp elt [⟨tge, iter, ifs, 0⟩] scope _ => blkB k scope vs && subB tg.slots vs && chI Γ k false it tge iter && chG (k.blk scope) tg tge && (match ifs with
        | [] => (match c with
          | .cst (.bl true) => true
          | _ => false)
        | [q] => ch Γ (k.blk scope) c .tst q
        | _ => false) && ch Γ (k.blk scope) e .frz elt && !isSet iter
    | _ => false)
  | .comp2 vs tg it c vs2 tg2 it2 c2 e, _, p => (match p with
    | .ListComp elt [⟨tge, iter, ifs, 0⟩, ⟨tge2, iter2, ifs2, 0⟩] scope _ => blkB k scope vs && subB tg.slots vs && subB tg2.slots vs2 && subB vs2 vs && chI Γ k false it tge iter && chG (k.blk scope) tg tge && (match ifs with
        | [] => (match c with
          | .cst (.bl true) => true
          | _ => false)
        | [q] => ch Γ (k.blk scope) c .tst q
        | _ => false) && chI Γ (k.blk scope) true it2 tge2 iter2 && chG (k.blk scope) tg2 tge2 && (match ifs2 with
        | [] => (match c2 with
          | .cst (.bl true) => true
          | _ => false)
        | [q] => ch Γ (k.blk scope) c2 .tst q
        | _ => false) && ch Γ (k.blk scope) e .frz elt && !isSet iter && !isSet iter2
    | _ => false)
def chAnd (Γ : Gm) (k : Ck) : E → Mode → Expr → List Expr → Bool
  | .and a b, m, y, z :: rest => ch Γ k a m y && (match rest with
    | [] => ch Γ k b m z
    | w :: r => chAnd Γ k b m z (w :: r))
  | _, _, _, _ => false
def chOr (Γ : Gm) (k : Ck) : E → Mode → Expr → List Expr → Bool
  | .or a b, m, y, z :: rest => ch Γ k a m y && (match rest with
    | [] => ch Γ k b m z
    | w :: r => chOr Γ k b m z (w :: r))
  | _, _, _, _ => false
def chEs (Γ : Gm) (k : Ck) : List E → List Expr → Bool
  | [], ps => ps.isEmpty
  | e :: es, ps => (match ps with
    | p :: ps => ch Γ k e .frz p && !isStar p && chEs Γ k es ps
    | [] => false)
def chAs (Γ : Gm) (k : Ck) : List E → List Expr → Bool
  | [], ps => ps.isEmpty
  | e :: es, ps => (match ps with
    | p :: ps => ch Γ k e .brw p && !isStar p && chAs Γ k es ps
    | [] => false)
def chSet (Γ : Gm) (k : Ck) : List E → Expr → Bool
  | [], _ => false
  | e :: es, p => (match es with
    | [] => (match p with
      | .Call (.Name x _) [.Call (.Name y _) [q] [] _] [] _ => decide (x = "len") && decide (y = "set") && biB Γ k x && biB Γ k y && ch Γ k e .brw q && !isStar q
      | _ => false)
    | _ => false)
def chRg (Γ : Gm) (k : Ck) (tn : Str) : List E → Expr → Bool
  | [], _ => false
  | e :: es, p => (match es with
    | [] => (match p with
      | .Call (.Name x _) [.Call (.Name y _) [q] [] _] [] _ => decide (x = tn) && decide (y = "range") && biB Γ k x && biB Γ k y && ch Γ k e .brw q && !isStar q
      | _ => false)
    | _ => false)
def chI (Γ : Gm) (k : Ck) (fz : Bool) : It → Expr → Expr → Bool
  | .seq b e, _, p => (!b || !fz) && ch Γ k e (if b then .brw else .frz) p
  | .rng1 e, _, p => (match p with
    | .Call (.Name x _) [q] [] _ => decide (x = "range") && biB Γ k x && ch Γ k e .frz q && !isStar q
    | _ => false)
  | .rng2 a b, _, p => (match p with
    | .Call (.Name x _) [q, r] [] _ => decide (x = "range") && biB Γ k x && ch Γ k a .frz q && ch Γ k b .frz r && !isStar q && !isStar r
    | _ => false)
  | .enum b e, t, p => (match t with
    | .Tuple _ _ _ => (match p with
      | .Call (.Name x _) [q] [] _ => decide (x = "enumerate") && biB Γ k x && (!b || !fz) && ch Γ k e (if b then .brw else .frz) q && !isStar q
      | _ => false)
    | _ => false)
  | .zip a b, t, p => (match t with
    | .Tuple _ _ _ => (match p with
      | .Call (.Name x _) [q, r] [] _ => decide (x = "zip") && biB Γ k x && ch Γ k a .frz q && ch Γ k b .frz r && !isStar q && !isStar r
      | _ => false)
    | _ => false)
end

theorem ch_var {Γ : Gm} {k : Ck} {i : Nat} {m : Mode} {p : Expr} : ch Γ k (.var i) m p = ((match p with
    | .Name x _ => slotB k i x
    | _ => false)) := rfl
theorem ch_peek {Γ : Gm} {k : Ck} {i : Nat} {m : Mode} {p : Expr} : ch Γ k (.peek i) m p = ((match p with
    | .Name x _ => (match m with
      | .frz => false
      | _ => slotB k i x)
    | _ => false)) := rfl
theorem ch_cst {Γ : Gm} {k : Ck} {d : D} {m : Mode} {p : Expr} : ch Γ k (.cst d) m p = ((match p with
    | .Constant c _ _ => cstB d c
    | _ => false)) := rfl
theorem ch_glo {Γ : Gm} {k : Ck} {j : Nat} {m : Mode} {p : Expr} : ch Γ k (.glo j) m p = ((match p with
    | .Name x _ => gloB k x && decide (Γ.con.lookup x = some j)
    | _ => false)) := rfl
theorem ch_tup {Γ : Gm} {k : Ck} {es : List E} {m : Mode} {p : Expr} : ch Γ k (.tup es) m p = ((match p with
    | .Tuple ps _ _ => chEs Γ k es ps
    | _ => false)) := rfl
theorem ch_lst {Γ : Gm} {k : Ck} {es : List E} {m : Mode} {p : Expr} : ch Γ k (.lst es) m p = ((match p with
    | .List ps _ => chEs Γ k es ps
    | _ => false)) := rfl
theorem ch_cell {Γ : Gm} {k : Ck} {es : List E} {m : Mode} {p : Expr} : ch Γ k (.cell es) m p = ((match p with
    | .List ps _ => chEs Γ k es ps
    | _ => false)) := rfl
theorem ch_bin {Γ : Gm} {k : Ck} {o : Op2} {a b : E} {m : Mode} {p : Expr} : ch Γ k (.bin o a b) m p = ((match p with
    | .BinOp x op y _ => op2B o op && ch Γ k a .brw x && ch Γ k b .brw y
    | _ => false)) := rfl
theorem ch_neg {Γ : Gm} {k : Ck} {a : E} {m : Mode} {p : Expr} : ch Γ k (.neg a) m p = ((match p with
    | .UnaryOp .USub x _ => ch Γ k a .brw x
    | _ => false)) := rfl
theorem ch_cmp {Γ : Gm} {k : Ck} {o : Cm} {a b : E} {m : Mode} {p : Expr} : ch Γ k (.cmp o a b) m p = ((match p with
    | .Compare x [op] [y] _ => cmB o op && ch Γ k a .brw x && ch Γ k b .brw y && !behindInMarks op y
    | _ => false)) := rfl
theorem ch_chain {Γ : Gm} {k : Ck} {o o' : Cm} {a b c : E} {m : Mode} {p : Expr} : ch Γ k (.chain o o' a b c) m p = ((match p with
    | .Compare x [op, op'] [y, z] _ => cmB o op && cmB o' op' && ch Γ k a .brw x && ch Γ k b .brw y && ch Γ k c .brw z && !lastMarks [op, op'] [y, z]
    | _ => false)) := rfl
theorem ch_and {Γ : Gm} {k : Ck} {a b : E} {m : Mode} {p : Expr} : ch Γ k (.and a b) m p = ((match p with
    | .BoolOp .And (x :: y :: rest) _ => (match m with
      | .tst => ch Γ k a .tst x && (match rest with
        | [] => ch Γ k b .tst y
        | w :: r => chAnd Γ k b .tst y (w :: r))
      | _ => ch Γ k a .frz x && (match rest with
        | [] => ch Γ k b .frz y
        | w :: r => chAnd Γ k b .frz y (w :: r)))
    | _ => false)) := rfl
theorem ch_or {Γ : Gm} {k : Ck} {a b : E} {m : Mode} {p : Expr} : ch Γ k (.or a b) m p = ((match p with
    | .BoolOp .Or (x :: y :: rest) _ => (match m with
      | .tst => ch Γ k a .tst x && (match rest with
        | [] => ch Γ k b .tst y
        | w :: r => chOr Γ k b .tst y (w :: r))
      | _ => ch Γ k a .frz x && (match rest with
        | [] => ch Γ k b .frz y
        | w :: r => chOr Γ k b .frz y (w :: r)))
    | _ => false)) := rfl
theorem ch_not {Γ : Gm} {k : Ck} {a : E} {m : Mode} {p : Expr} : ch Γ k (.not a) m p = ((match p with
    | .UnaryOp .Not x _ => (match m with
      | .tst => ch Γ k a .tst x
      | _ => ch Γ k a .frz x)
    | _ => false)) := rfl
theorem ch_ife {Γ : Gm} {k : Ck} {t a b : E} {m : Mode} {p : Expr} : ch Γ k (.ife t a b) m p = ((match p with
    | .IfExp x y z _ => (match m with
      | .tst => false
      | _ => ch Γ k t .tst x && ch Γ k a .frz y && ch Γ k b .frz z)
    | _ => false)) := rfl
theorem ch_call {Γ : Gm} {k : Ck} {f : Nat} {es : List E} {m : Mode} {p : Expr} : ch Γ k (.call f es) m p = ((match p with
    | .Call (.Name x _) (q :: qs) [] _ => gloB k x && decide (Γ.fn.lookup x = some (f, es.length)) && chEs Γ k es (q :: qs)
    | _ => false)) := rfl
theorem ch_mk {Γ : Gm} {k : Ck} {c : Nat} {es : List E} {m : Mode} {p : Expr} : ch Γ k (.mk c es) m p = ((match p with
    | .Call (.Name x _) (q :: qs) [] _ => gloB k x && decide (Γ.cl.lookup x = some c) && decide ((Γ.ini.lookup c).map (·.2) = some (es.length + 1)) && chEs Γ k es (q :: qs)
    | _ => false)) := rfl
theorem ch_mkm {Γ : Gm} {k : Ck} {c : Nat} {es : List E} {m : Mode} {p : Expr} : ch Γ k (.mkm c es) m p = ((match p with
    | .Call (.Name x _) (q :: qs) [] _ => gloB k x && decide (Γ.cl.lookup x = some c) && decide ((Γ.ini.lookup c).map (·.2) = some (es.length + 1)) && chEs Γ k es (q :: qs)
    | _ => false)) := rfl
theorem ch_app {Γ : Gm} {k : Ck} {b : Bi} {es : List E} {m : Mode} {p : Expr} : ch Γ k (.app b es) m p = ((match b with
    | .lenset => chSet Γ k es p
    | .lrange => chRg Γ k "list" es p
    | .trange => chRg Γ k "tuple" es p
    | _ => (match p with
      | .Call (.Name x _) (q :: qs) [] _ => decide (x = biN b) && biB Γ k x && chAs Γ k es (q :: qs)
      | _ => false))) := rfl
theorem ch_isi {Γ : Gm} {k : Ck} {a : E} {ts : List Ty} {m : Mode} {p : Expr} : ch Γ k (.isi a ts) m p = ((match p with
    | .Call (.Name x _) [q, t] [] _ => decide (x = "isinstance") && biB Γ k x && ch Γ k a .brw q && !isStar q && !isStar t && (match ts with
      | [ty] => tyB Γ k ty t
      | _ => (match t with
        | .Tuple es _ _ => tysB Γ k ts es && decide (ts.length ≤ 1000)
        | _ => false))
    | _ => false)) := rfl
theorem ch_fld {Γ : Gm} {k : Ck} {a : E} {j : Nat} {m : Mode} {p : Expr} : ch Γ k (.fld a j) m p = ((match p with
    | .Attribute x f _ => ch Γ k a .frz x && decide (Γ.at_.lookup f = some j) && !superLike x
    | _ => false)) := rfl
theorem ch_idx {Γ : Gm} {k : Ck} {a b : E} {m : Mode} {p : Expr} : ch Γ k (.idx a b) m p = ((match p with
    | .Subscript x y _ => ch Γ k a .brw x && ch Γ k b .frz y && !isSlice y
    | _ => false)) := rfl
theorem ch_slc {Γ : Gm} {k : Ck} {l h : Bool} {a lo hi : E} {m : Mode} {p : Expr} : ch Γ k (.slc l h a lo hi) m p = ((match p with
    | .Subscript x (.Slice u v none _) _ => ch Γ k a .brw x && (match u with
        | some y => l && ch Γ k lo .frz y
        | none => !l) && (match v with
        | some y => h && ch Γ k hi .frz y
        | none => !h)
    | _ => false)) := rfl
theorem ch_rev {Γ : Gm} {k : Ck} {a : E} {m : Mode} {p : Expr} : ch Γ k (.rev a) m p = ((match p with
    | .Subscript x (.Slice none none (some (.UnaryOp .USub (.Constant (.int i) _ _) _)) _) _ => decide (i = 1) && ch Γ k a .brw x
    | _ => false)) := rfl
theorem ch_oeq {Γ : Gm} {k : Ck} {ne : Bool} {c f : Nat} {a b : E} {m : Mode} {p : Expr} : ch Γ k (.oeq ne c f a b) m p = ((match p with
    | .Compare x [op] [y] _ => oeqB ne op && decide (Γ.me.lookup (c, ("__eq__" : Str)) = some (f, 2)) && ch Γ k a .frz x && ch Γ k b .frz y && !behindInMarks op y
    | _ => false)) := rfl
theorem ch_comp {Γ : Gm} {k : Ck} {vs : List Nat} {tg : Tg} {it : It} {c e : E} {m : Mode} {p : Expr} : ch Γ k (.comp vs tg it c e) m p = ((match p with
    | .ListComp elt [⟨tge, iter, ifs, 0⟩] scope _ => blkB k scope vs && subB tg.slots vs && chI Γ k false it tge iter && chG (k.blk scope) tg tge && (match ifs with
        | [] => (match c with
          | .cst (.bl true) => true
          | _ => false)
        | [q] => ch Γ (k.blk scope) c .tst q
        | _ => false) && ch Γ (k.blk scope) e .frz elt && !isSet iter
    | _ => false)) := rfl
theorem ch_comp2 {Γ : Gm} {k : Ck} {vs : List Nat} {tg : Tg} {it : It} {c : E} {vs2 : List Nat} {tg2 : Tg} {it2 : It} {c2 e : E} {m : Mode} {p : Expr} : ch Γ k (.comp2 vs tg it c vs2 tg2 it2 c2 e) m p = ((match p with
    | .ListComp elt [⟨tge, iter, ifs, 0⟩, ⟨tge2, iter2, ifs2, 0⟩] scope _ => blkB k scope vs && subB tg.slots vs && subB tg2.slots vs2 && subB vs2 vs && chI Γ k false it tge iter && chG (k.blk scope) tg tge && (match ifs with
        | [] => (match c with
          | .cst (.bl true) => true
          | _ => false)
        | [q] => ch Γ (k.blk scope) c .tst q
        | _ => false) && chI Γ (k.blk scope) true it2 tge2 iter2 && chG (k.blk scope) tg2 tge2 && (match ifs2 with
        | [] => (match c2 with
          | .cst (.bl true) => true
          | _ => false)
        | [q] => ch Γ (k.blk scope) c2 .tst q
        | _ => false) && ch Γ (k.blk scope) e .frz elt && !isSet iter && !isSet iter2
    | _ => false)) := rfl
theorem chI_seq {Γ : Gm} {k : Ck} {fz : Bool} {b : Bool} {e : E} {t p : Expr} : chI Γ k fz (.seq b e) t p = ((!b || !fz) && ch Γ k e (if b then .brw else .frz) p) := rfl
theorem chI_rng1 {Γ : Gm} {k : Ck} {fz : Bool} {e : E} {t p : Expr} : chI Γ k fz (.rng1 e) t p = ((match p with
    | .Call (.Name x _) [q] [] _ => decide (x = "range") && biB Γ k x && ch Γ k e .frz q && !isStar q
    | _ => false)) := rfl
theorem chI_rng2 {Γ : Gm} {k : Ck} {fz : Bool} {a b : E} {t p : Expr} : chI Γ k fz (.rng2 a b) t p = ((match p with
    | .Call (.Name x _) [q, r] [] _ => decide (x = "range") && biB Γ k x && ch Γ k a .frz q && ch Γ k b .frz r && !isStar q && !isStar r
    | _ => false)) := rfl
theorem chI_enum {Γ : Gm} {k : Ck} {fz : Bool} {b : Bool} {e : E} {t p : Expr} : chI Γ k fz (.enum b e) t p = ((match t with
    | .Tuple _ _ _ => (match p with
      | .Call (.Name x _) [q] [] _ => decide (x = "enumerate") && biB Γ k x && (!b || !fz) && ch Γ k e (if b then .brw else .frz) q && !isStar q
      | _ => false)
    | _ => false)) := rfl
theorem chI_zip {Γ : Gm} {k : Ck} {fz : Bool} {a b : E} {t p : Expr} : chI Γ k fz (.zip a b) t p = ((match t with
    | .Tuple _ _ _ => (match p with
      | .Call (.Name x _) [q, r] [] _ => decide (x = "zip") && biB Γ k x && ch Γ k a .frz q && ch Γ k b .frz r && !isStar q && !isStar r
      | _ => false)
    | _ => false)) := rfl
theorem chEs_nil {Γ : Gm} {k : Ck}  {ps : List Expr} : chEs Γ k ([]) ps = (ps.isEmpty) := rfl
theorem chEs_cons {Γ : Gm} {k : Ck} {e : E} {es : List E} {ps : List Expr} : chEs Γ k (e :: es) ps = ((match ps with
    | p :: ps => ch Γ k e .frz p && !isStar p && chEs Γ k es ps
    | [] => false)) := rfl
theorem chAs_nil {Γ : Gm} {k : Ck}  {ps : List Expr} : chAs Γ k ([]) ps = (ps.isEmpty) := rfl
theorem chAs_cons {Γ : Gm} {k : Ck} {e : E} {es : List E} {ps : List Expr} : chAs Γ k (e :: es) ps = ((match ps with
    | p :: ps => ch Γ k e .brw p && !isStar p && chAs Γ k es ps
    | [] => false)) := rfl
end Bp
set_option Elab.async false
set_option linter.all false
set_option maxRecDepth 100000
/-! BpSnd: what the checker accepts is so: expressions. -/
namespace Bp
open PySem PySem.Spec PyProof.Rows L2
structure GmOk (g : Glob) (Γ : Gm) (cf : Cf) (k : Nat) : Prop where
  fn : ∀ x f np, Γ.fn.lookup x = some (f, np) → ∃ fA, g.mg x = some (.ref fA) ∧ DefOk g (cf.cl f) np k fA
  cl : ∀ x c, Γ.cl.lookup x = some c → g.mg x = some (.ref (g.cA c))
  ini : ∀ c f np, Γ.ini.lookup c = some (f, np) → cf.ini c = some f ∧ ∃ fA, Mk g.K (g.cA c) fA ∧ DefOk g (cf.cl f) np k fA
  er : ∀ x c, Γ.er.lookup x = some c → g.mg x = some (.ref (g.xA c)) ∧ ErrOk g k c ∧ CatOk g cf.xs c
  ef : ∀ c f, Γ.ef.lookup c = some f → g.xF c = f
  con : ∀ x j, Γ.con.lookup x = some j → ∃ d, cf.con j = some d ∧ ConOk g x d
  bi : ∀ x, x ∈ Γ.bi → g.mg x = none
  at_ : ∀ f j, Γ.at_.lookup f = some j → g.at_ j = f ∧ FldOk g cf.nc j
  isi : IsiOk g cf.nc
  fs : cf.fs = g.fs
  nc : cf.nc = Γ.nc
  me : ∀ c m f np, Γ.me.lookup (c, m) = some (f, np) → c < cf.nc ∧ ∃ fA, Meth g.K (g.cA c) m fA ∧ DefOk g (cf.cl f) np k fA
  ne : ∀ c f np, Γ.me.lookup (c, ("__eq__" : Str)) = some (f, np) → PySem.W.findIn g.K (.ref (g.cA c)) "__ne__" = some (some (.builtin "object.__ne__"))
structure CkOk (g : Glob) (X : Cx) (ck : Ck) (k : Nat) (Wsh : WX) : Prop where
  c : Ctx g X ck.N ck.sc k Wsh
  fn : ∀ x, X.fn x = ck.fn x
theorem CkOk.blk {g : Glob} {X : Cx} {ck : Ck} {k : Nat} {Wsh : WX} (o : CkOk g X ck k Wsh) (s : Shared) (H : Hp) (scope : Scope) (C : Addr) (cl : List (Str × Addr)) (fp : List Addr) : CkOk g (X.blk s H scope (compEnvC scope cl C X.env) fp) (ck.blk scope) k WN :=
  ⟨o.c.blk s H scope C cl fp, fun _ => rfl⟩
theorem DefOk.mono {g : Glob} {cl : List D → Store → Res D} {np k k' : Nat} {fA : Addr} (h : DefOk g cl np k fA) (le : k ≤ k') : DefOk g cl np k' fA := by
  obtain ⟨kp, fd, ps, h1, h2, h3⟩ := h
  exact ⟨kp, fd, ps, h1, h2, h3.mono le⟩
def SndM (g : Glob) (X : Cx) (en : Ent) (Wsh : WX) (cf : Cf) (m : Mode) (e : E) (p : Expr) : Prop := match m with
  | .tst => PT X p (tsimT g en Wsh cf e)
  | m => PE X p (tsim g en Wsh cf m e)
theorem and_true {a b : Bool} (h : (a && b) = true) : a = true ∧ b = true := Bool.and_eq_true_iff.mp h
theorem not_true {a : Bool} (h : (!a) = true) : a = false := by cases a <;> first | rfl | cases h
section
variable {g : Glob} {X : Cx} {ck : Ck} {k : Nat} {Wsh : WX} {en : Ent} {cf : Cf} {Γ : Gm}
theorem SndM.frz {e : E} {p : Expr} (h : SndM g X en Wsh cf .frz e p) : PE X p (tsim g en Wsh cf .frz e) := h
theorem SndM.brw {e : E} {p : Expr} (h : SndM g X en Wsh cf .brw e p) : PE X p (tsim g en Wsh cf .brw e) := h
theorem SndM.tst {e : E} {p : Expr} (h : SndM g X en Wsh cf .tst e p) : PT X p (tsimT g en Wsh cf e) := h
theorem SndM.gen {m : Mode} {e : E} {p : Expr} (hK : X.K = g.K) (h : ∀ m' : Mode, m'.val = true → PE X p (tsim g en Wsh cf m' e)) (hv : ∀ env st, evE cf e .tst env st = (evE cf e .brw env st).bind fun d st => Res.of ((truD d).map .bl) st) (hp : plainT p = true) : SndM g X en Wsh cf m e p := by
  cases m with
  | frz => exact h .frz rfl
  | brw => exact h .brw rfl
  | tst => exact simT_of hK hv (h .brw rfl) (true_plain hp)
theorem SndM.val {m : Mode} {e : E} {p : Expr} (hm : m ≠ .tst) (h : ∀ m' : Mode, m'.val = true → PE X p (tsim g en Wsh cf m' e)) : SndM g X en Wsh cf m e p := by
  cases m with
  | frz => exact h .frz rfl
  | brw => exact h .brw rfl
  | tst => exact absurd rfl hm
theorem kind_of {x : Str} {q : NameKind} (h : kindB ck x q = true) : ck.sc.names.lookup x = some q := eq_of_beq h
theorem dbg_of {x : Str} (h : dbgB x = true) : (x == ("__debug__" : Str)) = false ∧ (x == ("__classdict__" : Str)) = false := by
  obtain ⟨h1, h2⟩ := and_true h
  exact ⟨not_true h1, not_true h2⟩
theorem slot_of {i : Nat} {x : Str} (h : slotB ck i x = true) : ck.N[i]? = some x ∧ Vis ck.sc x ∧ (x == ("__debug__" : Str)) = false ∧ (x == ("__classdict__" : Str)) = false := by
  obtain ⟨h1, h2⟩ := and_true h
  obtain ⟨h3, h4⟩ := and_true h1
  obtain ⟨h5, h6⟩ := dbg_of h2
  refine ⟨of_decide_eq_true h3, ?_, h5, h6⟩
  rcases Bool.or_eq_true_iff.mp h4 with q | q
  · rcases Bool.or_eq_true_iff.mp q with q | q
    · exact .inl (kind_of q)
    · exact .inr (.inl (kind_of q))
  · exact .inr (.inr (kind_of q))
theorem loc_of {i : Nat} {x : Str} (o : CkOk g X ck k Wsh) (h : locB ck i x = true) : ck.N[i]? = some x ∧ Loc ck.sc x ∧ (X.fn x = true ∨ ck.sc.names.lookup x = some .local) ∧ (x == ("__debug__" : Str)) = false ∧ (x == ("__classdict__" : Str)) = false := by
  obtain ⟨h3, h1⟩ := and_true h
  obtain ⟨h4, h2⟩ := and_true h1
  obtain ⟨h5, h6⟩ := dbg_of h2
  rcases Bool.or_eq_true_iff.mp h4 with q | q
  · exact ⟨of_decide_eq_true h3, .inl (kind_of q), .inr (kind_of q), h5, h6⟩
  · obtain ⟨q1, q2⟩ := and_true q
    exact ⟨of_decide_eq_true h3, .inr (kind_of q1), .inl (by rw [o.fn]; exact q2), h5, h6⟩
theorem glo_of {x : Str} (h : gloB ck x = true) : ck.sc.names.lookup x = some .globalImplicit ∧ (x == ("__debug__" : Str)) = false ∧ x ≠ "__name__" := by
  obtain ⟨h1, h2⟩ := and_true h
  obtain ⟨h3, h4⟩ := and_true h1
  exact ⟨kind_of h3, (dbg_of h4).1, fun z => by rw [z] at h2; exact absurd h2 (by decide)⟩
theorem bi_of' (G : GmOk g Γ cf k) {x : Str} (h : biB Γ ck x = true) : ck.sc.names.lookup x = some .globalImplicit ∧ (x == ("__debug__" : Str)) = false ∧ x ≠ "__name__" ∧ g.mg x = none := by
  obtain ⟨h1, h2⟩ := and_true h
  obtain ⟨a, b, c⟩ := glo_of h1
  obtain ⟨y, hy, e⟩ := List.any_eq_true.mp h2
  have e : y = x := of_decide_eq_true e
  subst e
  exact ⟨a, b, c, G.bi y hy⟩

/-! ### leaves -/
theorem snd_var {i : Nat} {m : Mode} {p : Expr} (o : CkOk g X ck (k + 1) Wsh) (h : ch Γ ck (.var i) m p = true) : SndM g X en Wsh cf m (.var i) p := by
  rw [ch_var] at h
  cases p <;> (try (cases h; done))
  obtain ⟨h1, h2, h3, h4⟩ := slot_of h
  exact .gen o.c.hK (fun m' hm => sim_var hm o.c h1 h2 h3 h4) (fun _ _ => rfl) rfl
theorem snd_peek {i : Nat} {m : Mode} {p : Expr} (o : CkOk g X ck (k + 1) Wsh) (h : ch Γ ck (.peek i) m p = true) : SndM g X en Wsh cf m (.peek i) p := by
  rw [ch_peek] at h
  cases p <;> (try (cases h; done))
  cases m with
  | frz => cases h
  | brw =>
    obtain ⟨h1, h2, h3, h4⟩ := slot_of h
    exact sim_peek o.c h1 h2 h3 h4
  | tst =>
    obtain ⟨h1, h2, h3, h4⟩ := slot_of h
    exact simT_of o.c.hK (fun _ _ => rfl) (sim_peek o.c h1 h2 h3 h4) (true_plain rfl)
theorem snd_cst {d : D} {m : Mode} {p : Expr} (o : CkOk g X ck (k + 1) Wsh) (h : ch Γ ck (.cst d) m p = true) : SndM g X en Wsh cf m (.cst d) p := by
  rw [ch_cst] at h
  cases p <;> (try (cases h; done))
  rename_i c j pos
  refine .gen o.c.hK (fun m' hm => ?_) (fun _ _ => rfl) rfl
  cases d <;> cases c <;> simp only [cstB] at h <;> (try (cases h; done))
  · exact sim_non hm
  · rw [eq_of_beq h]; exact sim_bl hm
  · rw [of_decide_eq_true h]; exact sim_int hm
  · rw [of_decide_eq_true h]; exact sim_str hm
theorem snd_glo {j : Nat} {m : Mode} {p : Expr} (o : CkOk g X ck (k + 1) Wsh) (G : GmOk g Γ cf k) (h : ch Γ ck (.glo j) m p = true) : SndM g X en Wsh cf m (.glo j) p := by
  rw [ch_glo] at h
  cases p <;> (try (cases h; done))
  obtain ⟨h1, h2⟩ := and_true h
  obtain ⟨a, b, _⟩ := glo_of h1
  obtain ⟨d, e1, e2⟩ := G.con _ _ (of_decide_eq_true h2)
  exact .gen o.c.hK (fun m' hm => sim_glo hm o.c a b e1 e2) (fun _ _ => rfl) rfl

/-! ### operators -/
theorem op2_of {o : Op2} {op : Operator} (hK : X.K = g.K) (h : op2B o op = true) : OpD g X (binaryOp op) (opD o) := by
  cases o <;> cases op <;> simp only [op2B] at h <;> (try (cases h; done))
  · exact od_add hK
  · exact od_sub
  · exact od_mul hK
  · exact od_mod
  · exact od_fdiv
  · exact od_pow
theorem cm_of {o : Cm} {op : CmpOp} {j : Nat} (hK : X.K = g.K) (hr : Room j X.A) (h : cmB o op = true) : CmR g X (compareOp op) (cmD o) := by
  cases o <;> cases op <;> simp only [cmB] at h <;> (try (cases h; done))
  · exact cr_eq hK hr
  · exact cr_ne hK hr
  · exact cr_lt hK hr
  · exact cr_le hK hr
  · exact cr_gt hK hr
  · exact cr_ge hK hr
  · exact cr_in hK hr
  · exact cr_notin hK hr
  · exact cr_is
  · exact cr_isnot
theorem pe_bool1 {op : BoolOp} {a : Expr} {pos : Pos} {t : TE} (h : PE X a t) : PE X (.BoolOp op [a] pos) t := ⟨fun pins s σ H Q I q => h.run pins s σ H Q I q⟩

/-! ### what is called -/
theorem ty_of (o : CkOk g X ck (k + 1) Wsh) (G : GmOk g Γ cf k) {t : Ty} {p : Expr} (h : tyB Γ ck t p = true) : PE X p (tC (tyV g t)) ∧ Ty.ok cf.nc t = true ∧ isStar p = false := by
  cases p <;> simp only [tyB] at h <;> (try (cases h; done))
  rename_i x pos
  have bl : ∀ (T : String) (n : Str), n = x → bootBuiltins n = some (.type T) → biB Γ ck x = true → PE X (.Name x pos) (tC (.ty T)) := by
    intro T n e hb hx
    subst e
    obtain ⟨a, b, c, d⟩ := bi_of' G hx
    exact pe_bltn (by show X.env.scope.names.lookup _ = _; rw [o.c.hsc]; exact a) (by rw [o.c.hmg]; exact d) hb rfl c b
  refine ⟨?_, ?_, rfl⟩
  · cases t <;> simp only [tyN] at h
    · obtain ⟨h1, h2⟩ := and_true h
      exact bl "int" _ (Option.some.inj (of_decide_eq_true h1)) (by decide +kernel) h2
    · obtain ⟨h1, h2⟩ := and_true h
      exact bl "bool" _ (Option.some.inj (of_decide_eq_true h1)) (by decide +kernel) h2
    · obtain ⟨h1, h2⟩ := and_true h
      exact bl "str" _ (Option.some.inj (of_decide_eq_true h1)) (by decide +kernel) h2
    · obtain ⟨h1, h2⟩ := and_true h
      exact bl "tuple" _ (Option.some.inj (of_decide_eq_true h1)) (by decide +kernel) h2
    · obtain ⟨h1, h2⟩ := and_true h
      exact bl "list" _ (Option.some.inj (of_decide_eq_true h1)) (by decide +kernel) h2
    · obtain ⟨h1, h2⟩ := and_true h
      obtain ⟨h3, h4⟩ := and_true h1
      obtain ⟨a, b, _⟩ := glo_of h3
      exact pe_glob (by show X.env.scope.names.lookup _ = _; rw [o.c.hsc]; exact a) (by rw [o.c.hmg]; exact G.cl _ _ (of_decide_eq_true h4)) rfl b
  · cases t with
    | cls c =>
      obtain ⟨h1, h2⟩ := and_true h
      simp only [Ty.ok]
      rw [G.nc]; exact h2
    | _ => rfl
theorem tys_of (o : CkOk g X ck (k + 1) Wsh) (G : GmOk g Γ cf k) : ∀ {ts : List Ty} {ps : List Expr}, tysB Γ ck ts ps = true → PA X ps (tCs (ts.map (tyV g))) ∧ (ts.all fun t => Ty.ok cf.nc t) = true
  | [], [], _ => ⟨pa_nil, rfl⟩
  | [], _ :: _, h => by simp [tysB] at h
  | _ :: _, [], h => by simp [tysB] at h
  | t :: ts, p :: ps, h => by
    simp only [tysB] at h
    obtain ⟨h1, h2⟩ := and_true h
    obtain ⟨a, b, c⟩ := ty_of o G h1
    obtain ⟨d, e⟩ := tys_of o G h2
    exact ⟨pa_cons a d (star_of c), by rw [List.all_cons, b, e]; rfl⟩
theorem bi_call (o : CkOk g X ck (k + 1) Wsh) (G : GmOk g Γ cf k) {b : Bi} {x : Str} {p pos : Pos} {e : Expr} {es : List Expr} {cs : List E} {m : Mode} (hm : m.val = true) (hb : b ≠ .lenset ∧ b ≠ .lrange ∧ b ≠ .trange) (hx : x = biN b) (h : biB Γ ck x = true) (ha : PA X (e :: es) (tsimA g en Wsh cf cs)) (hs : (e :: es).any isStar = false) :
    PE X (.Call (.Name x p) (e :: es) [] pos) (tsim g en Wsh cf m (.app b cs)) := by
  obtain ⟨h1, h2, h3, h4⟩ := bi_of' G h
  rw [List.any_cons, Bool.or_eq_false_iff] at hs
  have hst := star_of (es := es) (env := X.env) hs.1
  have hpl := star_plain (env := X.env) (pos := pos) hs.2
  have hK := o.c.hK
  have hc := o.c.hcalm
  have hr := o.c.hroom
  subst hx
  cases b with
  | len => exact sim_app hm o.c h1 h4 (by decide +kernel) (br_len hK) ha h3 h2 hst hpl
  | abs => exact sim_app hm o.c h1 h4 (by decide +kernel) br_abs ha h3 h2 hst hpl
  | min2 => exact sim_app hm o.c h1 h4 (by decide +kernel) (br_min2 hc) ha h3 h2 hst hpl
  | max2 => exact sim_app hm o.c h1 h4 (by decide +kernel) (br_max2 hc) ha h3 h2 hst hpl
  | int => exact sim_appT hm o.c h1 h4 (by decide +kernel) br_int ha h3 h2 hst hpl
  | str => exact sim_appT hm o.c h1 h4 (by decide +kernel) br_str ha h3 h2 hst hpl
  | sum => exact sim_app hm o.c h1 h4 (by decide +kernel) (br_sum hK hc) ha h3 h2 hst hpl
  | all => exact sim_app hm o.c h1 h4 (by decide +kernel) (br_all hc) ha h3 h2 hst hpl
  | any => exact sim_app hm o.c h1 h4 (by decide +kernel) (br_any hc) ha h3 h2 hst hpl
  | minl => exact sim_app hm o.c h1 h4 (by decide +kernel) (br_minl hK hc hr) ha h3 h2 hst hpl
  | maxl => exact sim_app hm o.c h1 h4 (by decide +kernel) (br_maxl hK hc hr) ha h3 h2 hst hpl
  | sorted => exact sim_app hm o.c h1 h4 (by decide +kernel) (br_sorted hK hr) ha h3 h2 hst hpl
  | tuple => exact sim_appT hm o.c h1 h4 (by decide +kernel) (br_tuple hK) ha h3 h2 hst hpl
  | list => exact sim_appT hm o.c h1 h4 (by decide +kernel) (br_list hK) ha h3 h2 hst hpl
  | lenset => exact absurd rfl hb.1
  | lrange => exact absurd rfl hb.2.1
  | trange => exact absurd rfl hb.2.2
end
end Bp
set_option Elab.async false
set_option linter.all false
set_option maxRecDepth 100000
set_option maxHeartbeats 1000000
/-! BpSnd2: the checker's word on expressions. -/
namespace Bp
open PySem PySem.Spec PyProof.Rows L2
section
variable (g : Glob) (en : Ent) (cf : Cf) (Γ : Gm) (k : Nat)
def SE (e : E) : Prop := ∀ (X : Cx) (ck : Ck) (Wsh : WX) (m : Mode) (p : Expr), CkOk g X ck (k + 1) Wsh → ch Γ ck e m p = true → SndM g X en Wsh cf m e p
def SAnd (e : E) : Prop := ∀ (X : Cx) (ck : Ck) (Wsh : WX) (y z : Expr) (rest : List Expr) (pos : Pos), CkOk g X ck (k + 1) Wsh →
  (chAnd Γ ck e .tst y (z :: rest) = true → PW X (.BoolOp .And (y :: z :: rest) pos) (tsimT g en Wsh cf e)) ∧ (chAnd Γ ck e .frz y (z :: rest) = true → ∀ m : Mode, m.val = true → PE X (.BoolOp .And (y :: z :: rest) pos) (tsim g en Wsh cf m e))
def SOr (e : E) : Prop := ∀ (X : Cx) (ck : Ck) (Wsh : WX) (y z : Expr) (rest : List Expr) (pos : Pos), CkOk g X ck (k + 1) Wsh →
  (chOr Γ ck e .tst y (z :: rest) = true → PW X (.BoolOp .Or (y :: z :: rest) pos) (tsimT g en Wsh cf e)) ∧ (chOr Γ ck e .frz y (z :: rest) = true → ∀ m : Mode, m.val = true → PE X (.BoolOp .Or (y :: z :: rest) pos) (tsim g en Wsh cf m e))
def SEs (es : List E) : Prop := ∀ (X : Cx) (ck : Ck) (Wsh : WX) (ps : List Expr), CkOk g X ck (k + 1) Wsh → chEs Γ ck es ps = true → PA X ps (tsims g en Wsh cf es) ∧ es.length = ps.length ∧ ps.any isStar = false
def SAs (es : List E) : Prop := ∀ (X : Cx) (ck : Ck) (Wsh : WX) (ps : List Expr), CkOk g X ck (k + 1) Wsh → chAs Γ ck es ps = true → PA X ps (tsimA g en Wsh cf es) ∧ es.length = ps.length ∧ ps.any isStar = false
def SI (it : It) : Prop := ∀ (X : Cx) (ck : Ck) (Wsh : WX) (fz : Bool) (t p : Expr), CkOk g X ck (k + 1) Wsh → chI Γ ck fz it t p = true → PI X t p (tsimI g en Wsh cf fz it)
def SRg (es : List E) : Prop := ∀ (X : Cx) (ck : Ck) (Wsh : WX) (p : Expr) (b : Bi) (tn : Str), ((b = .lrange ∧ tn = "list") ∨ (b = .trange ∧ tn = "tuple")) → CkOk g X ck (k + 1) Wsh → chRg Γ ck tn es p = true → ∀ m : Mode, m.val = true → PE X p (tsim g en Wsh cf m (.app b es))
def SSet (es : List E) : Prop := ∀ (X : Cx) (ck : Ck) (Wsh : WX) (p : Expr), CkOk g X ck (k + 1) Wsh → chSet Γ ck es p = true → ∀ m : Mode, m.val = true → PE X p (tsim g en Wsh cf m (.app .lenset es))
end
section
variable {g : Glob} {en : Ent} {cf : Cf} {Γ : Gm} {k : Nat}

theorem c_tup {es : List E} (hs : SEs g en cf Γ k es) : SE g en cf Γ k (.tup es) := by
  intro X ck Wsh m p o h
  rw [ch_tup] at h
  cases p <;> (try (cases h; done))
  obtain ⟨h1, _, _⟩ := hs X ck Wsh _ o h
  exact .gen o.c.hK (fun m' hm => sim_tup hm h1) (fun _ _ => rfl) rfl
theorem c_lst {es : List E} (hs : SEs g en cf Γ k es) : SE g en cf Γ k (.lst es) := by
  intro X ck Wsh m p o h
  rw [ch_lst] at h
  cases p <;> (try (cases h; done))
  obtain ⟨h1, _, _⟩ := hs X ck Wsh _ o h
  exact .gen o.c.hK (fun m' hm => sim_ofN hm (fun env st => by cases m' <;> first | rfl | cases hm) (simN_lst h1)) (fun _ _ => rfl) rfl
theorem c_cell {es : List E} (hs : SEs g en cf Γ k es) : SE g en cf Γ k (.cell es) := by
  intro X ck Wsh m p o h
  rw [ch_cell] at h
  cases p <;> (try (cases h; done))
  obtain ⟨h1, _, _⟩ := hs X ck Wsh _ o h
  exact .gen o.c.hK (fun m' hm => sim_cell hm h1) (fun _ _ => rfl) rfl
theorem c_bin {op : Op2} {a b : E} (ha : SE g en cf Γ k a) (hb : SE g en cf Γ k b) : SE g en cf Γ k (.bin op a b) := by
  intro X ck Wsh m p o h
  rw [ch_bin] at h
  cases p <;> (try (cases h; done))
  obtain ⟨h1, h2⟩ := and_true h
  obtain ⟨h3, h4⟩ := and_true h1
  exact .gen o.c.hK (fun m' hm => sim_bin hm (op2_of o.c.hK h3) (ha X ck Wsh .brw _ o h4) (hb X ck Wsh .brw _ o h2)) (fun _ _ => rfl) rfl
theorem c_neg {a : E} (ha : SE g en cf Γ k a) : SE g en cf Γ k (.neg a) := by
  intro X ck Wsh m p o h
  rw [ch_neg] at h
  cases p with
  | UnaryOp op x pos =>
    cases op <;> (try (cases h; done))
    exact .gen o.c.hK (fun m' hm => sim_neg hm (ha X ck Wsh .brw _ o h)) (fun _ _ => rfl) rfl
  | _ => cases h
theorem c_cmp {op : Cm} {a b : E} (ha : SE g en cf Γ k a) (hb : SE g en cf Γ k b) : SE g en cf Γ k (.cmp op a b) := by
  intro X ck Wsh m p o h
  rw [ch_cmp] at h
  split at h
  · obtain ⟨h1, h2⟩ := and_true h
    obtain ⟨h3, h4⟩ := and_true h1
    obtain ⟨h5, h6⟩ := and_true h3
    have hc := cm_of (g := g) (X := X) o.c.hK o.c.hroom h5
    have h7 := ha X ck Wsh .brw _ o h6
    have h8 := hb X ck Wsh .brw _ o h4
    have h9 := not_true h2
    cases m with
    | tst => exact simT_cmp hc h7 h8 h9
    | frz => exact sim_cmp rfl hc h7 h8 h9
    | brw => exact sim_cmp rfl hc h7 h8 h9
  · cases h
theorem c_chain {op op' : Cm} {a b c : E} (ha : SE g en cf Γ k a) (hb : SE g en cf Γ k b) (hc : SE g en cf Γ k c) : SE g en cf Γ k (.chain op op' a b c) := by
  intro X ck Wsh m p o h
  rw [ch_chain] at h
  split at h
  · obtain ⟨h1, h2⟩ := and_true h
    obtain ⟨h3, h4⟩ := and_true h1
    obtain ⟨h5, h6⟩ := and_true h3
    obtain ⟨h7, h8⟩ := and_true h5
    obtain ⟨h9, h10⟩ := and_true h7
    have q1 := cm_of (g := g) (X := X) o.c.hK o.c.hroom h9
    have q2 := cm_of (g := g) (X := X) o.c.hK o.c.hroom h10
    have q3 := ha X ck Wsh .brw _ o h8
    have q4 := hb X ck Wsh .brw _ o h6
    have q5 := hc X ck Wsh .brw _ o h4
    have q6 := not_true h2
    cases m with
    | tst => exact simT_chain q1 q2 q3 q4 q5 q6
    | frz => exact sim_chain rfl q1 q2 q3 q4 q5 q6
    | brw => exact sim_chain rfl q1 q2 q3 q4 q5 q6
  · cases h
theorem c_and {a b : E} (ha : SE g en cf Γ k a) (hb : SE g en cf Γ k b) (hl : SAnd g en cf Γ k b) : SE g en cf Γ k (.and a b) := by
  intro X ck Wsh m p o h
  rw [ch_and] at h
  split at h
  · rename_i x y rest pos
    cases m with
    | tst =>
      obtain ⟨h1, h2⟩ := and_true h
      have q1 := ha X ck Wsh .tst _ o h1
      cases rest with
      | nil => exact (simW_and q1 (pw_and1 (pos := pos) (hb X ck Wsh .tst _ o h2))).pt
      | cons z rest => exact (simW_and q1 ((hl X ck Wsh y z rest pos o).1 h2)).pt
    | frz =>
      obtain ⟨h1, h2⟩ := and_true h
      have q1 := ha X ck Wsh .frz _ o h1
      cases rest with
      | nil => exact sim_and rfl q1 (pe_bool1 (pos := pos) (hb X ck Wsh .frz _ o h2))
      | cons z rest => exact sim_and rfl q1 ((hl X ck Wsh y z rest pos o).2 h2 .frz rfl)
    | brw =>
      obtain ⟨h1, h2⟩ := and_true h
      have q1 := ha X ck Wsh .frz _ o h1
      cases rest with
      | nil => exact sim_and rfl q1 (pe_bool1 (pos := pos) (hb X ck Wsh .frz _ o h2))
      | cons z rest => exact sim_and rfl q1 ((hl X ck Wsh y z rest pos o).2 h2 .frz rfl)
  · cases h
theorem c_or {a b : E} (ha : SE g en cf Γ k a) (hb : SE g en cf Γ k b) (hl : SOr g en cf Γ k b) : SE g en cf Γ k (.or a b) := by
  intro X ck Wsh m p o h
  rw [ch_or] at h
  split at h
  · rename_i x y rest pos
    cases m with
    | tst =>
      obtain ⟨h1, h2⟩ := and_true h
      have q1 := ha X ck Wsh .tst _ o h1
      cases rest with
      | nil => exact (simW_or q1 (pw_or1 (pos := pos) (hb X ck Wsh .tst _ o h2))).pt
      | cons z rest => exact (simW_or q1 ((hl X ck Wsh y z rest pos o).1 h2)).pt
    | frz =>
      obtain ⟨h1, h2⟩ := and_true h
      have q1 := ha X ck Wsh .frz _ o h1
      cases rest with
      | nil => exact sim_or rfl q1 (pe_bool1 (pos := pos) (hb X ck Wsh .frz _ o h2))
      | cons z rest => exact sim_or rfl q1 ((hl X ck Wsh y z rest pos o).2 h2 .frz rfl)
    | brw =>
      obtain ⟨h1, h2⟩ := and_true h
      have q1 := ha X ck Wsh .frz _ o h1
      cases rest with
      | nil => exact sim_or rfl q1 (pe_bool1 (pos := pos) (hb X ck Wsh .frz _ o h2))
      | cons z rest => exact sim_or rfl q1 ((hl X ck Wsh y z rest pos o).2 h2 .frz rfl)
  · cases h
theorem l_and {a b : E} (ha : SE g en cf Γ k a) (hb : SE g en cf Γ k b) (hl : SAnd g en cf Γ k b) : SAnd g en cf Γ k (.and a b) := by
  intro X ck Wsh y z rest pos o
  constructor
  · intro h
    cases rest with
    | nil =>
      obtain ⟨h1, h2⟩ := and_true (show (ch Γ ck a .tst y && ch Γ ck b .tst z) = true from h)
      have q1 := ha X ck Wsh .tst _ o h1
      exact simW_and q1 (pw_and1 (pos := pos) (hb X ck Wsh .tst _ o h2))
    | cons w rest =>
      obtain ⟨h1, h2⟩ := and_true (show (ch Γ ck a .tst y && chAnd Γ ck b .tst z (w :: rest)) = true from h)
      have q1 := ha X ck Wsh .tst _ o h1
      exact simW_and q1 ((hl X ck Wsh z w rest pos o).1 h2)
  · intro h m hm
    cases rest with
    | nil =>
      obtain ⟨h1, h2⟩ := and_true (show (ch Γ ck a .frz y && ch Γ ck b .frz z) = true from h)
      have q1 := ha X ck Wsh .frz _ o h1
      exact sim_and hm q1 (pe_bool1 (pos := pos) (hb X ck Wsh .frz _ o h2))
    | cons w rest =>
      obtain ⟨h1, h2⟩ := and_true (show (ch Γ ck a .frz y && chAnd Γ ck b .frz z (w :: rest)) = true from h)
      have q1 := ha X ck Wsh .frz _ o h1
      exact sim_and hm q1 ((hl X ck Wsh z w rest pos o).2 h2 .frz rfl)
theorem l_or {a b : E} (ha : SE g en cf Γ k a) (hb : SE g en cf Γ k b) (hl : SOr g en cf Γ k b) : SOr g en cf Γ k (.or a b) := by
  intro X ck Wsh y z rest pos o
  constructor
  · intro h
    cases rest with
    | nil =>
      obtain ⟨h1, h2⟩ := and_true (show (ch Γ ck a .tst y && ch Γ ck b .tst z) = true from h)
      have q1 := ha X ck Wsh .tst _ o h1
      exact simW_or q1 (pw_or1 (pos := pos) (hb X ck Wsh .tst _ o h2))
    | cons w rest =>
      obtain ⟨h1, h2⟩ := and_true (show (ch Γ ck a .tst y && chOr Γ ck b .tst z (w :: rest)) = true from h)
      have q1 := ha X ck Wsh .tst _ o h1
      exact simW_or q1 ((hl X ck Wsh z w rest pos o).1 h2)
  · intro h m hm
    cases rest with
    | nil =>
      obtain ⟨h1, h2⟩ := and_true (show (ch Γ ck a .frz y && ch Γ ck b .frz z) = true from h)
      have q1 := ha X ck Wsh .frz _ o h1
      exact sim_or hm q1 (pe_bool1 (pos := pos) (hb X ck Wsh .frz _ o h2))
    | cons w rest =>
      obtain ⟨h1, h2⟩ := and_true (show (ch Γ ck a .frz y && chOr Γ ck b .frz z (w :: rest)) = true from h)
      have q1 := ha X ck Wsh .frz _ o h1
      exact sim_or hm q1 ((hl X ck Wsh z w rest pos o).2 h2 .frz rfl)
theorem c_not {a : E} (ha : SE g en cf Γ k a) : SE g en cf Γ k (.not a) := by
  intro X ck Wsh m p o h
  rw [ch_not] at h
  split at h
  · cases m with
    | tst => exact simT_not (ha X ck Wsh .tst _ o h)
    | frz => exact sim_not rfl (ha X ck Wsh .frz _ o h)
    | brw => exact sim_not rfl (ha X ck Wsh .frz _ o h)
  · cases h
theorem c_ife {t a b : E} (ht : SE g en cf Γ k t) (ha : SE g en cf Γ k a) (hb : SE g en cf Γ k b) : SE g en cf Γ k (.ife t a b) := by
  intro X ck Wsh m p o h
  rw [ch_ife] at h
  cases p <;> (try (cases h; done))
  cases m with
  | tst => cases h
  | frz =>
    obtain ⟨h1, h2⟩ := and_true h
    obtain ⟨h3, h4⟩ := and_true h1
    exact sim_ife rfl (ht X ck Wsh .tst _ o h3) (ha X ck Wsh .frz _ o h4) (hb X ck Wsh .frz _ o h2)
  | brw =>
    obtain ⟨h1, h2⟩ := and_true h
    obtain ⟨h3, h4⟩ := and_true h1
    exact sim_ife rfl (ht X ck Wsh .tst _ o h3) (ha X ck Wsh .frz _ o h4) (hb X ck Wsh .frz _ o h2)
theorem star_any {e : Expr} {es : List Expr} {env : PySem.Env} {pos : Pos} (h : (e :: es).any isStar = false) : starEach (e :: es) env = (false, eval e env) :: starEach es env ∧ (backTo pos (starEach es env)).any (·.1) = false := by
  rw [List.any_cons, Bool.or_eq_false_iff] at h
  exact ⟨star_of h.1, star_plain h.2⟩
theorem c_call {f : Nat} {es : List E} (G : GmOk g Γ cf k) (hs : SEs g en cf Γ k es) : SE g en cf Γ k (.call f es) := by
  intro X ck Wsh m p o h
  rw [ch_call] at h
  split at h
  · rename_i x px q qs pos
    obtain ⟨h1, h2⟩ := and_true h
    obtain ⟨h3, h4⟩ := and_true h1
    obtain ⟨a, b, _⟩ := glo_of h3
    obtain ⟨q1, q2, q3⟩ := hs X ck Wsh _ o h2
    obtain ⟨fA, e1, F⟩ := G.fn _ _ _ (of_decide_eq_true h4)
    obtain ⟨s1, s2⟩ := star_any (env := X.env) (pos := pos) q3
    exact .gen o.c.hK (fun m' hm => sim_call hm o.c (F.mono (Nat.le_succ k)) rfl a e1 b q1 s1 s2) (fun _ _ => rfl) rfl
  · cases h
theorem ini_of {c n : Nat} (h : (Γ.ini.lookup c).map (·.2) = some n) : ∃ f, Γ.ini.lookup c = some (f, n) := by
  obtain ⟨⟨f, n'⟩, e1, e2⟩ := Option.map_eq_some_iff.mp h
  simp only at e2
  subst e2
  exact ⟨f, e1⟩
theorem c_mk {c : Nat} {es : List E} (G : GmOk g Γ cf k) (hs : SEs g en cf Γ k es) : SE g en cf Γ k (.mk c es) := by
  intro X ck Wsh m p o h
  rw [ch_mk] at h
  split at h
  · rename_i x px q qs pos
    obtain ⟨h1, h2⟩ := and_true h
    obtain ⟨h3, h4⟩ := and_true h1
    obtain ⟨h5, h6⟩ := and_true h3
    obtain ⟨a, b, _⟩ := glo_of h5
    obtain ⟨q1, q2, q3⟩ := hs X ck Wsh _ o h2
    obtain ⟨f, e1⟩ := ini_of (of_decide_eq_true h4)
    obtain ⟨e2, fA, M, F⟩ := G.ini _ _ _ e1
    obtain ⟨s1, s2⟩ := star_any (env := X.env) (pos := pos) q3
    exact .gen o.c.hK (fun m' hm => sim_mk hm o.c G.fs e2 F M rfl a (G.cl _ _ (of_decide_eq_true h6)) b q1 s1 s2) (fun _ _ => rfl) rfl
  · cases h
theorem c_mkm {c : Nat} {es : List E} (G : GmOk g Γ cf k) (hs : SEs g en cf Γ k es) : SE g en cf Γ k (.mkm c es) := by
  intro X ck Wsh m p o h
  rw [ch_mkm] at h
  split at h
  · rename_i x px q qs pos
    obtain ⟨h1, h2⟩ := and_true h
    obtain ⟨h3, h4⟩ := and_true h1
    obtain ⟨h5, h6⟩ := and_true h3
    obtain ⟨a, b, _⟩ := glo_of h5
    obtain ⟨q1, q2, q3⟩ := hs X ck Wsh _ o h2
    obtain ⟨f, e1⟩ := ini_of (of_decide_eq_true h4)
    obtain ⟨e2, fA, M, F⟩ := G.ini _ _ _ e1
    obtain ⟨s1, s2⟩ := star_any (env := X.env) (pos := pos) q3
    exact .gen o.c.hK (fun m' hm => sim_mkm hm o.c e2 F M rfl a (G.cl _ _ (of_decide_eq_true h6)) b q1 s1 s2) (fun _ _ => rfl) rfl
  · cases h
theorem set_plain {ck : Ck} {es : List E} {p : Expr} (h : chSet Γ ck es p = true) : plainT p = true := by
  cases es with
  | nil => cases h
  | cons e es =>
    cases es with
    | cons _ _ => cases h
    | nil => cases p <;> first | rfl | cases h
theorem rg_plain {ck : Ck} {tn : Str} {es : List E} {p : Expr} (h : chRg Γ ck tn es p = true) : plainT p = true := by
  cases es with
  | nil => cases h
  | cons e es =>
    cases es with
    | cons _ _ => cases h
    | nil => cases p <;> first | rfl | cases h
theorem c_app {b : Bi} {es : List E} (G : GmOk g Γ cf k) (hs : SAs g en cf Γ k es) (hset : SSet g en cf Γ k es) (hrg : SRg g en cf Γ k es) : SE g en cf Γ k (.app b es) := by
  intro X ck Wsh m p o h
  rw [ch_app] at h
  split at h
  · exact .gen o.c.hK (hset X ck Wsh p o h) (fun _ _ => rfl) (set_plain h)
  · exact .gen o.c.hK (hrg X ck Wsh p _ _ (.inl ⟨rfl, rfl⟩) o h) (fun _ _ => rfl) (rg_plain h)
  · exact .gen o.c.hK (hrg X ck Wsh p _ _ (.inr ⟨rfl, rfl⟩) o h) (fun _ _ => rfl) (rg_plain h)
  · rename_i h0 h00 h000
    have hb : b ≠ .lenset ∧ b ≠ .lrange ∧ b ≠ .trange := ⟨fun z => h0 z, fun z => h00 z, fun z => h000 z⟩
    split at h
    · obtain ⟨h1, h2⟩ := and_true h
      obtain ⟨h3, h4⟩ := and_true h1
      obtain ⟨q1, q2, q3⟩ := hs X ck Wsh _ o h2
      exact .gen o.c.hK (fun m' hm => bi_call o G hm hb (of_decide_eq_true h3) h4 q1 q3) (fun _ _ => rfl) rfl
    · cases h
theorem c_isi {a : E} {ts : List Ty} (G : GmOk g Γ cf k) (ha : SE g en cf Γ k a) : SE g en cf Γ k (.isi a ts) := by
  intro X ck Wsh m p o h
  rw [ch_isi] at h
  split at h
  · rename_i x px q t pos
    obtain ⟨h1, h2⟩ := and_true h
    obtain ⟨h3, h4⟩ := and_true h1
    obtain ⟨h5, h6⟩ := and_true h3
    obtain ⟨h7, h8⟩ := and_true h5
    obtain ⟨h9, h10⟩ := and_true h7
    have hx : x = "isinstance" := of_decide_eq_true h9
    subst hx
    obtain ⟨b1, b2, b3, b4⟩ := bi_of' G h10
    have q1 := ha X ck Wsh .brw _ o h8
    have s1 : starEach [q, t] X.env = (false, eval q X.env) :: starEach [t] X.env := star_of (not_true h6)
    have s2 : starEach [t] X.env = (false, eval t X.env) :: starEach [] X.env := star_of (not_true h4)
    have hm : ∀ m' : Mode, m'.val = true → PE X (.Call (.Name "isinstance" px) [q, t] [] pos) (tsim g en Wsh cf m' (.isi a ts)) := by
      intro m' hm
      split at h2
      · obtain ⟨t1, t2, t3⟩ := ty_of o G h2
        exact sim_isi hm o.c G.isi t2 q1 t1 b1 b4 s1 s2
      · split at h2
        · obtain ⟨h11, h12⟩ := and_true h2
          obtain ⟨t1, t2⟩ := tys_of o G h11
          exact sim_isiT hm o.c G.isi t2 (of_decide_eq_true h12) q1 t1 b1 b4 s1 s2
        · cases h2
    exact .gen o.c.hK hm (fun _ _ => rfl) rfl
  · cases h
theorem c_fld {a : E} {j : Nat} (G : GmOk g Γ cf k) (ha : SE g en cf Γ k a) : SE g en cf Γ k (.fld a j) := by
  intro X ck Wsh m p o h
  rw [ch_fld] at h
  cases p <;> (try (cases h; done))
  rename_i x f pos
  obtain ⟨h1, h2⟩ := and_true h
  obtain ⟨h3, h4⟩ := and_true h1
  obtain ⟨e1, F⟩ := G.at_ _ _ (of_decide_eq_true h4)
  subst e1
  exact .gen o.c.hK (fun m' hm => sim_fld hm o.c.hK G.fs F (ha X ck Wsh .frz _ o h3) (attr_plain (not_true h2))) (fun _ _ => rfl) rfl
theorem c_idx {a b : E} (ha : SE g en cf Γ k a) (hb : SE g en cf Γ k b) : SE g en cf Γ k (.idx a b) := by
  intro X ck Wsh m p o h
  rw [ch_idx] at h
  cases p <;> (try (cases h; done))
  obtain ⟨h1, h2⟩ := and_true h
  obtain ⟨h3, h4⟩ := and_true h1
  exact .gen o.c.hK (fun m' hm => sim_idx hm o.c.hK (ha X ck Wsh .brw _ o h3) (hb X ck Wsh .frz _ o h4) (ix_plain (not_true h2))) (fun _ _ => rfl) rfl
theorem c_slc {l r : Bool} {a lo hi : E} (ha : SE g en cf Γ k a) (hlo : SE g en cf Γ k lo) (hhi : SE g en cf Γ k hi) : SE g en cf Γ k (.slc l r a lo hi) := by
  intro X ck Wsh m p o h
  rw [ch_slc] at h
  split at h
  · rename_i x u v p2 pos
    obtain ⟨h1, h2⟩ := and_true h
    obtain ⟨h3, h4⟩ := and_true h1
    have q1 := ha X ck Wsh .brw _ o h3
    have u1 : PO X u (tsimO g en Wsh cf l lo) := by
      cases u with
      | none =>
        have e : l = false := not_true h4
        subst e
        exact simO_none
      | some y =>
        obtain ⟨e, h5⟩ := and_true h4
        subst e
        exact simO_some (hlo X ck Wsh .frz _ o h5)
    have v1 : PO X v (tsimO g en Wsh cf r hi) := by
      cases v with
      | none =>
        have e : r = false := not_true h2
        subst e
        exact simO_none
      | some y =>
        obtain ⟨e, h5⟩ := and_true h2
        subst e
        exact simO_some (hhi X ck Wsh .frz _ o h5)
    exact .gen o.c.hK (fun m' hm => sim_slc hm o.c.hK q1 u1 v1) (fun _ _ => rfl) rfl
  · cases h
theorem c_rev {a : E} (ha : SE g en cf Γ k a) : SE g en cf Γ k (.rev a) := by
  intro X ck Wsh m p o h
  rw [ch_rev] at h
  split at h
  · obtain ⟨h1, h2⟩ := and_true h
    have e := of_decide_eq_true h1
    subst e
    exact .gen o.c.hK (fun m' hm => sim_rev hm o.c.hK (ha X ck Wsh .brw _ o h2)) (fun _ _ => rfl) rfl
  · cases h
theorem c_oeq {ne : Bool} {c f : Nat} {a b : E} (G : GmOk g Γ cf k) (ha : SE g en cf Γ k a) (hb : SE g en cf Γ k b) : SE g en cf Γ k (.oeq ne c f a b) := by
  intro X ck Wsh m p o h
  rw [ch_oeq] at h
  split at h
  · obtain ⟨h1, h2⟩ := and_true h
    obtain ⟨h3, h4⟩ := and_true h1
    obtain ⟨h5, h6⟩ := and_true h3
    obtain ⟨h7, h8⟩ := and_true h5
    obtain ⟨hc, fA, M, F⟩ := G.me _ _ _ _ (of_decide_eq_true h8)
    have q1 := ha X ck Wsh .frz _ o h6
    have q2 := hb X ck Wsh .frz _ o h4
    have q3 := G.ne _ _ _ (of_decide_eq_true h8)
    have q4 := (G.isi.cl _ hc).2.2
    have q5 := not_true h2
    cases m with
    | tst => exact simT_oeq (oeq_of h7) o.c M q3 q4 F q1 q2 q5
    | frz => exact sim_oeq (oeq_of h7) rfl o.c M q3 q4 F q1 q2 q5
    | brw => exact sim_oeq (oeq_of h7) rfl o.c M q3 q4 F q1 q2 q5
  · cases h
end
end Bp
set_option Elab.async false
set_option linter.all false
set_option maxRecDepth 100000
set_option maxHeartbeats 1000000
/-! BpSnd3: comprehensions; the word on every expression. -/
namespace Bp
open PySem PySem.Spec PyProof.Rows L2
section
variable {g : Glob} {en : Ent} {cf : Cf} {Γ : Gm} {k : Nat}
theorem own_snd (ck : Ck) (vs : List Nat) : (ownB ck vs).map (·.2) = vs := by
  unfold ownB
  rw [List.map_map]
  have : ((fun p : Str × Nat => p.2) ∘ fun v => (ck.N.getD v "", v)) = id := rfl
  rw [this, List.map_id]
theorem blk_of {ck : Ck} {scope : Scope} {vs : List Nat} (h : blkB ck scope vs = true) : BlkOk ck.N ck.sc scope (ownB ck vs) := by
  obtain ⟨h1, h2⟩ := and_true h
  obtain ⟨h3, h4⟩ := and_true h1
  obtain ⟨h5, h6⟩ := and_true h3
  obtain ⟨h7, h8⟩ := and_true h5
  refine ⟨of_decide_eq_true h7, fun y hy => of_decide_eq_true (List.all_eq_true.mp h8 y hy), fun p hp => ?_, fun y hy e => ?_, fun y hy e => ?_⟩
  · unfold ownB at hp
    obtain ⟨v, hv, e⟩ := List.mem_map.mp hp
    subst e
    have hl : v < ck.N.length := of_decide_eq_true (List.all_eq_true.mp h6 v hv)
    show ck.N[v]? = some (ck.N.getD v "")
    rw [List.getD_eq_getElem?_getD, List.getElem?_eq_getElem hl]; rfl
  · have := List.all_eq_true.mp h4 y hy
    simp only [e, decide_true, Bool.not_true, Bool.false_or, Bool.or_eq_true] at this
    rcases this with q | q
    · exact .inl (kind_of q)
    · exact .inr (kind_of q)
  · have := List.all_eq_true.mp h2 y hy
    have e' : (decide (y.2 = .local) || decide (y.2 = .cell)) = true := by
      rcases e with e | e
      · rw [e]; rfl
      · rw [e]; rfl
    rw [e'] at this
    rcases Bool.or_eq_true_iff.mp this with q | q
    · rcases Bool.or_eq_true_iff.mp q with q | q
      · cases q
      · obtain ⟨p, hp, ep⟩ := List.any_eq_true.mp q
        have ep : p.1 = y.1 := of_decide_eq_true ep
        exact .inl (ep ▸ List.mem_map.mpr ⟨p, hp, rfl⟩)
    · right
      intro hm
      have q := not_true q
      rw [List.any_eq_false] at q
      exact absurd (decide_eq_true rfl) (q _ hm)
theorem sub_of {xs ys : List Nat} (h : subB xs ys = true) : ∀ i ∈ xs, i ∈ ys := fun i hi => by
  obtain ⟨j, hj, e⟩ := List.any_eq_true.mp (List.all_eq_true.mp h i hi)
  rw [eq_of_beq e]; exact hj

/-! ### targets -/
def SG (t : Tg) (g : Glob) (en : Ent) (k : Nat) : Prop := ∀ (X : Cx) (ck : Ck) (Wsh : WX) (p : Expr), CkOk g X ck (k + 1) Wsh → chG ck t p = true → PG X p (tsimG g en t)
theorem each_plain {e : Expr} {es : List Expr} {env : PySem.Env} (h : isStar e = false) : (assignEach (e :: es) env) = (false, assign e env) :: assignEach es env := by
  cases e <;> first | rfl | cases h
theorem each_len : ∀ {es : List Expr} {env : PySem.Env}, es.any isStar = false → (assignEach es env).length = es.length ∧ (assignEach es env).findIdx? (·.1) = none
  | [], _, _ => ⟨rfl, rfl⟩
  | e :: es, env, h => by
    rw [List.any_cons, Bool.or_eq_false_iff] at h
    obtain ⟨h1, h2⟩ := each_len (env := env) h.2
    rw [each_plain h.1]
    refine ⟨by rw [List.length_cons, List.length_cons, h1], ?_⟩
    rw [List.findIdx?_cons]
    simp only [Bool.false_eq_true, if_false]
    rw [h2]; rfl
mutual
theorem snd_G : ∀ (t : Tg), SG t g en k
  | .slot i => by
    intro X ck Wsh p o h
    cases p <;> (try (cases h; done))
    obtain ⟨h1, h2, h3, _, _⟩ := loc_of o (show locB ck i _ = true from h)
    exact simG_slot (by rw [o.c.hN]; exact o.c.hnd) (by rw [o.c.hN]; exact h1) (by rw [o.c.hsc]; exact h2) (by rw [o.c.hsc]; exact h3)
  | .tup ts => by
    intro X ck Wsh p o h
    cases p <;> (try (cases h; done))
    rename_i es kk pos
    obtain ⟨h1, h2⟩ := and_true (show (decide (es.length = ts.length) && !es.any isStar && chGs ck ts es) = true from h)
    obtain ⟨h3, h4⟩ := and_true h1
    obtain ⟨q1, q2⟩ := each_len (env := X.env) (not_true h4)
    exact simG_tup o.c.hcalm o.c.hK (snd_Gs ts X ck Wsh es o h2 (not_true h4)) (by rw [q1]; exact of_decide_eq_true h3) q2
theorem snd_Gs : ∀ (ts : List Tg) (X : Cx) (ck : Ck) (Wsh : WX) (es : List Expr), CkOk g X ck (k + 1) Wsh → chGs ck ts es = true → es.any isStar = false → PGs X es (tsimGs g en ts)
  | [], X, ck, Wsh, es, o, h, hs => by
    cases es with
    | nil => exact simGs_nil
    | cons e es => cases h
  | t :: ts, X, ck, Wsh, es, o, h, hs => by
    cases es with
    | nil => cases h
    | cons e es =>
      obtain ⟨h1, h2⟩ := and_true (show (chG ck t e && chGs ck ts es) = true from h)
      rw [List.any_cons, Bool.or_eq_false_iff] at hs
      exact simGs_cons (snd_G t X ck Wsh e o h1) (snd_Gs ts X ck Wsh es o h2 hs.2) (by rw [each_plain hs.1]; rfl)
end

/-! ### sources -/
theorem i_seq {b : Bool} {e : E} (he : SE g en cf Γ k e) : SI g en cf Γ k (.seq b e) := by
  intro X ck Wsh fz t p o h
  rw [chI_seq] at h
  obtain ⟨h1, h2⟩ := and_true h
  have hb : b = true → fz = false := fun e => by
    subst e
    cases fz <;> first | rfl | cases h1
  refine simI_seq o.c.hK hb ?_
  cases b with
  | true => exact he X ck Wsh .brw p o h2
  | false => exact he X ck Wsh .frz p o h2
theorem star_one {e : Expr} {env : PySem.Env} (h : isStar e = false) : starEach [e] env = [(false, eval e env)] := star_of h
theorem i_rng1 {e : E} (G : GmOk g Γ cf k) (he : SE g en cf Γ k e) : SI g en cf Γ k (.rng1 e) := by
  intro X ck Wsh fz t p o h
  rw [chI_rng1] at h
  split at h
  · obtain ⟨h1, h2⟩ := and_true h
    obtain ⟨h3, h4⟩ := and_true h1
    obtain ⟨h5, h6⟩ := and_true h3
    have hx := of_decide_eq_true h5
    subst hx
    obtain ⟨b1, b2, b3, b4⟩ := bi_of' G h6
    exact simI_rng1 o.c b1 b4 (he X ck Wsh .frz _ o h4) (star_one (not_true h2))
  · cases h
theorem i_rng2 {a b : E} (G : GmOk g Γ cf k) (ha : SE g en cf Γ k a) (hb : SE g en cf Γ k b) : SI g en cf Γ k (.rng2 a b) := by
  intro X ck Wsh fz t p o h
  rw [chI_rng2] at h
  split at h
  · obtain ⟨h1, h2⟩ := and_true h
    obtain ⟨h3, h4⟩ := and_true h1
    obtain ⟨h5, h6⟩ := and_true h3
    obtain ⟨h7, h8⟩ := and_true h5
    obtain ⟨h9, h10⟩ := and_true h7
    have hx := of_decide_eq_true h9
    subst hx
    obtain ⟨b1, b2, b3, b4⟩ := bi_of' G h10
    exact simI_rng2 o.c b1 b4 (ha X ck Wsh .frz _ o h8) (hb X ck Wsh .frz _ o h6) (star_of (not_true h4)) (star_one (not_true h2))
  · cases h
theorem i_enum {b : Bool} {e : E} (G : GmOk g Γ cf k) (he : SE g en cf Γ k e) : SI g en cf Γ k (.enum b e) := by
  intro X ck Wsh fz t p o h
  rw [chI_enum] at h
  split at h
  · split at h
    · obtain ⟨h1, h2⟩ := and_true h
      obtain ⟨h3, h4⟩ := and_true h1
      obtain ⟨h5, h6⟩ := and_true h3
      obtain ⟨h7, h8⟩ := and_true h5
      have hx := of_decide_eq_true h7
      subst hx
      obtain ⟨b1, b2, b3, b4⟩ := bi_of' G h8
      have hb : b = true → fz = false := fun e => by
        subst e
        cases fz <;> first | rfl | cases h6
      refine simI_enum o.c hb b1 b4 ?_ (star_one (not_true h2))
      cases b with
      | true => exact he X ck Wsh .brw _ o h4
      | false => exact he X ck Wsh .frz _ o h4
    · cases h
  · cases h
theorem i_zip {a b : E} (G : GmOk g Γ cf k) (ha : SE g en cf Γ k a) (hb : SE g en cf Γ k b) : SI g en cf Γ k (.zip a b) := by
  intro X ck Wsh fz t p o h
  rw [chI_zip] at h
  split at h
  · split at h
    · obtain ⟨h1, h2⟩ := and_true h
      obtain ⟨h3, h4⟩ := and_true h1
      obtain ⟨h5, h6⟩ := and_true h3
      obtain ⟨h7, h8⟩ := and_true h5
      obtain ⟨h9, h10⟩ := and_true h7
      have hx := of_decide_eq_true h9
      subst hx
      obtain ⟨b1, b2, b3, b4⟩ := bi_of' G h10
      exact simI_zip o.c b1 b4 (ha X ck Wsh .frz _ o h8) (hb X ck Wsh .frz _ o h6) (star_of (not_true h4)) (star_of (not_true h2))
    · cases h
  · cases h

/-! ### comprehensions -/
def ifsB (Γ : Gm) (k : Ck) (c : E) : List Expr → Bool
  | [] => (match c with
    | .cst (.bl true) => true
    | _ => false)
  | [q] => ch Γ k c .tst q
  | _ => false
theorem ifsB_nil {ck : Ck} {c : E} : ifsB Γ ck c [] = (match c with
    | .cst (.bl true) => true
    | _ => false) := rfl
theorem ifs_of {c : E} (hc : SE g en cf Γ k c) {X : Cx} {ck : Ck} {Wsh : WX} {ifs : List Expr} (o : CkOk g X ck (k + 1) Wsh) (h : ifsB Γ ck c ifs = true) : PTs X ifs (tsimT g en Wsh cf c) := by
  cases ifs with
  | nil =>
    have e : c = .cst (.bl true) := by
      rw [ifsB_nil] at h
      split at h
      · rfl
      · cases h
    subst e
    exact pts_true
  | cons q qs =>
    cases qs with
    | nil => exact pts_one (hc X ck Wsh .tst q o h)
    | cons _ _ => cases h
/-- a comprehension's parts -/
structure CompOk (g : Glob) (en : Ent) (cf : Cf) (Γ : Gm) (k : Nat) (X : Cx) (ck : Ck) (Wsh : WX) (vs : List Nat) (tg : Tg) (it : It) (c e : E) (elt tge iter : Expr) (ifs : List Expr) (scope : Scope) : Prop where
  ok : BlkOk ck.N ck.sc scope (ownB ck vs)
  sub : ∀ i ∈ tg.slots, i ∈ (ownB ck vs).map (·.2)
  hi : PI X tge iter (tsimI g en Wsh cf false it)
  hg : InBlk X scope fun Y => PG Y tge (tsimG g en tg)
  ht : InBlk X scope fun Y => PTs Y ifs (tsimT g en WN cf c)
  he : InBlk X scope fun Y => PE Y elt (tsim g en WN cf .frz e)
  hs : ∀ x, foldedSetIterable iter X.env x = pure x
def compB (Γ : Gm) (k : Ck) (vs : List Nat) (tg : Tg) (it : It) (c e : E) (elt tge iter : Expr) (ifs : List Expr) (scope : Scope) : Bool :=
  blkB k scope vs && subB tg.slots vs && chI Γ k false it tge iter && chG (k.blk scope) tg tge && ifsB Γ (k.blk scope) c ifs && ch Γ (k.blk scope) e .frz elt && !isSet iter
theorem comp_ok {vs : List Nat} {tg : Tg} {it : It} {c e : E} (hi : SI g en cf Γ k it) (hc : SE g en cf Γ k c) (he : SE g en cf Γ k e) {X : Cx} {ck : Ck} {Wsh : WX} {elt tge iter : Expr} {ifs : List Expr} {scope : Scope} (o : CkOk g X ck (k + 1) Wsh) (h : compB Γ ck vs tg it c e elt tge iter ifs scope = true) : CompOk g en cf Γ k X ck Wsh vs tg it c e elt tge iter ifs scope := by
  obtain ⟨h1, h2⟩ := and_true h
  obtain ⟨h3, h4⟩ := and_true h1
  obtain ⟨h5, h6⟩ := and_true h3
  obtain ⟨h7, h8⟩ := and_true h5
  obtain ⟨h9, h10⟩ := and_true h7
  obtain ⟨h11, h12⟩ := and_true h9
  refine ⟨blk_of h11, ?_, hi X ck Wsh false _ _ o h10, fun s H C cl fp => snd_G tg _ _ _ _ (o.blk s H scope C cl fp) h8, fun s H C cl fp => ifs_of hc (o.blk s H scope C cl fp) h6, fun s H C cl fp => he _ _ _ .frz _ (o.blk s H scope C cl fp) h4, folded_of (not_true h2)⟩
  rw [own_snd]; exact sub_of h12
theorem ch_comp' {vs : List Nat} {tg : Tg} {it : It} {c e : E} {ck : Ck} {m : Mode} {p : Expr} (h : ch Γ ck (.comp vs tg it c e) m p = true) : ∃ elt tge iter ifs scope pos, p = .ListComp elt [⟨tge, iter, ifs, 0⟩] scope pos ∧ compB Γ ck vs tg it c e elt tge iter ifs scope = true := by
  rw [ch_comp] at h
  split at h
  · rename_i elt tge iter ifs scope pos
    refine ⟨elt, tge, iter, ifs, scope, pos, rfl, ?_⟩
    rw [← h]
    unfold compB ifsB
    cases ifs with
    | nil => rfl
    | cons q qs => cases qs <;> rfl
  · cases h
theorem n_comp {vs : List Nat} {tg : Tg} {it : It} {c e : E} (hi : SI g en cf Γ k it) (hc : SE g en cf Γ k c) (he : SE g en cf Γ k e) {X : Cx} {ck : Ck} {Wsh : WX} {m : Mode} {p : Expr} (o : CkOk g X ck (k + 1) Wsh) (h : ch Γ ck (.comp vs tg it c e) m p = true) : PE X p (tsimN g en Wsh cf (.comp vs tg it c e)) := by
  obtain ⟨elt, tge, iter, ifs, scope, pos, ep, hc'⟩ := ch_comp' h
  subst ep
  have K := comp_ok hi hc he o hc'
  have := simN_comp (pos := pos) o.c K.ok K.sub K.hi K.hg K.ht K.he K.hs
  rw [own_snd] at this
  exact this
theorem c_comp {vs : List Nat} {tg : Tg} {it : It} {c e : E} (hi : SI g en cf Γ k it) (hc : SE g en cf Γ k c) (he : SE g en cf Γ k e) : SE g en cf Γ k (.comp vs tg it c e) := by
  intro X ck Wsh m p o h
  have hp : plainT p = true := by
    obtain ⟨_, _, _, _, _, _, ep, _⟩ := ch_comp' h
    subst ep; rfl
  exact .gen o.c.hK (fun m' hm => sim_ofN hm (fun env st => by cases m' <;> first | rfl | cases hm) (n_comp hi hc he o h)) (fun _ _ => rfl) hp
structure Comp2Ok (g : Glob) (en : Ent) (cf : Cf) (Γ : Gm) (k : Nat) (X : Cx) (ck : Ck) (Wsh : WX) (vs : List Nat) (tg : Tg) (it : It) (c : E) (vs2 : List Nat) (tg2 : Tg) (it2 : It) (c2 e : E) (elt tge iter : Expr) (ifs : List Expr) (tge2 iter2 : Expr) (ifs2 : List Expr) (scope : Scope) : Prop where
  ok : BlkOk ck.N ck.sc scope (ownB ck vs)
  hv : ∀ i ∈ vs2, i ∈ (ownB ck vs).map (·.2)
  sub : ∀ i ∈ tg.slots, i ∈ (ownB ck vs).map (·.2)
  sub2 : ∀ i ∈ tg2.slots, i ∈ vs2
  hi : PI X tge iter (tsimI g en Wsh cf false it)
  hg : InBlk X scope fun Y => PG Y tge (tsimG g en tg)
  ht : InBlk X scope fun Y => PTs Y ifs (tsimT g en WN cf c)
  hi2 : InBlk X scope fun Y => PI Y tge2 iter2 (tsimI g en WN cf true it2)
  hg2 : InBlk X scope fun Y => PG Y tge2 (tsimG g en tg2)
  ht2 : InBlk X scope fun Y => PTs Y ifs2 (tsimT g en WN cf c2)
  he : InBlk X scope fun Y => PE Y elt (tsim g en WN cf .frz e)
  hs : ∀ x, foldedSetIterable iter X.env x = pure x
  hs2 : ∀ env x, foldedSetIterable iter2 env x = pure x
def comp2B (Γ : Gm) (k : Ck) (vs : List Nat) (tg : Tg) (it : It) (c : E) (vs2 : List Nat) (tg2 : Tg) (it2 : It) (c2 e : E) (elt tge iter : Expr) (ifs : List Expr) (tge2 iter2 : Expr) (ifs2 : List Expr) (scope : Scope) : Bool :=
  blkB k scope vs && subB tg.slots vs && subB tg2.slots vs2 && subB vs2 vs && chI Γ k false it tge iter && chG (k.blk scope) tg tge && ifsB Γ (k.blk scope) c ifs && chI Γ (k.blk scope) true it2 tge2 iter2 && chG (k.blk scope) tg2 tge2 && ifsB Γ (k.blk scope) c2 ifs2 && ch Γ (k.blk scope) e .frz elt && !isSet iter && !isSet iter2
theorem comp2_ok {vs vs2 : List Nat} {tg tg2 : Tg} {it it2 : It} {c c2 e : E} (hi : SI g en cf Γ k it) (hc : SE g en cf Γ k c) (hi2 : SI g en cf Γ k it2) (hc2 : SE g en cf Γ k c2) (he : SE g en cf Γ k e) {X : Cx} {ck : Ck} {Wsh : WX} {elt tge iter tge2 iter2 : Expr} {ifs ifs2 : List Expr} {scope : Scope} (o : CkOk g X ck (k + 1) Wsh) (h : comp2B Γ ck vs tg it c vs2 tg2 it2 c2 e elt tge iter ifs tge2 iter2 ifs2 scope = true) :
    Comp2Ok g en cf Γ k X ck Wsh vs tg it c vs2 tg2 it2 c2 e elt tge iter ifs tge2 iter2 ifs2 scope := by
  obtain ⟨h, a13⟩ := and_true h
  obtain ⟨h, a12⟩ := and_true h
  obtain ⟨h, a11⟩ := and_true h
  obtain ⟨h, a10⟩ := and_true h
  obtain ⟨h, a9⟩ := and_true h
  obtain ⟨h, a8⟩ := and_true h
  obtain ⟨h, a7⟩ := and_true h
  obtain ⟨h, a6⟩ := and_true h
  obtain ⟨h, a5⟩ := and_true h
  obtain ⟨h, a4⟩ := and_true h
  obtain ⟨h, a3⟩ := and_true h
  obtain ⟨a1, a2⟩ := and_true h
  refine ⟨blk_of a1, ?_, ?_, sub_of a3, hi X ck Wsh false _ _ o a5, fun s H C cl fp => snd_G tg _ _ _ _ (o.blk s H scope C cl fp) a6, fun s H C cl fp => ifs_of hc (o.blk s H scope C cl fp) a7, fun s H C cl fp => hi2 _ _ _ true _ _ (o.blk s H scope C cl fp) a8,
    fun s H C cl fp => snd_G tg2 _ _ _ _ (o.blk s H scope C cl fp) a9, fun s H C cl fp => ifs_of hc2 (o.blk s H scope C cl fp) a10, fun s H C cl fp => he _ _ _ .frz _ (o.blk s H scope C cl fp) a11, folded_of (not_true a12), fun env => folded_of (not_true a13)⟩
  · rw [own_snd]; exact sub_of a4
  · rw [own_snd]; exact sub_of a2
theorem ch_comp2' {vs vs2 : List Nat} {tg tg2 : Tg} {it it2 : It} {c c2 e : E} {ck : Ck} {m : Mode} {p : Expr} (h : ch Γ ck (.comp2 vs tg it c vs2 tg2 it2 c2 e) m p = true) : ∃ elt tge iter ifs tge2 iter2 ifs2 scope pos, p = .ListComp elt [⟨tge, iter, ifs, 0⟩, ⟨tge2, iter2, ifs2, 0⟩] scope pos ∧ comp2B Γ ck vs tg it c vs2 tg2 it2 c2 e elt tge iter ifs tge2 iter2 ifs2 scope = true := by
  rw [ch_comp2] at h
  split at h
  · rename_i elt tge iter ifs tge2 iter2 ifs2 scope pos
    refine ⟨elt, tge, iter, ifs, tge2, iter2, ifs2, scope, pos, rfl, ?_⟩
    rw [← h]
    unfold comp2B ifsB
    cases ifs with
    | nil =>
      cases ifs2 with
      | nil => rfl
      | cons q qs => cases qs <;> rfl
    | cons q qs =>
      cases ifs2 with
      | nil => cases qs <;> rfl
      | cons q2 qs2 => cases qs <;> cases qs2 <;> rfl
  · cases h
theorem n_comp2 {vs vs2 : List Nat} {tg tg2 : Tg} {it it2 : It} {c c2 e : E} (hi : SI g en cf Γ k it) (hc : SE g en cf Γ k c) (hi2 : SI g en cf Γ k it2) (hc2 : SE g en cf Γ k c2) (he : SE g en cf Γ k e) {X : Cx} {ck : Ck} {Wsh : WX} {m : Mode} {p : Expr} (o : CkOk g X ck (k + 1) Wsh) (h : ch Γ ck (.comp2 vs tg it c vs2 tg2 it2 c2 e) m p = true) :
    PE X p (tsimN g en Wsh cf (.comp2 vs tg it c vs2 tg2 it2 c2 e)) := by
  obtain ⟨elt, tge, iter, ifs, tge2, iter2, ifs2, scope, pos, ep, hc'⟩ := ch_comp2' h
  subst ep
  have K := comp2_ok hi hc hi2 hc2 he o hc'
  have := simN_comp2 (pos := pos) o.c K.ok K.hv K.sub K.sub2 K.hi K.hg K.ht K.hi2 K.hg2 K.ht2 K.he K.hs K.hs2
  rw [own_snd] at this
  exact this
theorem c_comp2 {vs vs2 : List Nat} {tg tg2 : Tg} {it it2 : It} {c c2 e : E} (hi : SI g en cf Γ k it) (hc : SE g en cf Γ k c) (hi2 : SI g en cf Γ k it2) (hc2 : SE g en cf Γ k c2) (he : SE g en cf Γ k e) : SE g en cf Γ k (.comp2 vs tg it c vs2 tg2 it2 c2 e) := by
  intro X ck Wsh m p o h
  have hp : plainT p = true := by
    obtain ⟨_, _, _, _, _, _, _, _, _, ep, _⟩ := ch_comp2' h
    subst ep; rfl
  exact .gen o.c.hK (fun m' hm => sim_ofN hm (fun env st => by cases m' <;> first | rfl | cases hm) (n_comp2 hi hc hi2 hc2 he o h)) (fun _ _ => rfl) hp

/-! ### every expression -/
theorem es_nil : SEs g en cf Γ k [] := by
  intro X ck Wsh ps o h
  rw [chEs_nil] at h
  cases ps with
  | nil => exact ⟨sims_nil, rfl, rfl⟩
  | cons _ _ => cases h
theorem es_cons {e : E} {es : List E} (he : SE g en cf Γ k e) (hes : SEs g en cf Γ k es) : SEs g en cf Γ k (e :: es) := by
  intro X ck Wsh ps o h
  rw [chEs_cons] at h
  cases ps with
  | nil => cases h
  | cons p ps =>
    obtain ⟨h1, h2⟩ := and_true h
    obtain ⟨h3, h4⟩ := and_true h1
    obtain ⟨q1, q2, q3⟩ := hes X ck Wsh ps o h2
    exact ⟨sims_cons (he X ck Wsh .frz p o h3) q1 (star_of (not_true h4)), by rw [List.length_cons, List.length_cons, q2], by rw [List.any_cons, not_true h4, q3]; rfl⟩
theorem as_nil : SAs g en cf Γ k [] := by
  intro X ck Wsh ps o h
  rw [chAs_nil] at h
  cases ps with
  | nil => exact ⟨simA_nil, rfl, rfl⟩
  | cons _ _ => cases h
theorem as_cons {e : E} {es : List E} (he : SE g en cf Γ k e) (hes : SAs g en cf Γ k es) : SAs g en cf Γ k (e :: es) := by
  intro X ck Wsh ps o h
  rw [chAs_cons] at h
  cases ps with
  | nil => cases h
  | cons p ps =>
    obtain ⟨h1, h2⟩ := and_true h
    obtain ⟨h3, h4⟩ := and_true h1
    obtain ⟨q1, q2, q3⟩ := hes X ck Wsh ps o h2
    exact ⟨simA_cons (he X ck Wsh .brw p o h3) q1 (star_of (not_true h4)), by rw [List.length_cons, List.length_cons, q2], by rw [List.any_cons, not_true h4, q3]; rfl⟩
theorem chSet_one {ck : Ck} {e : E} {p : Expr} : chSet Γ ck [e] p = (match p with
      | .Call (.Name x _) [.Call (.Name y _) [q] [] _] [] _ => decide (x = "len") && decide (y = "set") && biB Γ ck x && biB Γ ck y && ch Γ ck e .brw q && !isStar q
      | _ => false) := rfl
theorem set_one {e : E} {es : List E} (G : GmOk g Γ cf k) (he : SE g en cf Γ k e) : SSet g en cf Γ k (e :: es) := by
  intro X ck Wsh p o h m hm
  cases es with
  | cons _ _ => cases h
  | nil =>
    rw [chSet_one] at h
    split at h
    · obtain ⟨h, a6⟩ := and_true h
      obtain ⟨h, a5⟩ := and_true h
      obtain ⟨h, a4⟩ := and_true h
      obtain ⟨h, a3⟩ := and_true h
      obtain ⟨a1, a2⟩ := and_true h
      have e1 := of_decide_eq_true a1
      have e2 := of_decide_eq_true a2
      subst e1
      subst e2
      obtain ⟨b1, _, _, b4⟩ := bi_of' G a3
      obtain ⟨d1, _, _, d4⟩ := bi_of' G a4
      exact sim_lenset hm o.c b1 b4 d1 d4 (he X ck Wsh .brw _ o a5) (star_of (not_true a6))
    · cases h
theorem chRg_one {ck : Ck} {tn : Str} {e : E} {p : Expr} : chRg Γ ck tn [e] p = (match p with
      | .Call (.Name x _) [.Call (.Name y _) [q] [] _] [] _ => decide (x = tn) && decide (y = "range") && biB Γ ck x && biB Γ ck y && ch Γ ck e .brw q && !isStar q
      | _ => false) := rfl
theorem rg_one {e : E} {es : List E} (G : GmOk g Γ cf k) (he : SE g en cf Γ k e) : SRg g en cf Γ k (e :: es) := by
  intro X ck Wsh p b tn hb o h m hm
  cases es with
  | cons _ _ => cases h
  | nil =>
    rw [chRg_one] at h
    split at h
    · obtain ⟨h, a6⟩ := and_true h
      obtain ⟨h, a5⟩ := and_true h
      obtain ⟨h, a4⟩ := and_true h
      obtain ⟨h, a3⟩ := and_true h
      obtain ⟨a1, a2⟩ := and_true h
      have e1 := of_decide_eq_true a1
      have e2 := of_decide_eq_true a2
      subst e1
      subst e2
      obtain ⟨b1, _, _, b4⟩ := bi_of' G a3
      obtain ⟨d1, _, _, d4⟩ := bi_of' G a4
      exact sim_lrange hb hm o.c b1 b4 d1 d4 (he X ck Wsh .brw _ o a5) (star_of (not_true a6))
    · cases h
theorem and_no {e : E} (h : ∀ a b, e ≠ .and a b) : SAnd g en cf Γ k e := by
  intro X ck Wsh y z rest pos o
  constructor
  · intro q
    cases e <;> first | (exact absurd rfl (h _ _)) | cases q
  · intro q
    cases e <;> first | (exact absurd rfl (h _ _)) | cases q
theorem or_no {e : E} (h : ∀ a b, e ≠ .or a b) : SOr g en cf Γ k e := by
  intro X ck Wsh y z rest pos o
  constructor
  · intro q
    cases e <;> first | (exact absurd rfl (h _ _)) | cases q
  · intro q
    cases e <;> first | (exact absurd rfl (h _ _)) | cases q
theorem meth_no {c f : Nat} {a : E} {es : List E} : SE g en cf Γ k (.meth c f a es) := by
  intro X ck Wsh m p o h
  cases h
mutual
theorem snd_E (G : GmOk g Γ cf k) : ∀ e : E, SE g en cf Γ k e ∧ SAnd g en cf Γ k e ∧ SOr g en cf Γ k e
  | .var i => ⟨fun X ck Wsh m p o h => snd_var o h, and_no (by simp), or_no (by simp)⟩
  | .peek i => ⟨fun X ck Wsh m p o h => snd_peek o h, and_no (by simp), or_no (by simp)⟩
  | .cst d => ⟨fun X ck Wsh m p o h => snd_cst o h, and_no (by simp), or_no (by simp)⟩
  | .glo j => ⟨fun X ck Wsh m p o h => snd_glo o G h, and_no (by simp), or_no (by simp)⟩
  | .tup es => ⟨c_tup (snd_Es G es).1, and_no (by simp), or_no (by simp)⟩
  | .lst es => ⟨c_lst (snd_Es G es).1, and_no (by simp), or_no (by simp)⟩
  | .cell es => ⟨c_cell (snd_Es G es).1, and_no (by simp), or_no (by simp)⟩
  | .bin o a b => ⟨c_bin (snd_E G a).1 (snd_E G b).1, and_no (by simp), or_no (by simp)⟩
  | .neg a => ⟨c_neg (snd_E G a).1, and_no (by simp), or_no (by simp)⟩
  | .cmp o a b => ⟨c_cmp (snd_E G a).1 (snd_E G b).1, and_no (by simp), or_no (by simp)⟩
  | .chain o o' a b c => ⟨c_chain (snd_E G a).1 (snd_E G b).1 (snd_E G c).1, and_no (by simp), or_no (by simp)⟩
  | .and a b => ⟨c_and (snd_E G a).1 (snd_E G b).1 (snd_E G b).2.1, l_and (snd_E G a).1 (snd_E G b).1 (snd_E G b).2.1, or_no (by simp)⟩
  | .or a b => ⟨c_or (snd_E G a).1 (snd_E G b).1 (snd_E G b).2.2, and_no (by simp), l_or (snd_E G a).1 (snd_E G b).1 (snd_E G b).2.2⟩
  | .not a => ⟨c_not (snd_E G a).1, and_no (by simp), or_no (by simp)⟩
  | .ife t a b => ⟨c_ife (snd_E G t).1 (snd_E G a).1 (snd_E G b).1, and_no (by simp), or_no (by simp)⟩
  | .call f es => ⟨c_call G (snd_Es G es).1, and_no (by simp), or_no (by simp)⟩
  | .meth _ _ _ _ => ⟨meth_no, and_no (by simp), or_no (by simp)⟩
  | .mk c es => ⟨c_mk G (snd_Es G es).1, and_no (by simp), or_no (by simp)⟩
  | .mkm c es => ⟨c_mkm G (snd_Es G es).1, and_no (by simp), or_no (by simp)⟩
  | .app b es => ⟨c_app G (snd_Es G es).2.1 (snd_Es G es).2.2.1 (snd_Es G es).2.2.2, and_no (by simp), or_no (by simp)⟩
  | .isi a ts => ⟨c_isi G (snd_E G a).1, and_no (by simp), or_no (by simp)⟩
  | .fld a j => ⟨c_fld G (snd_E G a).1, and_no (by simp), or_no (by simp)⟩
  | .idx a b => ⟨c_idx (snd_E G a).1 (snd_E G b).1, and_no (by simp), or_no (by simp)⟩
  | .slc l h a lo hi => ⟨c_slc (snd_E G a).1 (snd_E G lo).1 (snd_E G hi).1, and_no (by simp), or_no (by simp)⟩
  | .rev a => ⟨c_rev (snd_E G a).1, and_no (by simp), or_no (by simp)⟩
  | .oeq ne c f a b => ⟨c_oeq G (snd_E G a).1 (snd_E G b).1, and_no (by simp), or_no (by simp)⟩
  | .comp vs tg it c e => ⟨c_comp (snd_I G it) (snd_E G c).1 (snd_E G e).1, and_no (by simp), or_no (by simp)⟩
  | .comp2 vs tg it c vs2 tg2 it2 c2 e => ⟨c_comp2 (snd_I G it) (snd_E G c).1 (snd_I G it2) (snd_E G c2).1 (snd_E G e).1, and_no (by simp), or_no (by simp)⟩
theorem snd_Es (G : GmOk g Γ cf k) : ∀ es : List E, SEs g en cf Γ k es ∧ SAs g en cf Γ k es ∧ SSet g en cf Γ k es ∧ SRg g en cf Γ k es
  | [] => ⟨es_nil, as_nil, fun X ck Wsh p o h => (by cases h), fun X ck Wsh p b tn hb o h => (by cases h)⟩
  | e :: es => ⟨es_cons (snd_E G e).1 (snd_Es G es).1, as_cons (snd_E G e).1 (snd_Es G es).2.1, set_one G (snd_E G e).1, rg_one G (snd_E G e).1⟩
theorem snd_I (G : GmOk g Γ cf k) : ∀ it : It, SI g en cf Γ k it
  | .seq b e => i_seq (snd_E G e).1
  | .rng1 e => i_rng1 G (snd_E G e).1
  | .rng2 a b => i_rng2 G (snd_E G a).1 (snd_E G b).1
  | .enum b e => i_enum G (snd_E G e).1
  | .zip a b => i_zip G (snd_E G a).1 (snd_E G b).1
end
end
end Bp
set_option Elab.async false
set_option linter.all false
set_option maxRecDepth 100000
set_option maxHeartbeats 1000000
/-! BpSS: the checker on statements, and its word. -/
namespace Bp
open PySem PySem.Spec PyProof.Rows L2
def swB (k : Ck) (y : Str) (py : Pos) : Expr → Bool
  | .ListComp _ _ scope p => kindB k y .local && py.line == p.line && !(scope.names.any fun (n, q) => n == y && (q == .local || q == .cell))
  | _ => false
def chL (Γ : Gm) (k : Ck) (e : E) (v : Expr) : Bool := match e with
  | .lst es => (match v with
    | .List ps _ => chEs Γ k es ps
    | _ => false)
  | _ => false
def chN (Γ : Gm) (k : Ck) (e : E) (v : Expr) : Bool := match e with
  | .lst es => (match v with
    | .List ps _ => chEs Γ k es ps
    | _ => false)
  | .comp vs tg it c e => ch Γ k (.comp vs tg it c e) .frz v
  | .comp2 vs tg it c vs2 tg2 it2 c2 e => ch Γ k (.comp2 vs tg it c vs2 tg2 it2 c2 e) .frz v
  | .ife t a b => (match v with
    | .IfExp x y z _ => ch Γ k t .tst x && chL Γ k a y && chL Γ k b z
    | _ => false)
  | _ => false
def storesB (t v : Expr) : Bool := !isTupE v || (match t with
  | .Tuple ts _ _ => (match v with
    | .Tuple es _ _ => !(ts.length == 2 || ts.length == 3) || es.all (foldedForSure 8)
    | _ => false)
  | _ => false)
def isIdx : Expr → Bool
  | .Tuple _ _ _ => true
  | _ => false
/-- a list's method: its name, its receiver, its arguments -/
def methS : Stmt → Option (Expr × Str × List Expr × Bool)
  | .Expr (.Call (.Attribute x mn apos) qs [] cpos) _ => some (x, mn, qs, apos.endLine == cpos.line)
  | _ => none
mutual
def chS (Γ : Gm) (k : Ck) : S → Stmt → Bool
  | .asg t e, p => (match p with
    | .Assign [tge] v _ => (match t with
      | .slot i => (match tge with
        | .Name y _ => locB k i y && ch Γ k e .frz v
        | _ => false)
      | .tup ts => chG k (.tup ts) tge && ch Γ k e .frz v && !isComp v && storesB tge v && isTupE tge)
    | _ => false)
  | .own i e, p => (match p with
    | .Assign [.Name y _] v _ => locB k i y && chN Γ k e v
    | _ => false)
  | .push i e, p => (match p with
    | .Expr (.Call (.Attribute (.Name x _) mn apos) [q] [] cpos) _ => decide (mn = "append") && slotB k i x && ch Γ k e .frz q && !isStar q && apos.endLine == cpos.line
    | _ => false)
  | .ext i e, p => (match p with
    | .Expr (.Call (.Attribute (.Name x _) mn apos) [q] [] cpos) _ => decide (mn = "extend") && slotB k i x && ch Γ k e .frz q && !isStar q && apos.endLine == cpos.line
    | _ => false)
  | .ins i a e, p => (match p with
    | .Expr (.Call (.Attribute (.Name x _) mn apos) [r, q] [] cpos) _ => decide (mn = "insert") && slotB k i x && ch Γ k a .frz r && ch Γ k e .frz q && !isStar r && !isStar q && apos.endLine == cpos.line
    | _ => false)
  | .seti i a e, p => (match p with
    | .Assign [.Subscript (.Name x _) r _] v _ => slotB k i x && ch Γ k a .frz r && ch Γ k e .frz v && !isSlice r
    | _ => false)
  | .cset o a e, p => (match p with
    | .Assign [.Subscript x r _] v _ => ch Γ k o .frz x && ch Γ k a .frz r && ch Γ k e .frz v && !isSlice r
    | _ => false)
  | .fset o j e, p => (match p with
    | .Assign [.Attribute x f _] v _ => ch Γ k o .frz x && decide (Γ.at_.lookup f = some j) && ch Γ k e .frz v
    | _ => false)
  | .cpush o e, p => (match p with
    | .Expr (.Call (.Attribute x mn apos) [q] [] cpos) _ => decide (mn = "append") && ch Γ k o .frz x && !superLike x && ch Γ k e .frz q && !isStar q && apos.endLine == cpos.line
    | _ => false)
  | .ex e, p => (match p with
    | .Expr v _ => ch Γ k e .frz v && !isComp v
    | _ => false)
  | .iff t a b, p => (match p with
    | .If x ss ts _ => ch Γ k t .tst x && chSs Γ k a ss && chSs Γ k b ts
    | _ => false)
  | .whl t b, p => (match p with
    | .While x ss [] _ => ch Γ k t .tst x && chSs Γ k b ss
    | _ => false)
  | .for_ tg it b, p => (match p with
    | .For t i ss [] _ => chI Γ k true it t i && chG k tg t && chSs Γ k b ss && !isSet i
    | _ => false)
  | .ret e, p => (match p with
    | .Return (some v) _ => ch Γ k e .frz v
    | _ => false)
  | .retN, p => (match p with
    | .Return none _ => true
    | _ => false)
  | .brk, p => (match p with
    | .Break _ => true
    | _ => false)
  | .pas, p => (match p with
    | .Pass _ => true
    | .Expr (.Constant (.str _) _ _) _ => true
    | _ => false)
  | .nev, _ => true
  | .rais c e, p => (match p with
    | .Raise (some (.Call (.Name x _) [q] [] _)) none _ => gloB k x && decide (Γ.er.lookup x = some c) && ch Γ k e .frz q && !isStar q
    | _ => false)
  | .frz _, _ => false
  | .par is es, p => (match is with
    | [i, j] => (match p with
      | .Assign [.Tuple [.Name x px, .Name y py] _ _] (.Tuple [a, b] _ _) _ => decide (i ≠ j) && decide (k.N[i]? = some x) && decide (k.N[j]? = some y) && kindB k x .local && kindB k y .local && py.line == px.line && decide (x ≠ y) && !isStar a && !isStar b && !(foldedForSure 8 a && foldedForSure 8 b) && !(constantsAlone 8 a && constantsAlone 8 b) && chEs Γ k es [a, b]
      | _ => false)
    | _ => false)
  | .tri b i c tag, p => (match p with
    | .Try body [.ExceptHandler (some (.Name x _)) (some y) [.Return (some (.Tuple [.Constant (.str tg) _ _, .Attribute (.Name z _) f _] _ _)) _] _] [] [] _ =>
      gloB k x && decide (Γ.er.lookup x = some c) && decide (Γ.ef.lookup c = some f) && decide (k.N[i]? = some y) && kindB k y .local && dbgB y && decide (i < k.N.length) && decide (tg = tag) && decide (z = y) && chSs Γ k b body
    | _ => false)
def chSs (Γ : Gm) (k : Ck) : List S → List Stmt → Bool
  | [], ps => ps.isEmpty
  | s :: ss, ps => (match s with
    | .frz _ => chSs Γ k ss ps
    | _ => (match ps with
      | p :: ps => chS Γ k s p && chSs Γ k ss ps
      | [] => false))
end

theorem chS_asg {Γ : Gm} {k : Ck} {t : Tg} {e : E} {p : Stmt} : chS Γ k (.asg t e) p = ((match p with
    | .Assign [tge] v _ => (match t with
      | .slot i => (match tge with
        | .Name y _ => locB k i y && ch Γ k e .frz v
        | _ => false)
      | .tup ts => chG k (.tup ts) tge && ch Γ k e .frz v && !isComp v && storesB tge v && isTupE tge)
    | _ => false)) := rfl
theorem chS_own {Γ : Gm} {k : Ck} {i : Nat} {e : E} {p : Stmt} : chS Γ k (.own i e) p = ((match p with
    | .Assign [.Name y _] v _ => locB k i y && chN Γ k e v
    | _ => false)) := rfl
theorem chS_push {Γ : Gm} {k : Ck} {i : Nat} {e : E} {p : Stmt} : chS Γ k (.push i e) p = ((match p with
    | .Expr (.Call (.Attribute (.Name x _) mn apos) [q] [] cpos) _ => decide (mn = "append") && slotB k i x && ch Γ k e .frz q && !isStar q && apos.endLine == cpos.line
    | _ => false)) := rfl
theorem chS_ext {Γ : Gm} {k : Ck} {i : Nat} {e : E} {p : Stmt} : chS Γ k (.ext i e) p = ((match p with
    | .Expr (.Call (.Attribute (.Name x _) mn apos) [q] [] cpos) _ => decide (mn = "extend") && slotB k i x && ch Γ k e .frz q && !isStar q && apos.endLine == cpos.line
    | _ => false)) := rfl
theorem chS_ins {Γ : Gm} {k : Ck} {i : Nat} {a e : E} {p : Stmt} : chS Γ k (.ins i a e) p = ((match p with
    | .Expr (.Call (.Attribute (.Name x _) mn apos) [r, q] [] cpos) _ => decide (mn = "insert") && slotB k i x && ch Γ k a .frz r && ch Γ k e .frz q && !isStar r && !isStar q && apos.endLine == cpos.line
    | _ => false)) := rfl
theorem chS_seti {Γ : Gm} {k : Ck} {i : Nat} {a e : E} {p : Stmt} : chS Γ k (.seti i a e) p = ((match p with
    | .Assign [.Subscript (.Name x _) r _] v _ => slotB k i x && ch Γ k a .frz r && ch Γ k e .frz v && !isSlice r
    | _ => false)) := rfl
theorem chS_cset {Γ : Gm} {k : Ck} {o a e : E} {p : Stmt} : chS Γ k (.cset o a e) p = ((match p with
    | .Assign [.Subscript x r _] v _ => ch Γ k o .frz x && ch Γ k a .frz r && ch Γ k e .frz v && !isSlice r
    | _ => false)) := rfl
theorem chS_fset {Γ : Gm} {k : Ck} {o : E} {j : Nat} {e : E} {p : Stmt} : chS Γ k (.fset o j e) p = ((match p with
    | .Assign [.Attribute x f _] v _ => ch Γ k o .frz x && decide (Γ.at_.lookup f = some j) && ch Γ k e .frz v
    | _ => false)) := rfl
theorem chS_cpush {Γ : Gm} {k : Ck} {o e : E} {p : Stmt} : chS Γ k (.cpush o e) p = ((match p with
    | .Expr (.Call (.Attribute x mn apos) [q] [] cpos) _ => decide (mn = "append") && ch Γ k o .frz x && !superLike x && ch Γ k e .frz q && !isStar q && apos.endLine == cpos.line
    | _ => false)) := rfl
theorem chS_ex {Γ : Gm} {k : Ck} {e : E} {p : Stmt} : chS Γ k (.ex e) p = ((match p with
    | .Expr v _ => ch Γ k e .frz v && !isComp v
    | _ => false)) := rfl
theorem chS_iff {Γ : Gm} {k : Ck} {t : E} {a b : List S} {p : Stmt} : chS Γ k (.iff t a b) p = ((match p with
    | .If x ss ts _ => ch Γ k t .tst x && chSs Γ k a ss && chSs Γ k b ts
    | _ => false)) := rfl
theorem chS_whl {Γ : Gm} {k : Ck} {t : E} {b : List S} {p : Stmt} : chS Γ k (.whl t b) p = ((match p with
    | .While x ss [] _ => ch Γ k t .tst x && chSs Γ k b ss
    | _ => false)) := rfl
theorem chS_for_ {Γ : Gm} {k : Ck} {tg : Tg} {it : It} {b : List S} {p : Stmt} : chS Γ k (.for_ tg it b) p = ((match p with
    | .For t i ss [] _ => chI Γ k true it t i && chG k tg t && chSs Γ k b ss && !isSet i
    | _ => false)) := rfl
theorem chS_ret {Γ : Gm} {k : Ck} {e : E} {p : Stmt} : chS Γ k (.ret e) p = ((match p with
    | .Return (some v) _ => ch Γ k e .frz v
    | _ => false)) := rfl
theorem chS_retN {Γ : Gm} {k : Ck}  {p : Stmt} : chS Γ k (.retN) p = ((match p with
    | .Return none _ => true
    | _ => false)) := rfl
theorem chS_brk {Γ : Gm} {k : Ck}  {p : Stmt} : chS Γ k (.brk) p = ((match p with
    | .Break _ => true
    | _ => false)) := rfl
theorem chS_pas {Γ : Gm} {k : Ck}  {p : Stmt} : chS Γ k (.pas) p = ((match p with
    | .Pass _ => true
    | .Expr (.Constant (.str _) _ _) _ => true
    | _ => false)) := rfl
theorem chS_rais {Γ : Gm} {k : Ck} {c : Nat} {e : E} {p : Stmt} : chS Γ k (.rais c e) p = ((match p with
    | .Raise (some (.Call (.Name x _) [q] [] _)) none _ => gloB k x && decide (Γ.er.lookup x = some c) && ch Γ k e .frz q && !isStar q
    | _ => false)) := rfl
theorem chS_par {Γ : Gm} {k : Ck} {is : List Nat} {es : List E} {p : Stmt} : chS Γ k (.par is es) p = ((match is with
    | [i, j] => (match p with
      | .Assign [.Tuple [.Name x px, .Name y py] _ _] (.Tuple [a, b] _ _) _ => decide (i ≠ j) && decide (k.N[i]? = some x) && decide (k.N[j]? = some y) && kindB k x .local && kindB k y .local && py.line == px.line && decide (x ≠ y) && !isStar a && !isStar b && !(foldedForSure 8 a && foldedForSure 8 b) && !(constantsAlone 8 a && constantsAlone 8 b) && chEs Γ k es [a, b]
      | _ => false)
    | _ => false)) := rfl
theorem chS_tri {Γ : Gm} {k : Ck} {b : List S} {i c : Nat} {tag : Str} {p : Stmt} : chS Γ k (.tri b i c tag) p = ((match p with
    | .Try body [.ExceptHandler (some (.Name x _)) (some y) [.Return (some (.Tuple [.Constant (.str tg) _ _, .Attribute (.Name z _) f _] _ _)) _] _] [] [] _ =>
      gloB k x && decide (Γ.er.lookup x = some c) && decide (Γ.ef.lookup c = some f) && decide (k.N[i]? = some y) && kindB k y .local && dbgB y && decide (i < k.N.length) && decide (tg = tag) && decide (z = y) && chSs Γ k b body
    | _ => false)) := rfl
end Bp
set_option Elab.async false
set_option linter.all false
set_option maxRecDepth 100000
set_option maxHeartbeats 1000000
/-! BpSS2: the checker's word on statements. -/
namespace Bp
open PySem PySem.Spec PyProof.Rows L2
structure CkS (g : Glob) (X : Cx) (ck : Ck) (k : Nat) (Wsh : WX) : Prop where
  c : CkOk g X ck k Wsh
  po : PassesOwn (model X.prog X.w) X.A X.env X.xe
  hs : X.stack = X.env :: X.outer
  hf : X.env.frame = some X.env.locals
  kind : ck.sc.kind = .function
theorem CkS.tr {g : Glob} {X : Cx} {ck : Ck} {k : Nat} {Wsh W : WX} {pn : List (Addr × PySem.Obj)} {xe : Value → Shared → Prop} (o : CkS g X ck k Wsh) (tk : Takes (X.tr pn xe) W) (po : PassesOwn (model X.prog X.w) X.A X.env xe) : CkS g (X.tr pn xe) ck k W :=
  ⟨⟨⟨o.c.c.hP, o.c.c.hw, o.c.c.hK, o.c.c.hmg, o.c.c.hbase, o.c.c.hcalm, o.c.c.hN, o.c.c.hnd, o.c.c.hsc, o.c.c.hroom, tk⟩, o.c.fn⟩, po, o.hs, o.hf, o.kind⟩
section
variable (g : Glob) (en : Ent) (cf : Cf) (Γ : Gm) (k : Nat)
def SS (s : S) : Prop := ∀ (X : Cx) (ck : Ck) (Wsh : WX) (p : Stmt), CkS g X ck (k + 1) Wsh → chS Γ ck s p = true → PS X p (tsimS g en ck.N.length Wsh cf s)
def SSs (ss : List S) : Prop := ∀ (X : Cx) (ck : Ck) (Wsh : WX) (ps : List Stmt), CkS g X ck (k + 1) Wsh → chSs Γ ck ss ps = true → PSs X ps (tsimSs g en ck.N.length Wsh cf ss)
end
section
variable {g : Glob} {en : Ent} {cf : Cf} {Γ : Gm} {k : Nat} {X : Cx} {ck : Ck} {Wsh : WX}
theorem swB_eq (o : CkS g X ck k Wsh) {y : Str} {py : Pos} {l : Nat} {elt : Expr} {gs : List Comprehension} {scope : Scope} {p : Pos} : swapsWith (.ListComp elt gs scope p) (some (.Name y py)) l X.env = pure (swB ck y py (.ListComp elt gs scope p)) := by
  rw [sw_eq]
  have hb : X.env.blockKind = .function := by unfold PySem.Env.blockKind; rw [o.c.c.hsc, o.kind]; rfl
  have hk : X.env.kindOf y = ck.sc.names.lookup y := by show X.env.scope.names.lookup y = _; rw [o.c.c.hsc]
  rw [hb, hk]
  rfl
theorem sw_false (o : CkS g X ck k Wsh) {y : Str} {py : Pos} {l : Nat} {v : Expr} (h : swB ck y py v = false) (hv : isComp v = false ∨ ∃ elt gs scope p, v = .ListComp elt gs scope p) : swapsWith v (some (.Name y py)) l X.env = pure false := by
  rcases hv with hv | ⟨elt, gs, scope, p, e⟩
  · exact swaps_no hv
  · subst e
    rw [swB_eq o, h]
theorem loc_parts (o : CkS g X ck k Wsh) {i : Nat} {y : Str} (h : locB ck i y = true) : X.N.Nodup ∧ X.N[i]? = some y ∧ Loc X.env.scope y ∧ (X.fn y = true ∨ X.env.scope.names.lookup y = some .local) := by
  obtain ⟨h1, h2, h3, _, _⟩ := loc_of o.c h
  exact ⟨by rw [o.c.c.hN]; exact o.c.c.hnd, by rw [o.c.c.hN]; exact h1, by rw [o.c.c.hsc]; exact h2, by rw [o.c.c.hsc]; exact h3⟩
/-- name = a new list -/
theorem set_new (G : GmOk g Γ cf k) {e : E} {i : Nat} {y : Str} {py pos : Pos} {v : Expr} (o : CkS g X ck (k + 1) Wsh) (hl : locB ck i y = true) (h : chN Γ ck e v = true) : PS X (.Assign [.Name y py] v pos) (tAsg (tsimN g en Wsh cf e) (gName i)) := by
  obtain ⟨n1, n2, n3, n4⟩ := loc_parts o hl
  have hN : ck.N[i]? = some y := (loc_of o.c hl).1
  cases e <;> (try (cases h; done))
  · rename_i es
    cases v <;> (try (cases h; done))
    exact ps_set n1 n2 n3 (simN_lst ((snd_Es G es).1 X ck Wsh _ o.c h).1) (swaps_no rfl) n4
  · rename_i t a b
    cases v <;> (try (cases h; done))
    rename_i x y' z pos'
    have h : (ch Γ ck t .tst x && chL Γ ck a y' && chL Γ ck b z) = true := h
    obtain ⟨h1, h2⟩ := and_true h
    obtain ⟨h3, h4⟩ := and_true h1
    have hn : ∀ (e : E) (w : Expr), chL Γ ck e w = true → PE X w (tsimN g en Wsh cf e) := fun e w hw => by
      cases e <;> (try (cases hw; done))
      cases w <;> (try (cases hw; done))
      exact simN_lst ((snd_Es G _).1 X ck Wsh _ o.c hw).1
    exact ps_set n1 n2 n3 (simN_ife ((snd_E G t).1 X ck Wsh .tst _ o.c h3) (hn a y' h4) (hn b z h2)) (swaps_no rfl) n4
  · rename_i vs tg it c e
    have h : ch Γ ck (.comp vs tg it c e) .frz v = true := h
    obtain ⟨elt, tge, iter, ifs, scope, p, ep, hc⟩ := ch_comp' h
    cases hs : swB ck y py v with
    | false => exact ps_set n1 n2 n3 (n_comp (snd_I G it) (snd_E G c).1 (snd_E G e).1 o.c h) (sw_false o hs (.inr ⟨_, _, _, _, ep⟩)) n4
    | true =>
      subst ep
      have K := comp_ok (snd_I G it) (snd_E (en := en) G c).1 (snd_E G e).1 o.c hc
      have hy : ck.sc.names.lookup y = some .local := kind_of (and_true (and_true hs).1).1
      have := simS_comp (i := i) (y := y) (py := py) (pos := p) (spos := pos) o.c.c hN hy K.ok K.sub (by rw [swB_eq o, hs]) K.hi K.hg K.ht K.he K.hs
      rw [own_snd] at this
      exact this
  · rename_i vs tg it c vs2 tg2 it2 c2 e
    have h : ch Γ ck (.comp2 vs tg it c vs2 tg2 it2 c2 e) .frz v = true := h
    obtain ⟨elt, tge, iter, ifs, tge2, iter2, ifs2, scope, p, ep, hc⟩ := ch_comp2' h
    cases hs : swB ck y py v with
    | false => exact ps_set n1 n2 n3 (n_comp2 (snd_I G it) (snd_E G c).1 (snd_I G it2) (snd_E G c2).1 (snd_E G e).1 o.c h) (sw_false o hs (.inr ⟨_, _, _, _, ep⟩)) n4
    | true =>
      subst ep
      have K := comp2_ok (snd_I G it) (snd_E (en := en) G c).1 (snd_I G it2) (snd_E G c2).1 (snd_E G e).1 o.c hc
      have hy : ck.sc.names.lookup y = some .local := kind_of (and_true (and_true hs).1).1
      have := simS_comp2 (i := i) (y := y) (py := py) (pos := p) (spos := pos) o.c.c hN hy K.ok K.hv K.sub K.sub2 (by rw [swB_eq o, hs]) K.hi K.hg K.ht K.hi2 K.hg2 K.ht2 K.he K.hs K.hs2
      rw [own_snd] at this
      exact this
theorem no_app {b : Bi} {es : List E} {m : Mode} {v : Expr} (h : ch Γ ck (.app b es) m v = true) (hv : isComp v = true) : False := by
  have one : ∀ (e : E) (es : List E) (P : Expr → Bool), P v = true → (∀ v, isComp v = true → P v = false) → False := fun e es P h1 h2 => by
    rw [h2 v hv] at h1; cases h1
  rw [ch_app] at h
  split at h
  · cases es with
    | nil => cases h
    | cons e es =>
      cases es with
      | nil => cases v <;> first | (cases hv; done) | (cases h; done)
      | cons _ _ => cases h
  · cases es with
    | nil => cases h
    | cons e es =>
      cases es with
      | nil => cases v <;> first | (cases hv; done) | (cases h; done)
      | cons _ _ => cases h
  · cases es with
    | nil => cases h
    | cons e es =>
      cases es with
      | nil => cases v <;> first | (cases hv; done) | (cases h; done)
      | cons _ _ => cases h
  · cases v <;> first | (cases hv; done) | (cases h; done)
theorem comp_form {e : E} {m : Mode} {v : Expr} (h : ch Γ ck e m v = true) (hv : isComp v = true) : chN Γ ck e v = true := by
  cases e with
  | app b es => exact (no_app h hv).elim
  | comp vs tg it c e =>
    show ch Γ ck (.comp vs tg it c e) .frz v = true
    rw [ch_comp] at h ⊢
    exact h
  | comp2 vs tg it c vs2 tg2 it2 c2 e =>
    show ch Γ ck (.comp2 vs tg it c vs2 tg2 it2 c2 e) .frz v = true
    rw [ch_comp2] at h ⊢
    exact h
  | _ => cases v <;> first | (cases hv; done) | (cases h; done)
/-- name = a value -/
theorem set_val (G : GmOk g Γ cf k) {e : E} {i : Nat} {y : Str} {py pos : Pos} {v : Expr} (o : CkS g X ck (k + 1) Wsh) (hl : locB ck i y = true) (h : ch Γ ck e .frz v = true) : PS X (.Assign [.Name y py] v pos) (tAsg (tsim g en Wsh cf .frz e) (gName i)) := by
  obtain ⟨n1, n2, n3, n4⟩ := loc_parts o hl
  cases hv : isComp v with
  | false => exact ps_set n1 n2 n3 ((snd_E G e).1 X ck Wsh .frz v o.c h) (swaps_no hv) n4
  | true => exact PS.frzN (set_new G o hl (comp_form h hv))

/-! ### cases -/
theorem s_asg (G : GmOk g Γ cf k) {t : Tg} {e : E} : SS g en cf Γ k (.asg t e) := by
  intro X ck Wsh p o h
  rw [chS_asg] at h
  split at h
  · rename_i tge v pos
    split at h
    · rename_i i
      split at h
      · obtain ⟨h1, h2⟩ := and_true h
        exact simS_asgN (set_val G o h1 h2)
      · cases h
    · rename_i ts
      obtain ⟨h, h5⟩ := and_true h
      obtain ⟨h, h4⟩ := and_true h
      obtain ⟨h, h3⟩ := and_true h
      obtain ⟨h1, h2⟩ := and_true h
      have hnc := not_true h3
      have hst : swappedStores [tge] v X.env = pure none := by
        rcases Bool.or_eq_true_iff.mp h4 with q | q
        · exact stores_no (not_true q)
        · cases tge <;> (try (cases h5; done))
          cases v <;> (try (cases q; done))
          exact stores_fold q
      have he : (assignEach [tge] X.env).map (·.2) = [assign tge X.env] := by
        cases tge <;> first | rfl | (cases h5; done)
      exact simS_asg (ps_asg ((snd_E G e).1 X ck Wsh .frz v o.c h2) (snd_G (.tup ts) X ck Wsh tge o.c h1) (swapsSole_no hnc) hst he)
  · cases h
theorem s_own (G : GmOk g Γ cf k) {i : Nat} {e : E} : SS g en cf Γ k (.own i e) := by
  intro X ck Wsh p o h
  rw [chS_own] at h
  split at h
  · obtain ⟨h1, h2⟩ := and_true h
    exact simS_own (set_new G o h1 h2)
  · cases h
theorem s_push (G : GmOk g Γ cf k) {i : Nat} {e : E} : SS g en cf Γ k (.push i e) := by
  intro X ck Wsh p o h
  rw [chS_push] at h
  split at h
  · obtain ⟨h, h5⟩ := and_true h
    obtain ⟨h, h4⟩ := and_true h
    obtain ⟨h, h3⟩ := and_true h
    obtain ⟨h1, h2⟩ := and_true h
    have e1 := of_decide_eq_true h1
    subst e1
    obtain ⟨q1, q2, q3, q4⟩ := slot_of h2
    exact simS_push o.c.c q1 q2 q3 q4 ((snd_E G e).1 X ck Wsh .frz _ o.c h3) (star_of (not_true h4)) h5
  · cases h
theorem s_ext (G : GmOk g Γ cf k) {i : Nat} {e : E} : SS g en cf Γ k (.ext i e) := by
  intro X ck Wsh p o h
  rw [chS_ext] at h
  split at h
  · obtain ⟨h, h5⟩ := and_true h
    obtain ⟨h, h4⟩ := and_true h
    obtain ⟨h, h3⟩ := and_true h
    obtain ⟨h1, h2⟩ := and_true h
    have e1 := of_decide_eq_true h1
    subst e1
    obtain ⟨q1, q2, q3, q4⟩ := slot_of h2
    exact simS_ext o.c.c q1 q2 q3 q4 ((snd_E G e).1 X ck Wsh .frz _ o.c h3) (star_of (not_true h4)) h5
  · cases h
theorem s_ins (G : GmOk g Γ cf k) {i : Nat} {a e : E} : SS g en cf Γ k (.ins i a e) := by
  intro X ck Wsh p o h
  rw [chS_ins] at h
  split at h
  · obtain ⟨h, h7⟩ := and_true h
    obtain ⟨h, h6⟩ := and_true h
    obtain ⟨h, h5⟩ := and_true h
    obtain ⟨h, h4⟩ := and_true h
    obtain ⟨h, h3⟩ := and_true h
    obtain ⟨h1, h2⟩ := and_true h
    have e1 := of_decide_eq_true h1
    subst e1
    obtain ⟨q1, q2, q3, q4⟩ := slot_of h2
    exact simS_ins o.c.c q1 q2 q3 q4 ((snd_E G a).1 X ck Wsh .frz _ o.c h3) ((snd_E G e).1 X ck Wsh .frz _ o.c h4) (star_of (not_true h5)) (star_of (not_true h6)) h7
  · cases h
theorem s_seti (G : GmOk g Γ cf k) {i : Nat} {a e : E} : SS g en cf Γ k (.seti i a e) := by
  intro X ck Wsh p o h
  rw [chS_seti] at h
  split at h
  · obtain ⟨h, h4⟩ := and_true h
    obtain ⟨h, h3⟩ := and_true h
    obtain ⟨h1, h2⟩ := and_true h
    obtain ⟨q1, q2, q3, q4⟩ := slot_of h1
    exact simS_seti o.c.c q1 q2 q3 q4 ((snd_E G a).1 X ck Wsh .frz _ o.c h2) ((snd_E G e).1 X ck Wsh .frz _ o.c h3) (sub_form (not_true h4))
  · cases h
theorem s_cset (G : GmOk g Γ cf k) {ob a e : E} : SS g en cf Γ k (.cset ob a e) := by
  intro X ck Wsh p o h
  rw [chS_cset] at h
  split at h
  · obtain ⟨h, h4⟩ := and_true h
    obtain ⟨h, h3⟩ := and_true h
    obtain ⟨h1, h2⟩ := and_true h
    exact simS_cset ((snd_E G ob).1 X ck Wsh .frz _ o.c h1) ((snd_E G a).1 X ck Wsh .frz _ o.c h2) ((snd_E G e).1 X ck Wsh .frz _ o.c h3) (sub_form (not_true h4))
  · cases h
theorem s_fset (G : GmOk g Γ cf k) {ob : E} {j : Nat} {e : E} : SS g en cf Γ k (.fset ob j e) := by
  intro X ck Wsh p o h
  rw [chS_fset] at h
  split at h
  · obtain ⟨h, h3⟩ := and_true h
    obtain ⟨h1, h2⟩ := and_true h
    obtain ⟨e1, F⟩ := G.at_ _ _ (of_decide_eq_true h2)
    subst e1
    exact simS_fset o.c.c.hK F ((snd_E G ob).1 X ck Wsh .frz _ o.c h1) ((snd_E G e).1 X ck Wsh .frz _ o.c h3) sw_attr
  · cases h
theorem s_cpush (G : GmOk g Γ cf k) {ob e : E} : SS g en cf Γ k (.cpush ob e) := by
  intro X ck Wsh p o h
  rw [chS_cpush] at h
  split at h
  · obtain ⟨h, h6⟩ := and_true h
    obtain ⟨h, h5⟩ := and_true h
    obtain ⟨h, h4⟩ := and_true h
    obtain ⟨h, h3⟩ := and_true h
    obtain ⟨h1, h2⟩ := and_true h
    have e1 := of_decide_eq_true h1
    subst e1
    exact simS_cpush ((snd_E G ob).1 X ck Wsh .frz _ o.c h2) ((snd_E G e).1 X ck Wsh .frz _ o.c h4) (attr_plain (not_true h3)) (star_of (not_true h5)) h6
  · cases h
theorem s_ex (G : GmOk g Γ cf k) {e : E} : SS g en cf Γ k (.ex e) := by
  intro X ck Wsh p o h
  rw [chS_ex] at h
  split at h
  · obtain ⟨h1, h2⟩ := and_true h
    exact simS_ex ((snd_E G e).1 X ck Wsh .frz _ o.c h1) (swaps_no (not_true h2))
  · cases h
theorem s_iff (G : GmOk g Γ cf k) {t : E} {a b : List S} (ha : SSs g en cf Γ k a) (hb : SSs g en cf Γ k b) : SS g en cf Γ k (.iff t a b) := by
  intro X ck Wsh p o h
  rw [chS_iff] at h
  split at h
  · obtain ⟨h, h3⟩ := and_true h
    obtain ⟨h1, h2⟩ := and_true h
    exact simS_iff ((snd_E G t).1 X ck Wsh .tst _ o.c h1) (ha X ck Wsh _ o h2) (hb X ck Wsh _ o h3)
  · cases h
theorem s_whl (G : GmOk g Γ cf k) {t : E} {b : List S} (hb : SSs g en cf Γ k b) : SS g en cf Γ k (.whl t b) := by
  intro X ck Wsh p o h
  rw [chS_whl] at h
  split at h
  · obtain ⟨h1, h2⟩ := and_true h
    exact simS_whl o.po ((snd_E G t).1 X ck Wsh .tst _ o.c h1) (hb X ck Wsh _ o h2)
  · cases h
theorem s_for (G : GmOk g Γ cf k) {tg : Tg} {it : It} {b : List S} (hb : SSs g en cf Γ k b) : SS g en cf Γ k (.for_ tg it b) := by
  intro X ck Wsh p o h
  rw [chS_for_] at h
  split at h
  · obtain ⟨h, h4⟩ := and_true h
    obtain ⟨h, h3⟩ := and_true h
    obtain ⟨h1, h2⟩ := and_true h
    exact simS_for o.po o.c.c.hcalm (snd_I G it X ck Wsh true _ _ o.c h1) (snd_G tg X ck Wsh _ o.c h2) (hb X ck Wsh _ o h3) (folded_of (not_true h4))
  · cases h
theorem s_ret (G : GmOk g Γ cf k) {e : E} : SS g en cf Γ k (.ret e) := by
  intro X ck Wsh p o h
  rw [chS_ret] at h
  split at h
  · exact simS_ret ((snd_E G e).1 X ck Wsh .frz _ o.c h)
  · cases h
theorem s_retN : SS g en cf Γ k .retN := by
  intro X ck Wsh p o h
  rw [chS_retN] at h
  split at h
  · exact simS_retN
  · cases h
theorem s_brk : SS g en cf Γ k .brk := by
  intro X ck Wsh p o h
  rw [chS_brk] at h
  split at h
  · exact simS_brk
  · cases h
theorem s_pas : SS g en cf Γ k .pas := by
  intro X ck Wsh p o h
  rw [chS_pas] at h
  split at h
  · exact simS_pas
  · exact simS_doc
  · cases h
theorem s_rais (G : GmOk g Γ cf k) {c : Nat} {e : E} : SS g en cf Γ k (.rais c e) := by
  intro X ck Wsh p o h
  rw [chS_rais] at h
  split at h
  · obtain ⟨h, h4⟩ := and_true h
    obtain ⟨h, h3⟩ := and_true h
    obtain ⟨h1, h2⟩ := and_true h
    obtain ⟨a, b, _⟩ := glo_of h1
    obtain ⟨e1, T, _⟩ := G.er _ _ (of_decide_eq_true h2)
    exact simS_rais o.c.c T a e1 b ((snd_E G e).1 X ck Wsh .frz _ o.c h3) (star_of (not_true h4))
  · cases h
theorem s_par (G : GmOk g Γ cf k) {is : List Nat} {es : List E} : SS g en cf Γ k (.par is es) := by
  intro X ck Wsh p o h
  rw [chS_par] at h
  split at h
  · split at h
    · rename_i i j _ x px y py kt pt a b k2 pt2 pos
      obtain ⟨h, a12⟩ := and_true h
      obtain ⟨h, a11⟩ := and_true h
      obtain ⟨h, a10⟩ := and_true h
      obtain ⟨h, a9⟩ := and_true h
      obtain ⟨h, a8⟩ := and_true h
      obtain ⟨h, a7⟩ := and_true h
      obtain ⟨h, a6⟩ := and_true h
      obtain ⟨h, a5⟩ := and_true h
      obtain ⟨h, a4⟩ := and_true h
      obtain ⟨h, a3⟩ := and_true h
      obtain ⟨a1, a2⟩ := and_true h
      have kx : X.env.scope.names.lookup x = some .local := by rw [o.c.c.hsc]; exact kind_of a4
      have ky : X.env.scope.names.lookup y = some .local := by rw [o.c.c.hsc]; exact kind_of a5
      have hb : X.env.blockKind = .function := by unfold PySem.Env.blockKind; rw [o.c.c.hsc, o.kind]; rfl
      refine simS_par (ps_par o.c.c.hcalm (by rw [o.c.c.hN]; exact o.c.c.hnd) (by rw [o.c.c.hN]; exact of_decide_eq_true a2) (by rw [o.c.c.hN]; exact of_decide_eq_true a3) (of_decide_eq_true a1) kx ky ((snd_Es G es).1 X ck Wsh _ o.c a12).1 ?_ (swapsSole_no rfl))
      exact par_form hb kx ky (eq_of_beq a6) (of_decide_eq_true a7) (not_true a8) (not_true a9) (not_true a10) (not_true a11)
    · cases h
  · cases h
theorem s_tri (G : GmOk g Γ cf k) {b : List S} {i c : Nat} {tag : Str} (hb : SSs g en cf Γ k b) : SS g en cf Γ k (.tri b i c tag) := by
  intro X ck Wsh p o h
  rw [chS_tri] at h
  split at h
  · obtain ⟨h, a10⟩ := and_true h
    obtain ⟨h, a9⟩ := and_true h
    obtain ⟨h, a8⟩ := and_true h
    obtain ⟨h, a7⟩ := and_true h
    obtain ⟨h, a6⟩ := and_true h
    obtain ⟨h, a5⟩ := and_true h
    obtain ⟨h, a4⟩ := and_true h
    obtain ⟨h, a3⟩ := and_true h
    obtain ⟨a1, a2⟩ := and_true h
    obtain ⟨g1, g2, _⟩ := glo_of a1
    obtain ⟨e1, _, T⟩ := G.er _ _ (of_decide_eq_true a2)
    have e2 := G.ef _ _ (of_decide_eq_true a3)
    have e3 := of_decide_eq_true a8
    have e4 := of_decide_eq_true a9
    subst e2 e3 e4
    obtain ⟨d1, d2⟩ := dbg_of a6
    exact simS_tri o.c.c T o.hs o.hf (of_decide_eq_true a4) (of_decide_eq_true a7) (kind_of a5) d1 d2 g1 e1 g2 (fun W pn xe tk po => hb _ ck W _ (o.tr tk po) a10) (fun e he => by subst he; exact attr_plain rfl)
  · cases h
theorem ss_nil : SSs g en cf Γ k [] := by
  intro X ck Wsh ps o h
  cases ps with
  | nil => exact simSs_nil
  | cons _ _ => cases h
theorem ss_frz {i : Nat} {ss : List S} (hs : SSs g en cf Γ k ss) : SSs g en cf Γ k (.frz i :: ss) := by
  intro X ck Wsh ps o h
  exact simSs_frz (hs X ck Wsh ps o h)
theorem chSs_cons {s : S} {ss : List S} {p : Stmt} {ps : List Stmt} (hn : ∀ i, s ≠ .frz i) : chSs Γ ck (s :: ss) (p :: ps) = (chS Γ ck s p && chSs Γ ck ss ps) := by
  cases s <;> first | rfl | exact absurd rfl (hn _)
theorem chSs_cnil {s : S} {ss : List S} (hn : ∀ i, s ≠ .frz i) : chSs Γ ck (s :: ss) [] = false := by
  cases s <;> first | rfl | exact absurd rfl (hn _)
theorem ss_cons {s : S} {ss : List S} (hn : ∀ i, s ≠ .frz i) (h1 : SS g en cf Γ k s) (hs : SSs g en cf Γ k ss) : SSs g en cf Γ k (s :: ss) := by
  intro X ck Wsh ps o h
  cases ps with
  | nil => rw [chSs_cnil hn] at h; cases h
  | cons p ps =>
    rw [chSs_cons hn] at h
    obtain ⟨h2, h3⟩ := and_true h
    exact simSs_cons (h1 X ck Wsh p o h2) (hs X ck Wsh ps o h3)
mutual
theorem snd_S (G : GmOk g Γ cf k) : ∀ s : S, SS g en cf Γ k s
  | .asg t e => s_asg G
  | .own i e => s_own G
  | .push i e => s_push G
  | .ext i e => s_ext G
  | .ins i a e => s_ins G
  | .seti i a e => s_seti G
  | .cset o a e => s_cset G
  | .fset o j e => s_fset G
  | .cpush o e => s_cpush G
  | .ex e => s_ex G
  | .iff t a b => s_iff G (snd_Ss G a) (snd_Ss G b)
  | .whl t b => s_whl G (snd_Ss G b)
  | .for_ tg it b => s_for G (snd_Ss G b)
  | .ret e => s_ret G
  | .retN => s_retN
  | .brk => s_brk
  | .pas => s_pas
  | .nev => fun X ck Wsh p o h => simS_nev
  | .rais c e => s_rais G
  | .frz i => fun X ck Wsh p o h => by cases h
  | .par is es => s_par G
  | .tri b i c tag => s_tri G (snd_Ss G b)
theorem snd_Ss (G : GmOk g Γ cf k) : ∀ ss : List S, SSs g en cf Γ k ss
  | [] => ss_nil
  | s :: ss => by
    have h1 : SS g en cf Γ k s := snd_S G s
    have h2 : SSs g en cf Γ k ss := snd_Ss G ss
    cases s with
    | frz i => exact ss_frz h2
    | _ => exact ss_cons (fun i => by simp) h1 h2
end
end
end Bp
set_option Elab.async false
set_option linter.all false
set_option maxRecDepth 100000
set_option maxHeartbeats 1000000
/-! BpDef: defs, the program. -/
namespace Bp
open PySem PySem.Spec PyProof.Rows L2
section
variable {g : Glob} {cf : Cf} {Γ : Gm} {k : Nat}
theorem env_get {ds : List D} {vs : List V} {n i : Nat} {s : Slot} {W : Wd} (r : RepL g W ds vs) (h : (ds.map (fun d => some (Slot.val d)) ++ List.replicate (n - ds.length) none)[i]? = some (some s)) : ∃ d v, s = .val d ∧ (vs.map some ++ List.replicate (n - vs.length) none)[i]? = some (some v) ∧ Rep g W d v := by
  have hl := r.len
  by_cases hi : i < ds.length
  · rw [List.getElem?_append_left (by simpa using hi), List.getElem?_map] at h
    obtain ⟨d, e1, e2⟩ := Option.map_eq_some_iff.mp h
    simp only [Option.some.injEq] at e2
    obtain ⟨v, e3, e4⟩ := r.get e1
    refine ⟨d, v, e2.symm, ?_, e4⟩
    rw [List.getElem?_append_left (by rw [List.length_map, ← hl]; exact hi), List.getElem?_map, e3]; rfl
  · rw [List.getElem?_append_right (by simpa using hi)] at h
    rw [List.getElem?_replicate] at h
    split at h <;> simp at h
theorem start_ok {W : Wd} {H : Hp} {ds : List D} {vs : List V} {N : List Str} {fd : Fd} (r : RepL g W ds vs) (hn : fd.ns = N.length) (hl : ds.length ≤ N.length) : EnvM g ⟨W, H⟩ W (fd.env ds) (L2.start N vs) H ∧ (fd.env ds).length = N.length := by
  have hlen : (fd.env ds).length = N.length := by
    unfold Fd.env
    rw [List.length_append, List.length_map, List.length_replicate, hn]; omega
  have noown : ∀ (i : Nat) (o : Bp.Obj), (fd.env ds)[i]? ≠ some (some (.own o)) := fun i o h => by
    unfold Fd.env at h
    obtain ⟨d, v, e, _, _⟩ := env_get r h
    cases e
  refine ⟨⟨.refl, ?_, fun i s h => ?_, fun i o a h _ => absurd h (noown i o), fun i j o o' v _ h => absurd h (noown i o)⟩, hlen⟩
  · rw [hlen]
    unfold L2.start
    rw [List.length_append, List.length_map, List.length_replicate, ← r.len]; omega
  · unfold Fd.env at h
    rw [hn] at h
    obtain ⟨d, v, e, h2, rv⟩ := env_get r h
    subst e
    exact ⟨v, h2, rv⟩
/-- a def, checked -/
theorem def_fn {x qual : Str} {params : Arguments} {body : List Stmt} {scope : Scope} {fA : Addr} {fd : FuncData} {N ps : List Str} {fdc : Fd} (F : FunD g.K x qual params body scope [] [] fA fd) (S : FnScope N ps scope) (G : GmOk g Γ cf k)
    (hnp : fdc.np = ps.length) (hns : fdc.ns = N.length) (hle : ps.length ≤ N.length) (hc : chSs Γ ⟨N, scope, fun _ => true⟩ fdc.body body = true) :
    FnOk g.P g.w g.K g.mg g.base (L2.CX g.P g.w) (k + 2) fA fd ps (spOf g (fun ds st => if ds.length = fdc.np then outD (evSs cf fdc.body (fdc.env ds) st) else .bad) fdc.np) := by
  refine F.ok S (spOf_len hnp.symm) fun cdv A outer s H vs Q E hr hsp => ?_
  obtain ⟨W, st, ds, C, r, hl, h⟩ := hsp
  replace h : Go g (fun cls d _ H' => E cls d H') (RepM g .frz) [] W H (if ds.length = fdc.np then outD (evSs cf fdc.body (fdc.env ds) st) else .bad) Q := h
  rw [if_pos hl] at h
  let X := cxOf (L2.CX g.P g.w) g.P g.w g.K g.mg g.base N qual scope fA cdv A outer s H E
  let Wsh : WX := fun cls d _ H => E cls d H
  have tk : Takes X Wsh := takes_of rfl rfl rfl rfl
  have o : CkS g X ⟨N, scope, fun _ => true⟩ (k + 1) Wsh := ⟨⟨⟨rfl, rfl, rfl, rfl, rfl, rfl, rfl, S.nd, rfl, hr, tk⟩, fun _ => rfl⟩, passes_of rfl, rfl, rfl, S.kind⟩
  refine ⟨tsimSs g ⟨W, H⟩ N.length Wsh cf fdc.body, snd_Ss G fdc.body X _ Wsh body o hc, ?_⟩
  have hdl : ds.length ≤ N.length := by rw [hl, hnp]; exact hle
  obtain ⟨M, hlen⟩ := start_ok (H := H) (fd := fdc) r hns hdl
  refine ⟨W, fdc.env ds, st, hlen, M, C, ?_⟩
  cases q : evSs cf fdc.body (fdc.env ds) st with
  | bad => rw [q] at h; exact h
  | exc kx d s' =>
    rw [q] at h
    exact fun σ dx v W' H' _ x' c' e r' => h dx v W' H' x' c' e r'
  | ok ob s' =>
    rw [q] at h
    cases ob with
    | ret d => exact fun v W' H' x' c' r' => h v W' H' x' c' r'
    | nxt env' =>
      intro σ W' H' le hl' M' C'
      exact h .non W' H' M'.ent C' (show Rep g W' .non .non from Rep.non_iff.mpr rfl)
    | brk env' => exact h.elim
theorem def_ok {x qual : Str} {params : Arguments} {body : List Stmt} {scope : Scope} {fA : Addr} {fd : FuncData} {N ps : List Str} {fdc : Fd} (F : FunD g.K x qual params body scope [] [] fA fd) (hb : Binds g.K fd ps []) (S : FnScope N ps scope) (G : GmOk g Γ cf k)
    (hnp : fdc.np = ps.length) (hns : fdc.ns = N.length) (hle : ps.length ≤ N.length) (hc : chSs Γ ⟨N, scope, fun _ => true⟩ fdc.body body = true) :
    DefOk g (fun ds st => if ds.length = fdc.np then outD (evSs cf fdc.body (fdc.env ds) st) else .bad) fdc.np (k + 2) fA := ⟨F.kp, fd, ps, hb, hnp.symm, def_fn F S G hnp hns hle hc⟩
/-- an error's __init__, checked: self.f = v -/
theorem err_init {x qual : Str} {params : Arguments} {scope : Scope} {fI : Addr} {fd : FuncData} {y z f : Str} {p1 p2 p3 p4 : Pos} {C : Addr} (F : FunD g.K x qual params [.Assign [.Attribute (.Name y p1) f p2] (.Name z p3) p4] scope [] [] fI fd) (S : FnScope [y, z] [y, z] scope) (T : OexC g.K C) (hno : PySem.W.findIn g.K (.ref C) f = some none)
    (h1 : dbgB y = true) (h2 : dbgB z = true) (hy : scope.names.lookup y = some .local) (hz : scope.names.lookup z = some .local) : FnOk g.P g.w g.K g.mg g.base (L2.CX g.P g.w) 1 fI fd [y, z] (spX C f) := by
  refine F.ok S (fun vs H Q E h => ?_) fun cdv A outer s H vs Q E hr hsp => ?_
  · obtain ⟨a, v, e, _⟩ := h
    rw [e]; rfl
  · obtain ⟨a, v, ev, ha, hq⟩ := hsp
    subst ev
    obtain ⟨d1, d2⟩ := dbg_of h1
    obtain ⟨d3, d4⟩ := dbg_of h2
    refine ⟨_, pss_one (ps_ost (pe_var (i := 0) rfl (.inl hy) d1 d2) (pe_var (i := 1) rfl (.inl hz) d3 d4) (swaps_no rfl)), ?_⟩
    refine ⟨v, rfl, .ref a, rfl, a, C, rfl, T, hno, .inl ⟨ha, fun dx hd hne => ?_⟩⟩
    exact hq dx hd hne
end

/-! ### the program -/
theorem cl_succ {p : Prog} {n f : Nat} {fdc : Fd} (e : p.fd f = some fdc) : p.cl (n + 1) f = fun ds st => if ds.length = fdc.np then outD (evSs (p.cf n) fdc.body (fdc.env ds) st) else .bad := by
  funext ds st
  show (match p.fd f with
    | some fd => if ds.length = fd.np then outD (evSs ⟨p.cl n, p.con, p.fs, p.ini, p.nc, p.xs⟩ fd.body (fd.env ds) st) else .bad
    | none => .bad) = _
  rw [e]; rfl
def DefFact (g : Glob) (Γ : Gm) (p : Prog) (f np : Nat) (fA : Addr) : Prop := ∃ (fdc : Fd) (x qual : Str) (params : Arguments) (body : List Stmt) (scope : Scope) (N ps : List Str) (fd : FuncData),
  p.fd f = some fdc ∧ FunD g.K x qual params body scope [] [] fA fd ∧ Binds g.K fd ps [] ∧ FnScope N ps scope ∧ fdc.np = np ∧ fdc.np = ps.length ∧ fdc.ns = N.length ∧ ps.length ≤ N.length ∧ chSs Γ ⟨N, scope, fun _ => true⟩ fdc.body body = true
structure GmFact (g : Glob) (Γ : Gm) (p : Prog) : Prop where
  fn : ∀ x f np, Γ.fn.lookup x = some (f, np) → ∃ fA, g.mg x = some (.ref fA) ∧ DefFact g Γ p f np fA
  cl : ∀ x c, Γ.cl.lookup x = some c → g.mg x = some (.ref (g.cA c))
  ini : ∀ c f np, Γ.ini.lookup c = some (f, np) → p.ini c = some f ∧ ∃ fA, Mk g.K (g.cA c) fA ∧ DefFact g Γ p f np fA
  er : ∀ x c, Γ.er.lookup x = some c → g.mg x = some (.ref (g.xA c)) ∧ ErrOk g 1 c ∧ CatOk g p.xs c
  ef : ∀ c f, Γ.ef.lookup c = some f → g.xF c = f
  con : ∀ x j, Γ.con.lookup x = some j → ∃ d, p.con j = some d ∧ ConOk g x d
  bi : ∀ x, x ∈ Γ.bi → g.mg x = none
  at_ : ∀ f j, Γ.at_.lookup f = some j → g.at_ j = f ∧ FldOk g p.nc j
  isi : IsiOk g p.nc
  fs : p.fs = g.fs
  nc : p.nc = Γ.nc
  me : ∀ c m f np, Γ.me.lookup (c, m) = some (f, np) → c < p.nc ∧ ∃ fA, Meth g.K (g.cA c) m fA ∧ DefFact g Γ p f np fA
  ne : ∀ c f np, Γ.me.lookup (c, ("__eq__" : Str)) = some (f, np) → PySem.W.findIn g.K (.ref (g.cA c)) "__ne__" = some (some (.builtin "object.__ne__"))
theorem ErrOk.mono {g : Glob} {k k' c : Nat} (h : ErrOk g k c) (le : k ≤ k') : ErrOk g k' c := by
  obtain ⟨h1, fI, fd, ps, h2, h3, h4, h5⟩ := h
  exact ⟨h1, fI, fd, ps, h2, h3, h4, h5.mono le⟩
theorem def_fact {g : Glob} {Γ : Gm} {p : Prog} {n f np : Nat} {fA : Addr} (G : GmOk g Γ (p.cf n) (2 * n + 1)) (h : DefFact g Γ p f np fA) : DefOk g (p.cl (n + 1) f) np (2 * (n + 1) + 1) fA := by
  obtain ⟨fdc, x, qual, params, body, scope, N, ps, fd, e, F, hb, S, h0, h1, h2, h3, hc⟩ := h
  have := def_ok F hb S G h1 h2 h3 hc
  subst h0
  rw [cl_succ e]
  exact this
theorem def_zero {g : Glob} {Γ : Gm} {p : Prog} {f np : Nat} {fA : Addr} (h : DefFact g Γ p f np fA) : DefOk g (p.cl 0 f) np 1 fA := by
  obtain ⟨fdc, x, qual, params, body, scope, N, ps, fd, e, F, hb, S, h0, h1, h2, h3, hc⟩ := h
  refine ⟨F.kp, fd, ps, hb, by rw [← h1, h0], spOf_len (by rw [← h1, h0]), fun A outer s H args us vs Q E hr e0 hbn hv hsp => ?_⟩
  obtain ⟨W, st, ds, C, r, hl, h⟩ := hsp
  exact h.elim
theorem gm_step {g : Glob} {Γ : Gm} {p : Prog} {n k : Nat} (h : GmFact g Γ p) (hk : 1 ≤ k) (hd : ∀ f np fA, DefFact g Γ p f np fA → DefOk g (p.cl n f) np k fA) : GmOk g Γ (p.cf n) k where
  fn := fun x f np e => let ⟨fA, e1, e2⟩ := h.fn x f np e; ⟨fA, e1, hd f np fA e2⟩
  cl := h.cl
  ini := fun c f np e => let ⟨e0, fA, e1, e2⟩ := h.ini c f np e; ⟨e0, fA, e1, hd f np fA e2⟩
  er := fun x c e => let ⟨e1, e2, e3⟩ := h.er x c e; ⟨e1, e2.mono hk, e3⟩
  ef := h.ef
  con := h.con
  bi := h.bi
  at_ := h.at_
  isi := h.isi
  fs := h.fs
  nc := h.nc
  me := fun c m f np e => let ⟨e0, fA, e1, e2⟩ := h.me c m f np e; ⟨e0, fA, e1, hd f np fA e2⟩
  ne := h.ne
theorem prog_ok {g : Glob} {Γ : Gm} {p : Prog} (h : GmFact g Γ p) : ∀ n, GmOk g Γ (p.cf n) (2 * n + 1)
  | 0 => gm_step h (Nat.le_refl _) fun f np fA hf => def_zero hf
  | n + 1 => gm_step h (by omega) fun f np fA hf => def_fact (prog_ok h n) hf
theorem prog_def {g : Glob} {Γ : Gm} {p : Prog} (h : GmFact g Γ p) {f np : Nat} {fA : Addr} (hf : DefFact g Γ p f np fA) (n : Nat) : DefOk g (p.cl (n + 1) f) np (2 * n + 3) fA := def_fact (prog_ok h n) hf
end Bp
set_option Elab.async false
set_option linter.all false
set_option maxRecDepth 100000
set_option maxHeartbeats 1000000
/-! BpHead: what the head of a law's row tells, as one boolean; its Hook. -/
namespace Bp
open PySem PySem.Spec PyProof.Rows L2 He
/-! ### the Hook -/
abbrev Frag := PySem.W.Frag
def obsB (ck : Frag → Bool) (fn : List DefD) (K : Frag) : AlD := (ck K && fn.all fun d => d.ok K, fn.map fun d => fnW K d.at_)
def obsBG (n : Nat) (ck : Frag → Bool) (fn : List DefD) (g : Addr → Option PySem.Obj) : AlD := obsB ck fn (frG g (asD g n))
def hookB (n : Nat) (ck : Frag → Bool) (fn : List DefD) : PySem.W.Hook where
  α := AlD
  obs := fun s => obsBG n ck fn s.heap.get?
  val := fun _ => valD fn
  says := fun _ h => ∃ K : Frag, K.In h ∧ obsB ck fn K = valD fn
  of := fun _ _ e => ⟨_, frG_in, e⟩
  keeps := fun _ _ _ ⟨K, hK, c⟩ k => ⟨K, PySem.W.Frag.In.keeps hK k, c⟩
theorem obsBG_eq {n : Nat} {ck : Frag → Bool} {fn : List DefD} {g : Addr → Option PySem.Obj} {s : Shared} (h : ∀ a, g a = s.heap.get? a) : obsBG n ck fn g = (hookB n ck fn).obs s := by
  have e : g = s.heap.get? := funext h
  rw [e]; rfl
theorem saysB {ck : Frag → Bool} {fn : List DefD} {K : Frag} (c : obsB ck fn K = valD fn) : ck K = true ∧ SaysD [] fn K := by
  have h1 : (ck K && fn.all fun d => d.ok K) = true := congrArg (fun z : AlD => z.1) c
  obtain ⟨h2, h3⟩ := Bool.and_eq_true_iff.mp h1
  refine ⟨h2, ?_⟩
  unfold SaysD obsD valD
  have h4 : fn.map (fun d => fnW K d.at_) = fn.map DefD.val := congrArg (fun z : AlD => z.2) c
  rw [h4, h3]
  rfl

/-! ### the facts -/
structure Tab where
  cN : List Str
  xN : List Str
  xF : List Str
  fN : List Str
  nums : List (Str × Nat × Int)
def Tab.glob (T : Tab) (fs : Nat → List Nat) (P : Program) (w : World) (K : Frag) (mg : Str → Option Value) (base : Heap) : Glob :=
  ⟨P, w, K, mg, base, fun c => ga K (T.cN.getD c ""), fs, fun j => T.fN.getD j "", fun c => ga K (T.xN.getD c ""), fun c => T.xF.getD c ""⟩
def oexB (K : Frag) (C : Addr) : Bool := (match K.lookup C with
  | some ⟨.type t, _, .cls cd, sl⟩ => decide (t = "type") && ((match cd.mro with
    | .ref C' :: bm => decide (C' = C) && refsVE' bm
    | _ => false) && (cd.hasDict && (!cd.hasDel && (match sl.toList with
    | [_, _, _, _, some (.builtin n), _] => decide (n = "ValueError.__new__")
    | _ => false))))
  | _ => false) && (eqO (PySem.W.findIn K (.ref C) "__setattr__") (some (some (.builtin "object.__setattr__"))) && (decide (PySem.W.subIn K (.ref C) (.type "BaseException") = some true) && (decide (PySem.W.typeIn K (.ref C) = some (.type "type")) && PySem.W.keepIn K (.ref C))))
where refsVE' : List Value → Bool := PySem.HandSPX.refsVE
theorem oexB_ok {K : Frag} {C : Addr} (h : oexB K C = true) : OexC K C := by
  obtain ⟨h1, h2⟩ := and_true h
  obtain ⟨h3, h4⟩ := and_true h2
  obtain ⟨h5, h6⟩ := and_true h4
  obtain ⟨h7, h8⟩ := and_true h6
  refine ⟨?_, eqO_ok h3, of_decide_eq_true h5, of_decide_eq_true h7, h8⟩
  split at h1
  · rename_i t dd cd sl ho
    obtain ⟨a1, a2⟩ := and_true h1
    obtain ⟨a3, a4⟩ := and_true a2
    obtain ⟨a5, a6⟩ := and_true a4
    obtain ⟨a7, a8⟩ := and_true a6
    have e1 := of_decide_eq_true a1
    subst e1
    split at a3
    · rename_i C' bm hm
      obtain ⟨b1, b2⟩ := and_true a3
      have e2 := of_decide_eq_true b1
      subst e2
      split at a8
      · rename_i k0 k1 k2 k3 nw k5 hsl
        have e3 := of_decide_eq_true a8
        subst e3
        obtain ⟨nm, bs, mro, ns, qn, hd, sn, sub, ab, col, del⟩ := cd
        dsimp only at hm a5 a7
        have e4 := not_true a7
        subst hm a5 e4
        have e5 : sl = #[k0, k1, k2, k3, some (.builtin "ValueError.__new__"), k5] := by
          obtain ⟨l⟩ := sl
          simp only at hsl
          rw [hsl]
        subst e5
        exact ⟨nm, qn, ns, bs, bm, sn, sub, ab, col, dd, k0, k1, k2, k3, k5, ho, b2⟩
      · cases a8
    · cases a3
  · cases h1
def clsB (T : Tab) (K : Frag) (c : Nat) : Bool := (Fa.cls (T.cN.getD c "")).ok K
def tysT (nc : Nat) : List Ty := [.int, .bool, .str, .tuple, .list] ++ (List.range nc).map .cls
def valsT (nc : Nat) : List D := [.non, .bl true, .int 0, .str "", .tup [], .lst []] ++ (List.range nc).map fun c => .obj c []
def tyOfA (cA : Nat → Addr) : D → Value
  | .non => .type "NoneType"
  | .bl _ => .type "bool"
  | .int _ => .type "int"
  | .str _ => .type "str"
  | .tup _ => .type "tuple"
  | .lst _ => .type "list"
  | .obj c _ => .ref (cA c)
  | _ => .none
def tyUA (cA : Nat → Addr) : Ty → Value
  | .int => .type "int"
  | .bool => .type "bool"
  | .str => .type "str"
  | .tuple => .type "tuple"
  | .list => .type "list"
  | .cls c => .ref (cA c)
theorem tyOf_eq {g : Glob} (d : D) : tyOf g d = tyOfA g.cA d := by cases d <;> rfl
theorem tyU_eq {g : Glob} (t : Ty) : tyU g t = tyUA g.cA t := by cases t <;> rfl
def Tab.cA (T : Tab) (K : Frag) (c : Nat) : Addr := ga K (T.cN.getD c "")
def Tab.xA (T : Tab) (K : Frag) (c : Nat) : Addr := ga K (T.xN.getD c "")
def isiB (T : Tab) (nc : Nat) (K : Frag) : Bool :=
  ((List.range nc).all fun c => clsB T K c && (eqO (PySem.W.findIn K (.ref (T.cA K c)) "__class__") (some (some (.builtin "object.__class__"))) && decide (PySem.W.mroIn K (T.cA K c) (.type "object") = some true))) &&
  (eqO (PySem.W.specialIn K (.builtin "object.__class__") "__get__") (some (some (.builtin "getset_descriptor.__get__"))) && (decide (PySem.W.takesIn K (.builtin "object.__class__") = some true) &&
  (valsT nc).all fun d => (tysT nc).all fun t => decide (PySem.W.kitOne K (tyOfA (T.cA K) d) (tyUA (T.cA K) t) = some (t.has d))))
section
variable {T : Tab} {fs : Nat → List Nat} {P : Program} {w : World} {K : Frag} {mg : Str → Option Value} {base : Heap} {nc nx : Nat}
abbrev Tab.gl (T : Tab) (fs : Nat → List Nat) (P : Program) (w : World) (K : Frag) (mg : Str → Option Value) (base : Heap) : Glob := T.glob fs P w K mg base
theorem mem_rng {c n : Nat} (h : c < n) : c ∈ List.range n := List.mem_range.mpr h
theorem isi_ok (h : isiB T nc K = true) : IsiOk (T.glob fs P w K mg base) nc := by
  obtain ⟨h1, h2⟩ := and_true h
  obtain ⟨h3, h4⟩ := and_true h2
  obtain ⟨h5, h6⟩ := and_true h4
  have hk : ∀ d t, d ∈ valsT nc → t ∈ tysT nc → PySem.W.kitOne K (tyOfA (T.cA K) d) (tyUA (T.cA K) t) = some (t.has d) := fun d t hd ht => of_decide_eq_true (List.all_eq_true.mp (List.all_eq_true.mp h6 d hd) t ht)
  refine ⟨fun c hc => ?_, eqO_ok h3, of_decide_eq_true h5, fun d t hd ht => ?_⟩
  · obtain ⟨a1, a2⟩ := and_true (List.all_eq_true.mp h1 c (mem_rng hc))
    obtain ⟨a3, a4⟩ := and_true a2
    exact ⟨cls_ok a1, eqO_ok a3, of_decide_eq_true a4⟩
  · have htm : t ∈ tysT nc := by
      unfold tysT
      cases t with
      | cls c =>
        have hc : c < nc := by simpa [Ty.ok] using ht
        exact List.mem_append_right _ (List.mem_map.mpr ⟨c, mem_rng hc, rfl⟩)
      | _ => exact List.mem_append_left _ (by simp)
    rw [tyOf_eq, tyU_eq]
    show PySem.W.kitOne K (tyOfA (T.cA K) d) (tyUA (T.cA K) t) = some (t.has d)
    have key : ∀ d0, d0 ∈ valsT nc → tyOfA (T.cA K) d = tyOfA (T.cA K) d0 → t.has d = t.has d0 → PySem.W.kitOne K (tyOfA (T.cA K) d) (tyUA (T.cA K) t) = some (t.has d) := fun d0 hd0 e1 e2 => by
      rw [e1, e2]; exact hk d0 t hd0 htm
    have fst : ∀ d0, d0 ∈ [D.non, .bl true, .int 0, .str "", .tup [], .lst []] → d0 ∈ valsT nc := fun d0 h => List.mem_append_left _ h
    cases d with
    | non => exact key .non (fst _ (by simp)) rfl rfl
    | bl b => exact key (.bl true) (fst _ (by simp)) rfl (by cases t <;> rfl)
    | int i => exact key (.int 0) (fst _ (by simp)) rfl (by cases t <;> rfl)
    | str s => exact key (.str "") (fst _ (by simp)) rfl (by cases t <;> rfl)
    | tup ds => exact key (.tup []) (fst _ (by simp)) rfl (by cases t <;> rfl)
    | lst ds => exact key (.lst []) (fst _ (by simp)) rfl (by cases t <;> rfl)
    | obj c ds =>
      have hc : c < nc := by simpa [isD] using hd
      exact key (.obj c []) (List.mem_append_right _ (List.mem_map.mpr ⟨c, mem_rng hc, rfl⟩)) rfl (by cases t <;> rfl)
    | _ => cases hd
/-- a field -/
def fldB (T : Tab) (nc : Nat) (K : Frag) (f : Str) : Bool := (List.range nc).all fun c => clsB T K c && (Fa.noat (T.cN.getD c "") f).ok K
theorem at_inj {xs : List Str} (hn : xs.Nodup) (h0 : ("" : Str) ∉ xs) {i j : Nat} {f : Str} (hi : xs[i]? = some f) (h : xs.getD j "" = xs.getD i "") : j = i := by
  have ei : xs.getD i "" = f := by rw [List.getD_eq_getElem?_getD, hi]; rfl
  rw [ei, List.getD_eq_getElem?_getD] at h
  cases e : xs[j]? with
  | none =>
    rw [e] at h
    exact absurd (mem_get hi) (by rw [← show (none : Option Str).getD "" = f from h]; exact h0)
  | some y =>
    rw [e] at h
    have : y = f := h
    subst this
    exact nodup_get hn e hi
theorem fld_ok {f : Str} {j : Nat} (hn : T.fN.Nodup) (h0 : ("" : Str) ∉ T.fN) (hj : T.fN[j]? = some f) (h : fldB T nc K f = true) : (T.glob fs P w K mg base).at_ j = f ∧ FldOk (T.glob fs P w K mg base) nc j := by
  have e : T.fN.getD j "" = f := by rw [List.getD_eq_getElem?_getD, hj]; rfl
  refine ⟨e, fun c hc => ?_, fun i hi => at_inj hn h0 hj hi⟩
  obtain ⟨a1, a2⟩ := and_true (List.all_eq_true.mp h c (mem_rng hc))
  refine ⟨cls_ok a1, ?_⟩
  show NoAttr K _ (T.fN.getD j "")
  rw [e]
  exact noat_ok a2
/-- an error's class -/
def errB (T : Tab) (xs : List Nat) (K : Frag) (c : Nat) : Bool := oexB K (T.xA K c) && (eqO (PySem.W.findIn K (.ref (T.xA K c)) "__init__") (some (some (.ref (ma K (T.xA K c) "__init__")))) && (decide (PySem.W.typeIn K (.ref (ma K (T.xA K c) "__init__")) = some (.type "function")) &&
  (xfB K (T.xA K c) && (eqO (PySem.W.findIn K (.ref (T.xA K c)) (T.xF.getD c "")) (some none) && xs.all fun k => decide (PySem.W.exmOne K (.ref (T.xA K k)) (.ref (T.xA K c)) = some (decide (k = c)))))))
end
end Bp
set_option Elab.async false
set_option linter.all false
set_option maxRecDepth 100000
set_option maxHeartbeats 1000000
/-! BpHead2: from the head's boolean to the program's facts; the law's end. -/
namespace Bp
open PySem PySem.Spec PyProof.Rows L2 He
theorem all_nil {α : Type} {P : α → Prop} : ∀ q ∈ ([] : List α), P q := fun q h => by cases h
theorem all_cons {α : Type} {P : α → Prop} {a : α} {l : List α} (h : P a) (t : ∀ q ∈ l, P q) : ∀ q ∈ (a :: l), P q := fun q hq => by
  rcases List.mem_cons.mp hq with e | hq
  · rw [e]; exact h
  · exact t q hq
theorem mem_of_lk {α β : Type} [BEq α] [LawfulBEq α] : ∀ {l : List (α × β)} {x : α} {y : β}, l.lookup x = some y → (x, y) ∈ l
  | [], _, _, h => by cases h
  | (a, b) :: l, x, y, h => by
    rw [List.lookup_cons] at h
    cases q : x == a with
    | true =>
      rw [q] at h
      have e : b = y := Option.some.inj h
      rw [beq_iff_eq.mp q, e]
      exact List.mem_cons_self
    | false =>
      rw [q] at h
      exact List.mem_cons_of_mem _ (mem_of_lk h)
/-- the tables agree -/
def tabB (Γ : Gm) (p : Prog) (T : Tab) : Bool :=
  (Γ.cl.all fun q => decide (T.cN[q.2]? = some q.1)) && ((Γ.er.all fun q => decide (T.xN[q.2]? = some q.1)) && ((Γ.ef.all fun q => decide (T.xF[q.1]? = some q.2)) && ((Γ.at_.all fun q => decide (T.fN[q.2]? = some q.1)) &&
  (decide T.fN.Nodup && (decide (("" : Str) ∉ T.fN) && (decide (p.nc = Γ.nc) && (Γ.con.all fun q => match p.con q.2 with
    | some (.int i) => T.nums.any fun z => decide (z = (q.1, q.2, i))
    | _ => false)))))))
def gloK (K : Frag) (x : Str) : Bool := (Fa.glo x).ok K
def chkK (Γ : Gm) (p : Prog) (T : Tab) (K : Frag) : Bool :=
  (Γ.fn.all fun q => gloK K q.1) && ((Γ.cl.all fun q => gloK K q.1) && ((Γ.ini.all fun q => (Fa.mkr (T.cN.getD q.1 "")).ok K) && ((Γ.er.all fun q => gloK K q.1 && errB T p.xs K q.2) && ((T.nums.all fun q => (Fa.int q.1 q.2.2).ok K) &&
  ((Γ.bi.all fun x => (Fa.free x).ok K) && ((Γ.at_.all fun q => fldB T p.nc K q.1) && (isiB T p.nc K && (Γ.me.all fun q => decide (q.1.1 < p.nc) && ((Fa.meth (T.cN.getD q.1.1 "") q.1.2).ok K && (!decide (q.1.2 = ("__eq__" : Str)) || eqO (PySem.W.findIn K (.ref (ga K (T.cN.getD q.1.1 ""))) "__ne__") (some (some (.builtin "object.__ne__")))))))))))))
theorem gm_fact {Γ : Gm} {p : Prog} {T : Tab} {P : Program} {w : World} {K : Frag} {mg : Str → Option Value} {base h0 : Heap} (ht : tabB Γ p T = true) (hc : chkK Γ p T K = true) (X : K.In h0) (G : h0.Ns mainGlobals mg)
    (hfn : ∀ q ∈ Γ.fn, DefFact (T.glob p.fs P w K mg base) Γ p q.2.1 q.2.2 (fAd K (q.1, none)))
    (hini : ∀ q ∈ Γ.ini, p.ini q.1 = some q.2.1 ∧ DefFact (T.glob p.fs P w K mg base) Γ p q.2.1 q.2.2 (fAd K (T.cN.getD q.1 "", some "__init__")))
    (hme : ∀ q ∈ Γ.me, DefFact (T.glob p.fs P w K mg base) Γ p q.2.1 q.2.2 (fAd K (T.cN.getD q.1.1 "", some q.1.2)))
    (her : ∀ q ∈ Γ.er, ∃ fd ps, Binds K fd ps [] ∧ FnOk P w K mg base (L2.CX P w) 1 (fAd K (T.xN.getD q.2 "", some "__init__")) fd ps (spX (T.xA K q.2) (T.xF.getD q.2 ""))) : GmFact (T.glob p.fs P w K mg base) Γ p := by
  obtain ⟨t1, ht⟩ := and_true ht
  obtain ⟨t2, ht⟩ := and_true ht
  obtain ⟨t3, ht⟩ := and_true ht
  obtain ⟨t4, ht⟩ := and_true ht
  obtain ⟨t5, ht⟩ := and_true ht
  obtain ⟨t6, ht⟩ := and_true ht
  obtain ⟨t7, t8⟩ := and_true ht
  obtain ⟨c1, hc⟩ := and_true hc
  obtain ⟨c2, hc⟩ := and_true hc
  obtain ⟨c3, hc⟩ := and_true hc
  obtain ⟨c4, hc⟩ := and_true hc
  obtain ⟨c5, hc⟩ := and_true hc
  obtain ⟨c6, hc⟩ := and_true hc
  obtain ⟨c7, hc⟩ := and_true hc
  obtain ⟨c8, c9⟩ := and_true hc
  have getD : ∀ {xs : List Str} {i : Nat} {x : Str}, xs[i]? = some x → xs.getD i "" = x := fun {xs i x} h => by rw [List.getD_eq_getElem?_getD, h]; rfl
  have tx : ∀ q ∈ Γ.er, T.xN.getD q.2 "" = q.1 := fun q hq => getD (of_decide_eq_true (List.all_eq_true.mp t2 q hq))
  refine ⟨fun x f np e => ?_, fun x c e => ?_, fun c f np e => ?_, fun x c e => ?_, fun c f e => ?_, fun x j e => ?_, fun x hx => ?_, fun f j e => ?_, isi_ok c8, rfl, of_decide_eq_true t7, fun c m f np e => ?_, fun c f np e => ?_⟩
  · have hm := mem_of_lk e
    exact ⟨_, glo_ok X G (List.all_eq_true.mp c1 _ hm), hfn _ hm⟩
  · have hm := mem_of_lk e
    have e1 : T.cN.getD c "" = x := getD (of_decide_eq_true (List.all_eq_true.mp t1 _ hm))
    have := glo_ok X G (List.all_eq_true.mp c2 _ hm)
    show mg x = some (.ref (ga K (T.cN.getD c "")))
    rw [e1]; exact this
  · have hm := mem_of_lk e
    obtain ⟨e1, e2⟩ := hini _ hm
    exact ⟨e1, _, mkr_ok (List.all_eq_true.mp c3 _ hm), e2⟩
  · have hm := mem_of_lk e
    obtain ⟨a1, a2⟩ := and_true (List.all_eq_true.mp c4 _ hm)
    have e1 : T.xN.getD c "" = x := tx _ hm
    obtain ⟨b1, a2⟩ := and_true a2
    obtain ⟨b2, a2⟩ := and_true a2
    obtain ⟨b3, a2⟩ := and_true a2
    obtain ⟨b4, a2⟩ := and_true a2
    obtain ⟨b5, b6⟩ := and_true a2
    have g1 := glo_ok X G a1
    refine ⟨?_, ⟨oexB_ok b1, ?_⟩, ⟨xfB_ok b4, eqO_ok b5, fun k hk => of_decide_eq_true (List.all_eq_true.mp b6 k (List.contains_iff_mem.mp hk))⟩⟩
    · show mg x = some (.ref (ga K (T.xN.getD c "")))
      rw [e1]; exact g1
    · obtain ⟨fd, ps, h1, h2⟩ := her _ hm
      exact ⟨_, fd, ps, eqO_ok b2, of_decide_eq_true b3, h1, h2⟩
  · have hm := mem_of_lk e
    exact getD (of_decide_eq_true (List.all_eq_true.mp t3 _ hm))
  · have hm := mem_of_lk e
    have h1 := List.all_eq_true.mp t8 _ hm
    split at h1
    · rename_i i ei
      obtain ⟨z, hz, ez⟩ := List.any_eq_true.mp h1
      have ez := of_decide_eq_true ez
      subst ez
      obtain ⟨t, e2⟩ := int_ok X G (List.all_eq_true.mp c5 _ hz)
      exact ⟨_, ei, _, .int i, e2, ⟨t, rfl⟩, fun W => Rep.int_iff.mpr rfl⟩
    · cases h1
  · exact free_ok X G (List.all_eq_true.mp c6 _ hx)
  · have hm := mem_of_lk e
    exact fld_ok (of_decide_eq_true t5) (of_decide_eq_true t6) (of_decide_eq_true (List.all_eq_true.mp t4 _ hm)) (List.all_eq_true.mp c7 _ hm)
  · have hm := mem_of_lk e
    obtain ⟨a1, a2⟩ := and_true (List.all_eq_true.mp c9 _ hm)
    obtain ⟨a3, a4⟩ := and_true a2
    exact ⟨of_decide_eq_true a1, _, meth_ok a3, hme _ hm⟩
  · have hm := mem_of_lk e
    obtain ⟨a1, a2⟩ := and_true (List.all_eq_true.mp c9 _ hm)
    obtain ⟨a3, a4⟩ := and_true a2
    rcases Bool.or_eq_true_iff.mp a4 with q | q
    · simp at q
    · exact eqO_ok q
theorem err_of {Γ : Gm} {p : Prog} {T : Tab} {K : Frag} (hc : chkK Γ p T K = true) {q : Str × Nat} (hq : q ∈ Γ.er) : OexC K (T.xA K q.2) ∧ PySem.W.findIn K (.ref (T.xA K q.2)) (T.xF.getD q.2 "") = some none := by
  obtain ⟨c1, hc⟩ := and_true hc
  obtain ⟨c2, hc⟩ := and_true hc
  obtain ⟨c3, hc⟩ := and_true hc
  obtain ⟨c4, hc⟩ := and_true hc
  obtain ⟨a1, a2⟩ := and_true (List.all_eq_true.mp c4 _ hq)
  obtain ⟨b1, a2⟩ := and_true a2
  obtain ⟨b2, a2⟩ := and_true a2
  obtain ⟨b3, a2⟩ := and_true a2
  obtain ⟨b4, a2⟩ := and_true a2
  obtain ⟨b5, b6⟩ := and_true a2
  exact ⟨oexB_ok b1, eqO_ok b5⟩
/-- a def's fact -/
theorem mk_def {g : Glob} {Γ : Gm} {p : Prog} {f np : Nat} {fA : Addr} {fdc : Fd} {x qual : Str} {params : Arguments} {body : List Stmt} {scope : Scope} {N ps : List Str} (F : ∃ fd, FunD g.K x qual params body scope [] [] fA fd) (e : p.fd f = some fdc)
    (hb : ∀ (kV doc pm : Value) (an : Option Addr) (cdv ct : Value) (us : List Value), us.length = ps.length → bindArgs (PySem.W.fnOf x qual params body scope .none kV doc pm an cdv ct) ⟨us, []⟩ = pure (ps.zip us))
    (S : FnScope N ps scope) (h0 : fdc.np = np) (h1 : fdc.np = ps.length) (h2 : fdc.ns = N.length) (h3 : ps.length ≤ N.length) (hc : chSs Γ ⟨N, scope, fun _ => true⟩ fdc.body body = true) : DefFact g Γ p f np fA := by
  obtain ⟨fd, F⟩ := F
  exact ⟨fdc, x, qual, params, body, scope, N, ps, fd, e, F, F.bindsN hb, S, h0, h1, h2, h3, hc⟩
theorem _root_.L2.passL_none {P : Program} {w : World} {l : List PySem.Env} {H : Hp} {s s' : Shared} {e : Value} (h : L2.CX P w l H s (fun _ _ _ => False) e s') : False := by
  obtain ⟨_, _, _, _, _, _, _, _, _, _, _, _, z⟩ := h
  exact z
/-- the law's promise -/
def spLaw (K : Frag) (n : Nat) : Sp := fun vs H Q _ => ∃ (a : Addr) (ns : List Int), vs = [V.ref a] ∧ ns.length ≤ n ∧ SqL K H a (ns.map V.int) ∧ ∀ H', Q (.bl true) H'
theorem law_fn {g : Glob} {Γ : Gm} {p : Prog} {f : Nat} {fA : Addr} {fdc : Fd} {x qual y : Str} {params : Arguments} {body : List Stmt} {scope : Scope} {N : List Str} {fd : FuncData} {n m : Nat} (h : GmFact g Γ p) (e : p.fd f = some fdc) (F : FunD g.K x qual params body scope [] [] fA fd) (S : FnScope N [y] scope)
    (h1 : fdc.np = 1) (h2 : fdc.ns = N.length) (h3 : 1 ≤ N.length) (hc : chSs Γ ⟨N, scope, fun _ => true⟩ fdc.body body = true)
    (hlaw : ∀ ns : List Int, ns.length ≤ m → ∃ st, p.cl (n + 1) f [.scr ns] [] = .ok (.bl true) st) : FnOk g.P g.w g.K g.mg g.base (L2.CX g.P g.w) (2 * n + 3) fA fd [y] (spLaw g.K m) := by
  have G := prog_ok h n
  have := def_fn F S G (by rw [h1]; rfl) h2 h3 hc
  rw [← cl_succ e] at this
  refine this.imp ?_
  rintro vs H Q E ⟨a, ns, ev, hl, hs, hq⟩
  obtain ⟨st, e2⟩ := hlaw ns hl
  refine ⟨⟨H, []⟩, [], [.scr ns], ⟨fun _ _ e => e, rfl, List.nodup_nil, fun a h => (by cases h), fun i k e => (by simp at e)⟩, ?_, h1.symm, ?_⟩
  · rw [ev]
    exact RepL.cons (Rep.scr_iff.mpr ⟨a, rfl, hs⟩) RepL.nil
  · rw [e2]
    intro v W' H' x c r
    rw [Rep.bl_iff.mp (show Rep g W' (.bl true) v from r)]
    exact hq H'
/-- a promise that lets nothing out -/
theorem toCX0 {P : Program} {w : World} {K : Frag} {mg : Str → Option Value} {base : Heap} {k : Nat} {f : Addr} {fd : FuncData} {ps : List Str} {sp : Sp} (F : FnOk P w K mg base (L2.CX P w) k f fd ps sp) (h : ∀ vs H Q E, sp vs H Q E → sp vs H Q (fun _ _ _ => False)) : FnOk P w K mg base L2.CX0 k f fd ps sp := by
  refine ⟨F.len, fun A outer s H args us vs Q E hr he hb hv hs => ?_⟩
  refine codeAny_mono (F.run A outer s H args us vs Q (fun _ _ _ => False) hr he hb hv (h _ _ _ _ hs)) fun r s' hq => ?_
  cases r with
  | error e => exact (L2.passL_none hq).elim
  | ok fl => cases fl <;> exact hq
end Bp
set_option Elab.async false
set_option linter.all false
set_option maxRecDepth 100000
namespace Bp
open PySem
/-- is_integer(value) -/
def c0 : Fd := ⟨1, 1, [.ret (.and (.isi (.var 0) [.int]) (.not (.isi (.var 0) [.bool])))]⟩
/-- is_within(value, low, high) -/
def c1 : Fd := ⟨3, 3, [.ret (.and (.call 0 [(.var 0)]) (.chain .le .le (.var 1) (.var 0) (.var 2)))]⟩
/-- is_within(value, low, high) -/
def c1_1 : Fd := ⟨3, 3, [.ret (.and (.call 206 [(.var 0)]) (.chain .le .le (.var 1) (.var 0) (.var 2)))]⟩
/-- is_tuple(value, least, most) -/
def c2 : Fd := ⟨3, 3, [.ret (.and (.isi (.var 0) [.tuple]) (.chain .le .le (.var 1) (.app .len [(.var 0)]) (.var 2)))]⟩
/-- are_within(value, many, low, high, part) -/
def c3 : Fd := ⟨4, 5, [.ret (.and (.call 2 [(.var 0), (.var 1), (.var 1)]) (.app .all [(.comp [4] (.slot 4) (.seq true (.var 0)) (.cst (.bl true)) (.call 1 [(.var 4), (.var 2), (.var 3)]))]))]⟩
/-- is_ascending(value, at) -/
def c4 : Fd := ⟨1, 2, [.ret (.app .all [(.comp [1] (.slot 1) (.rng2 (.cst (.int 1)) (.app .len [(.var 0)])) (.cst (.bl true)) (.cmp .lt (.idx (.var 0) (.bin .sub (.var 1) (.cst (.int 1)))) (.idx (.var 0) (.var 1))))])]⟩
/-- are_people(value, part) -/
def c5 : Fd := ⟨1, 2, [.ret (.and (.call 2 [(.var 0), (.cst (.int 1)), (.glo 0)]) (.app .all [(.comp [1] (.slot 1) (.seq true (.var 0)) (.cst (.bl true)) (.call 1 [(.var 1), (.cst (.int 0)), (.glo 2)]))]))]⟩
/-- is_pair(value, units) -/
def c6 : Fd := ⟨2, 2, [.ret (.and (.call 3 [(.var 0), (.cst (.int 2)), (.cst (.int 0)), (.bin .sub (.var 1) (.cst (.int 1)))]) (.cmp .lt (.idx (.var 0) (.cst (.int 0))) (.idx (.var 0) (.cst (.int 1)))))]⟩
/-- are_ties(value, units, tie) -/
def c7 : Fd := ⟨2, 3, [.ret (.and (.call 2 [(.var 0), (.cst (.int 0)), (.glo 1)]) (.and (.app .all [(.comp [2] (.slot 2) (.seq true (.var 0)) (.cst (.bl true)) (.call 6 [(.var 2), (.var 1)]))]) (.call 4 [(.var 0)])))]⟩
/-- are_ties(value, units, tie) -/
def c7_1 : Fd := ⟨2, 3, [.ret (.and (.call 2 [(.var 0), (.cst (.int 0)), (.glo 8)]) (.and (.app .all [(.comp [2] (.slot 2) (.seq true (.var 0)) (.cst (.bl true)) (.call 6 [(.var 2), (.var 1)]))]) (.call 4 [(.var 0)])))]⟩
/-- Land.__init__(self, people, leads, ties, unit, other) -/
def c8 : Fd := ⟨4, 6, [.iff (.not (.call 5 [(.var 1)])) [.rais 1 (.var 1)] [],
  .iff (.not (.call 3 [(.var 2), (.app .len [(.var 1)]), (.neg (.glo 3)), (.glo 3)])) [.rais 2 (.var 2)] [],
  .iff (.not (.call 7 [(.var 3), (.app .len [(.var 1)])])) [.rais 3 (.var 3)] [],
  .fset (.var 0) 0 (.var 1),
  .fset (.var 0) 1 (.var 2),
  .fset (.var 0) 2 (.var 3),
  .fset (.var 0) 3 (.cell []),
  .for_ (.slot 4) (.rng1 (.app .len [(.var 1)])) [.cpush (.fld (.var 0) 3) (.comp [5] (.slot 5) (.rng1 (.app .len [(.var 1)])) (.cmp .isin (.tup [(.app .min2 [(.var 4), (.var 5)]), (.app .max2 [(.var 4), (.var 5)])]) (.var 3)) (.var 5))]]⟩
/-- Land.__init__(self, people, leads, ties, unit, other) -/
def c8_1 : Fd := ⟨4, 6, [.iff (.not (.call 5 [(.var 1)])) [.rais 1 (.var 1)] [],
  .iff (.not (.call 3 [(.var 2), (.app .len [(.var 1)]), (.neg (.glo 10)), (.glo 10)])) [.rais 2 (.var 2)] [],
  .iff (.not (.call 7 [(.var 3), (.app .len [(.var 1)])])) [.rais 3 (.var 3)] [],
  .fset (.var 0) 0 (.var 1),
  .fset (.var 0) 1 (.var 2),
  .fset (.var 0) 2 (.var 3),
  .fset (.var 0) 3 (.cell []),
  .for_ (.slot 4) (.rng1 (.app .len [(.var 1)])) [.cpush (.fld (.var 0) 3) (.comp [5] (.slot 5) (.rng1 (.app .len [(.var 1)])) (.cmp .isin (.tup [(.app .min2 [(.var 4), (.var 5)]), (.app .max2 [(.var 4), (.var 5)])]) (.var 3)) (.var 5))]]⟩
/-- Land.__len__(self) -/
def c9 : Fd := ⟨1, 1, [.ret (.app .len [(.fld (.var 0) 0)])]⟩
/-- Land.__eq__(self, other) -/
def c10 : Fd := ⟨2, 2, [.iff (.not (.isi (.var 1) [.cls 0])) [.ret (.cst (.bl false))] [],
  .ret (.and (.cmp .eq (.fld (.var 0) 0) (.fld (.var 1) 0)) (.and (.cmp .eq (.fld (.var 0) 1) (.fld (.var 1) 1)) (.cmp .eq (.fld (.var 0) 2) (.fld (.var 1) 2))))]⟩
/-- are_tied(land, one, other) -/
def c11 : Fd := ⟨3, 3, [.ret (.cmp .isin (.var 2) (.idx (.fld (.var 0) 3) (.var 1)))]⟩
/-- hang_together(land, units, found, at, other) -/
def c12 : Fd := ⟨2, 5, [.own 2 (.lst [(.idx (.var 1) (.cst (.int 0)))]),
  .asg (.slot 3) (.cst (.int 0)),
  .whl (.cmp .lt (.var 3) (.app .len [(.peek 2)])) [.for_ (.slot 4) (.seq false (.var 1)) [.iff (.and (.cmp .notin (.var 4) (.peek 2)) (.call 11 [(.var 0), (.idx (.peek 2) (.var 3)), (.var 4)])) [.push 2 (.var 4)] []], .asg (.slot 3) (.bin .add (.var 3) (.cst (.int 1)))],
  .ret (.cmp .eq (.app .len [(.peek 2)]) (.app .len [(.var 1)]))]⟩
/-- Draft.__init__(self, land, many, low, high) -/
def c13 : Fd := ⟨5, 5, [.iff (.not (.call 1 [(.var 2), (.cst (.int 1)), (.glo 4)])) [.rais 0 (.var 2)] [],
  .iff (.not (.call 1 [(.var 3), (.cst (.int 0)), (.glo 5)])) [.rais 0 (.var 3)] [],
  .iff (.not (.call 1 [(.var 4), (.var 3), (.glo 5)])) [.rais 0 (.var 4)] [],
  .fset (.var 0) 4 (.var 1),
  .fset (.var 0) 5 (.var 2),
  .fset (.var 0) 6 (.var 3),
  .fset (.var 0) 7 (.var 4)]⟩
/-- Draft.__eq__(self, other, same) -/
def c14 : Fd := ⟨2, 3, [.iff (.not (.isi (.var 1) [.cls 1])) [.ret (.cst (.bl false))] [],
  .asg (.slot 2) (.and (.cmp .eq (.fld (.var 0) 5) (.fld (.var 1) 5)) (.and (.cmp .eq (.fld (.var 0) 6) (.fld (.var 1) 6)) (.cmp .eq (.fld (.var 0) 7) (.fld (.var 1) 7)))),
  .ret (.and (.var 2) (.oeq false 0 10 (.fld (.var 0) 4) (.fld (.var 1) 4)))]⟩
/-- numberings(units, many, rows, _, row, number) -/
def c15 : Fd := ⟨2, 6, [.asg (.slot 2) (.lst [(.tup [])]),
  .for_ (.slot 3) (.rng1 (.var 0)) [.asg (.slot 2) (.comp2 [4, 5] (.slot 4) (.seq true (.var 2)) (.cst (.bl true)) [5] (.slot 5) (.rng1 (.app .min2 [(.bin .add (.app .lenset [(.var 4)]) (.cst (.int 1))), (.var 1)])) (.cst (.bl true)) (.bin .add (.var 4) (.tup [(.var 5)])))],
  .ret (.comp [4] (.slot 4) (.seq true (.var 2)) (.cmp .eq (.app .lenset [(.var 4)]) (.var 1)) (.var 4))]⟩
/-- districts(plan, found, number, unit, own) -/
def c16 : Fd := ⟨1, 5, [.iff (.cmp .eq (.app .len [(.var 0)]) (.cst (.int 0))) [.ret (.tup [])] [],
  .own 1 (.lst []),
  .for_ (.slot 2) (.rng1 (.bin .add (.app .maxl [(.var 0)]) (.cst (.int 1)))) [.push 1 (.app .tuple [(.comp [3, 4] (.tup [(.slot 3), (.slot 4)]) (.enum true (.var 0)) (.cmp .eq (.var 4) (.var 2)) (.var 3))])],
  .ret (.app .tuple [(.peek 1)])]⟩
/-- people_of(land, units, unit) -/
def c17 : Fd := ⟨2, 3, [.ret (.app .sum [(.comp [2] (.slot 2) (.seq true (.var 1)) (.cst (.bl true)) (.idx (.fld (.var 0) 0) (.var 2)))])]⟩
/-- is_fair(draft, row, units) -/
def c18 : Fd := ⟨2, 3, [.for_ (.slot 2) (.seq false (.call 16 [(.var 1)])) [.iff (.or (.not (.chain .le .le (.fld (.var 0) 6) (.call 17 [(.fld (.var 0) 4), (.var 2)]) (.fld (.var 0) 7))) (.not (.call 12 [(.fld (.var 0) 4), (.var 2)]))) [.ret (.cst (.bl false))] []],
  .ret (.cst (.bl true))]⟩
/-- plans(draft, row) -/
def c19 : Fd := ⟨1, 2, [.ret (.app .tuple [(.comp [1] (.slot 1) (.seq true (.call 15 [(.app .len [(.fld (.fld (.var 0) 4) 0)]), (.fld (.var 0) 5)])) (.call 18 [(.var 0), (.var 1)]) (.var 1))])]⟩
/-- pairs_with(draft, same, known, many, found, one, other, plan) -/
def c20 : Fd := ⟨2, 8, [.asg (.slot 2) (.call 19 [(.var 0)]),
  .iff (.cmp .eq (.app .len [(.var 2)]) (.cst (.int 0))) [.rais 4 (.cst (.str "plan"))] [],
  .asg (.slot 3) (.app .len [(.fld (.fld (.var 0) 4) 0)]),
  .own 4 (.lst []),
  .for_ (.slot 5) (.rng1 (.var 3)) [.for_ (.slot 6) (.rng2 (.bin .add (.var 5) (.cst (.int 1))) (.var 3)) [.iff (.app .all [(.comp [7] (.slot 7) (.seq true (.var 2)) (.cst (.bl true)) (.cmp .eq (.cmp .eq (.idx (.var 7) (.var 5)) (.idx (.var 7) (.var 6))) (.var 1)))]) [.push 4 (.tup [(.var 5), (.var 6)])] []]],
  .ret (.app .tuple [(.peek 4)])]⟩
/-- together(draft) -/
def c21 : Fd := ⟨1, 1, [.ret (.call 20 [(.var 0), (.cst (.bl true))])]⟩
/-- never_together(draft) -/
def c22 : Fd := ⟨1, 1, [.ret (.call 20 [(.var 0), (.cst (.bl false))])]⟩
/-- _law_box(script, k, cell, great) -/
def c23 : Fd := ⟨2, 4, [.asg (.slot 2) (.bin .add (.bin .mul (.cst (.int 7919)) (.var 1)) (.cst (.int 101))),
  .iff (.cmp .lt (.var 1) (.app .len [(.var 0)])) [.asg (.slot 2) (.app .abs [(.idx (.var 0) (.var 1))])] [.iff (.cmp .gt (.app .len [(.var 0)]) (.cst (.int 0))) [.asg (.slot 2) (.bin .add (.bin .mul (.bin .mod (.app .int [(.app .abs [(.idx (.var 0) (.bin .mod (.app .int [(.var 1)]) (.app .len [(.var 0)])))])]) (.cst (.int 1000000007))) (.cst (.int 31))) (.bin .mul (.cst (.int 7919)) (.var 1)))] []],
  .asg (.slot 3) (.idx (.lst [(.cst (.int 0)), (.var 2)]) (.app .int [(.cmp .ge (.var 2) (.bin .pow (.cst (.int 10)) (.cst (.int 18))))])),
  .ret (.cell [(.var 3), (.bin .add (.bin .mod (.app .int [(.bin .add (.bin .mul (.bin .mod (.app .int [(.var 2)]) (.cst (.int 1000000007))) (.cst (.int 48271))) (.bin .mul (.cst (.int 613)) (.var 1)))]) (.cst (.int 2147483647))) (.cst (.int 1)))])]⟩
/-- _law_take(box, many, got) -/
def c24 : Fd := ⟨2, 3, [.iff (.cmp .gt (.idx (.var 0) (.cst (.int 0))) (.cst (.int 0))) [.asg (.slot 2) (.bin .mod (.app .int [(.idx (.var 0) (.cst (.int 0)))]) (.var 1)), .cset (.var 0) (.cst (.int 0)) (.bin .fdiv (.idx (.var 0) (.cst (.int 0))) (.var 1)), .ret (.var 2)] [],
  .cset (.var 0) (.cst (.int 1)) (.bin .mod (.app .int [(.bin .add (.bin .mul (.idx (.var 0) (.cst (.int 1))) (.cst (.int 39373))) (.cst (.int 69621)))]) (.cst (.int 2147483647))),
  .ret (.bin .mod (.app .int [(.bin .fdiv (.idx (.var 0) (.cst (.int 1))) (.cst (.int 8191)))]) (.var 1))]⟩
/-- _law_pick(box, some) -/
def c25 : Fd := ⟨2, 2, [.ret (.idx (.var 1) (.call 24 [(.var 0), (.app .len [(.var 1)])]))]⟩
/-- _law_whole(value) -/
def c26 : Fd := ⟨1, 1, [.ret (.and (.isi (.var 0) [.int]) (.not (.isi (.var 0) [.bool])))]⟩
/-- _law_is_numbers(value, many, one) -/
def c27 : Fd := ⟨2, 3, [.iff (.not (.isi (.var 0) [.tuple])) [.ret (.cst (.bl false))] [],
  .ret (.cmp .eq (.comp [2] (.slot 2) (.seq true (.var 0)) (.or (.not (.call 26 [(.var 2)])) (.or (.cmp .lt (.var 2) (.cst (.int 0))) (.cmp .ge (.var 2) (.var 1)))) (.var 2)) (.lst []))]⟩
/-- _law_shuffled(box, some, found, one) -/
def c28 : Fd := ⟨2, 4, [.own 2 (.lst []),
  .for_ (.slot 3) (.seq false (.var 1)) [.ins 2 (.call 24 [(.var 0), (.bin .add (.app .len [(.peek 2)]) (.cst (.int 1)))]) (.var 3)],
  .frz 2,
  .ret (.var 2)]⟩
/-- _law_ties(box, n, how, order, found, more, k, pairs, pair, both) -/
def c29 : Fd := ⟨2, 10, [.asg (.slot 2) (.call 24 [(.var 0), (.cst (.int 5))]),
  .asg (.slot 3) (.call 28 [(.var 0), (.app .lrange [(.var 1)])]),
  .own 4 (.lst []),
  .iff (.cmp .eq (.var 2) (.cst (.int 0))) [.for_ (.slot 6) (.rng1 (.var 1)) [.iff (.and (.cmp .ne (.bin .mod (.app .int [(.var 6)]) (.cst (.int 4))) (.cst (.int 3))) (.cmp .lt (.bin .add (.var 6) (.cst (.int 1))) (.var 1))) [.push 4 (.tup [(.idx (.var 3) (.var 6)), (.idx (.var 3) (.bin .add (.var 6) (.cst (.int 1))))])] [], .iff (.cmp .lt (.bin .add (.var 6) (.cst (.int 4))) (.var 1)) [.push 4 (.tup [(.idx (.var 3) (.var 6)), (.idx (.var 3) (.bin .add (.var 6) (.cst (.int 4))))])] []]] [.iff (.cmp .eq (.var 2) (.cst (.int 1))) [.own 4 (.comp [6] (.slot 6) (.rng1 (.var 1)) (.cst (.bl true)) (.tup [(.idx (.var 3) (.var 6)), (.idx (.var 3) (.bin .mod (.app .int [(.bin .add (.var 6) (.cst (.int 1)))]) (.var 1)))]))] [.iff (.cmp .lt (.var 2) (.cst (.int 4))) [.for_ (.slot 6) (.rng2 (.cst (.int 1)) (.var 1)) [.iff (.cmp .gt (.call 24 [(.var 0), (.cst (.int 12))]) (.cst (.int 0))) [.push 4 (.tup [(.idx (.var 3) (.var 6)), (.idx (.var 3) (.call 24 [(.var 0), (.var 6)]))])] []]] []]],
  .asg (.slot 5) (.call 25 [(.var 0), (.lst [(.cst (.int 0)), (.cst (.int 1)), (.cst (.int 2)), (.cst (.int 4)), (.cst (.int 8)), (.cst (.int 16))])]),
  .for_ (.slot 6) (.rng1 (.var 5)) [.push 4 (.tup [(.call 24 [(.var 0), (.var 1)]), (.call 24 [(.var 0), (.var 1)])])],
  .own 7 (.lst []),
  .frz 4,
  .for_ (.slot 8) (.seq false (.var 4)) [.asg (.slot 9) (.tup [(.app .minl [(.var 8)]), (.app .maxl [(.var 8)])]), .iff (.and (.cmp .lt (.idx (.var 9) (.cst (.int 0))) (.idx (.var 9) (.cst (.int 1)))) (.and (.cmp .notin (.var 9) (.peek 7)) (.cmp .lt (.app .len [(.peek 7)]) (.cst (.int 16))))) [.push 7 (.var 9)] []],
  .ret (.app .tuple [(.app .sorted [(.peek 7)])])]⟩
/-- _law_land(box, most, n, wide, low, people, far, leads, unit) -/
def c30 : Fd := ⟨2, 9, [.asg (.slot 2) (.call 25 [(.var 0), (.lst [(.var 1), (.var 1), (.var 1), (.bin .sub (.var 1) (.cst (.int 1))), (.bin .sub (.var 1) (.cst (.int 1))), (.bin .sub (.var 1) (.cst (.int 2))), (.app .max2 [(.cst (.int 1)), (.bin .sub (.var 1) (.cst (.int 3)))]), (.app .max2 [(.cst (.int 1)), (.bin .sub (.var 1) (.cst (.int 4)))]), (.cst (.int 2)), (.cst (.int 1))])]),
  .asg (.slot 3) (.call 25 [(.var 0), (.lst [(.cst (.int 1)), (.cst (.int 2)), (.cst (.int 5)), (.cst (.int 30)), (.cst (.int 100))])]),
  .asg (.slot 4) (.call 24 [(.var 0), (.cst (.int 2))]),
  .asg (.slot 5) (.app .tuple [(.comp [8] (.slot 8) (.rng1 (.var 2)) (.cst (.bl true)) (.app .min2 [(.cst (.int 99)), (.bin .add (.var 4) (.call 24 [(.var 0), (.var 3)]))]))]),
  .asg (.slot 6) (.call 25 [(.var 0), (.lst [(.cst (.int 1)), (.cst (.int 3)), (.cst (.int 199))])]),
  .asg (.slot 7) (.app .tuple [(.comp [8] (.slot 8) (.rng1 (.var 2)) (.cst (.bl true)) (.bin .sub (.call 24 [(.var 0), (.var 6)]) (.bin .fdiv (.var 6) (.cst (.int 2)))))]),
  .ret (.tup [(.var 5), (.var 7), (.call 29 [(.var 0), (.var 2)])])]⟩
/-- _law_draft(script, most, box, land, many, total, even, slack, low, high) -/
def c31 : Fd := ⟨2, 10, [.asg (.slot 2) (.call 23 [(.var 0), (.cst (.int 0))]),
  .asg (.slot 3) (.call 30 [(.call 23 [(.var 0), (.cst (.int 1))]), (.var 1)]),
  .asg (.slot 4) (.call 25 [(.var 2), (.lst [(.cst (.int 2)), (.cst (.int 3)), (.cst (.int 4)), (.cst (.int 2)), (.cst (.int 3)), (.cst (.int 1))])]),
  .iff (.cmp .gt (.call 24 [(.var 2), (.cst (.int 6))]) (.cst (.int 0))) [.asg (.slot 4) (.app .min2 [(.var 4), (.app .len [(.idx (.var 3) (.cst (.int 0)))])])] [],
  .asg (.slot 5) (.app .sum [(.idx (.var 3) (.cst (.int 0)))]),
  .asg (.slot 6) (.bin .fdiv (.var 5) (.var 4)),
  .asg (.slot 7) (.call 25 [(.var 2), (.lst [(.cst (.int 0)), (.cst (.int 1)), (.app .maxl [(.idx (.var 3) (.cst (.int 0)))]), (.var 5), (.bin .add (.bin .fdiv (.app .maxl [(.idx (.var 3) (.cst (.int 0)))]) (.cst (.int 2))) (.cst (.int 1)))])]),
  .asg (.slot 8) (.app .max2 [(.cst (.int 0)), (.bin .sub (.var 6) (.var 7))]),
  .asg (.slot 9) (.app .min2 [(.cst (.int 999)), (.bin .add (.bin .add (.var 6) (.var 7)) (.call 24 [(.var 2), (.cst (.int 2))]))]),
  .iff (.cmp .eq (.call 24 [(.var 2), (.cst (.int 8))]) (.cst (.int 0))) [.par [8, 9] [(.call 24 [(.var 2), (.cst (.int 100))]), (.bin .add (.cst (.int 100)) (.call 24 [(.var 2), (.cst (.int 900))]))]] [],
  .ret (.tup [(.var 3), (.var 4), (.var 8), (.var 9)])]⟩
/-- _law_hang(ties, units, found, turn, a, b) -/
def c32 : Fd := ⟨2, 6, [.iff (.cmp .eq (.app .len [(.var 1)]) (.cst (.int 0))) [.ret (.cst (.bl false))] [],
  .own 2 (.lst [(.idx (.var 1) (.cst (.int 0)))]),
  .for_ (.slot 3) (.rng1 (.app .len [(.var 1)])) [.iff (.cmp .lt (.var 3) (.app .len [(.peek 2)])) [.for_ (.tup [(.slot 4), (.slot 5)]) (.seq false (.var 0)) [.iff (.and (.cmp .eq (.var 4) (.idx (.peek 2) (.var 3))) (.and (.cmp .isin (.var 5) (.var 1)) (.cmp .notin (.var 5) (.peek 2)))) [.push 2 (.var 5)] [], .iff (.and (.cmp .eq (.var 5) (.idx (.peek 2) (.var 3))) (.and (.cmp .isin (.var 4) (.var 1)) (.cmp .notin (.var 4) (.peek 2)))) [.push 2 (.var 4)] []]] []],
  .ret (.cmp .eq (.app .len [(.peek 2)]) (.app .len [(.var 1)]))]⟩
/-- _law_units(plan, district, unit) -/
def c33 : Fd := ⟨2, 3, [.ret (.comp [2] (.slot 2) (.rng1 (.app .len [(.var 0)])) (.cmp .eq (.idx (.var 0) (.var 2)) (.var 1)) (.var 2))]⟩
/-- _law_is_plan(draft, value, unit, district, land, many, low, high, units, size) -/
def c34 : Fd := ⟨2, 10, [.asg (.tup [(.slot 4), (.slot 5), (.slot 6), (.slot 7)]) (.var 0),
  .iff (.or (.not (.call 27 [(.var 1), (.var 5)])) (.cmp .ne (.app .len [(.var 1)]) (.app .len [(.idx (.var 4) (.cst (.int 0)))]))) [.ret (.cst (.bl false))] [],
  .for_ (.slot 2) (.rng1 (.app .len [(.var 1)])) [.iff (.cmp .gt (.idx (.var 1) (.var 2)) (.bin .add (.app .maxl [(.bin .add (.lst [(.neg (.cst (.int 1)))]) (.app .list [(.slc false true (.var 1) (.cst .non) (.var 2))]))]) (.cst (.int 1)))) [.ret (.cst (.bl false))] []],
  .for_ (.slot 3) (.rng1 (.var 5)) [.asg (.slot 8) (.call 33 [(.var 1), (.var 3)]), .asg (.slot 9) (.app .sum [(.comp [2] (.slot 2) (.seq true (.var 8)) (.cst (.bl true)) (.idx (.idx (.var 4) (.cst (.int 0))) (.var 2)))]), .iff (.or (.not (.call 32 [(.idx (.var 4) (.cst (.int 2))), (.var 8)])) (.or (.cmp .lt (.var 9) (.var 6)) (.cmp .gt (.var 9) (.var 7)))) [.ret (.cst (.bl false))] []],
  .ret (.cst (.bl true))]⟩
/-- _law_plans(draft, found, unit, land, many, low, high, longer, row, district, size, k) -/
def c35 : Fd := ⟨1, 12, [.asg (.tup [(.slot 3), (.slot 4), (.slot 5), (.slot 6)]) (.var 0),
  .asg (.slot 1) (.lst [(.tup [])]),
  .for_ (.slot 2) (.rng1 (.app .len [(.idx (.var 3) (.cst (.int 0)))])) [.own 7 (.lst []), .for_ (.slot 8) (.seq false (.var 1)) [.for_ (.slot 9) (.rng1 (.app .min2 [(.var 4), (.bin .add (.app .maxl [(.bin .add (.lst [(.neg (.cst (.int 1)))]) (.app .list [(.var 8)]))]) (.cst (.int 2)))])) [.asg (.slot 10) (.bin .add (.idx (.idx (.var 3) (.cst (.int 0))) (.var 2)) (.app .sum [(.comp [11] (.slot 11) (.rng1 (.var 2)) (.cmp .eq (.idx (.var 8) (.var 11)) (.var 9)) (.idx (.idx (.var 3) (.cst (.int 0))) (.var 11)))])), .iff (.cmp .le (.var 10) (.var 6)) [.push 7 (.bin .add (.var 8) (.tup [(.var 9)]))] []]], .frz 7, .asg (.slot 1) (.var 7)],
  .ret (.comp [8] (.slot 8) (.seq true (.var 1)) (.call 34 [(.var 0), (.var 8)]) (.var 8))]⟩
/-- _law_made(draft, land, many, low, high) -/
def c36 : Fd := ⟨1, 5, [.asg (.tup [(.slot 1), (.slot 2), (.slot 3), (.slot 4)]) (.var 0),
  .ret (.mk 1 [(.mk 0 [(.idx (.var 1) (.cst (.int 0))), (.idx (.var 1) (.cst (.int 1))), (.idx (.var 1) (.cst (.int 2)))]), (.var 2), (.var 3), (.var 4)])]⟩
/-- _law_told(kind, made, e) -/
def c37 : Fd := ⟨4, 6, [.tri [.asg (.slot 5) (.mk 1 [(.var 0), (.var 1), (.var 2), (.var 3)])] 4 0 "number",
  .ret (.tup [(.cst (.str "kept")), (.fld (.var 5) 5), (.fld (.var 5) 6), (.fld (.var 5) 7)])]⟩
/-- _law_told(kind, made, e) -/
def c37_1 : Fd := ⟨2, 3, [.tri [.ret (.tup [(.cst (.str "told")), (.ife (.cmp .eq (.var 0) (.cst (.int 0))) (.call 42 [(.var 1)]) (.call 147 [(.var 1)]))])] 2 4 "undefined"]⟩
/-- _law_told(kind, made, e) -/
def c37_2 : Fd := ⟨2, 3, [.tri [.ret (.tup [(.cst (.str "told")), (.ife (.cmp .eq (.var 0) (.cst (.int 0))) (.call 21 [(.var 1)]) (.call 22 [(.var 1)]))])] 2 4 "undefined"]⟩
/-- law(script, draft, made, every, n, a, always, never, b, many, plan) -/
def c38 : Fd := ⟨1, 11, [.asg (.slot 1) (.call 31 [(.var 0), (.cst (.int 8))]),
  .asg (.slot 2) (.call 36 [(.var 1)]),
  .asg (.slot 3) (.call 35 [(.var 1)]),
  .asg (.slot 4) (.app .len [(.idx (.idx (.var 1) (.cst (.int 0))) (.cst (.int 0)))]),
  .iff (.cmp .eq (.var 3) (.lst [])) [.ret (.and (.cmp .eq (.call 37 [(.cst (.int 0)), (.var 2)]) (.tup [(.cst (.str "undefined")), (.cst (.str "plan"))])) (.cmp .eq (.call 37 [(.cst (.int 1)), (.var 2)]) (.tup [(.cst (.str "undefined")), (.cst (.str "plan"))])))] [],
  .asg (.tup [(.slot 6), (.slot 7)]) (.tup [(.tup []), (.tup [])]),
  .for_ (.slot 5) (.rng1 (.var 4)) [.for_ (.slot 8) (.rng2 (.bin .add (.var 5) (.cst (.int 1))) (.var 4)) [.asg (.slot 9) (.app .len [(.comp [10] (.slot 10) (.seq true (.var 3)) (.cmp .eq (.idx (.var 10) (.var 5)) (.idx (.var 10) (.var 8))) (.var 10))]), .iff (.cmp .eq (.var 9) (.app .len [(.var 3)])) [.asg (.slot 6) (.bin .add (.var 6) (.tup [(.tup [(.var 5), (.var 8)])]))] [], .iff (.cmp .eq (.var 9) (.cst (.int 0))) [.asg (.slot 7) (.bin .add (.var 7) (.tup [(.tup [(.var 5), (.var 8)])]))] []]],
  .ret (.and (.cmp .eq (.call 37 [(.cst (.int 0)), (.var 2)]) (.tup [(.cst (.str "told")), (.var 6)])) (.cmp .eq (.call 37 [(.cst (.int 1)), (.var 2)]) (.tup [(.cst (.str "told")), (.var 7)])))]⟩
/-- is_numbering(value, at, number) -/
def c39 : Fd := ⟨1, 3, [.ret (.app .all [(.comp [1, 2] (.tup [(.slot 1), (.slot 2)]) (.enum true (.var 0)) (.cst (.bl true)) (.chain .le .le (.cst (.int 0)) (.var 2) (.app .lenset [(.slc false true (.var 0) (.cst .non) (.var 1))])))])]⟩
/-- is_plan(draft, value) -/
def c40 : Fd := ⟨2, 2, [.iff (.or (.not (.call 3 [(.var 1), (.app .len [(.fld (.fld (.var 0) 4) 0)]), (.cst (.int 0)), (.bin .sub (.fld (.var 0) 5) (.cst (.int 1)))])) (.not (.call 39 [(.var 1)]))) [.ret (.cst (.bl false))] [],
  .ret (.and (.cmp .eq (.app .maxl [(.var 1)]) (.bin .sub (.fld (.var 0) 5) (.cst (.int 1)))) (.call 18 [(.var 0), (.var 1)]))]⟩
/-- count(draft) -/
def c41 : Fd := ⟨1, 1, [.ret (.app .len [(.call 19 [(.var 0)])])]⟩
/-- first_plan(draft, found) -/
def c42 : Fd := ⟨1, 2, [.asg (.slot 1) (.call 19 [(.var 0)]),
  .iff (.cmp .eq (.app .len [(.var 1)]) (.cst (.int 0))) [.rais 4 (.cst (.str "plan"))] [],
  .ret (.idx (.var 1) (.cst (.int 0)))]⟩
/-- _law_is_due(told, due) -/
def c43 : Fd := ⟨2, 2, [.ret (.ife (.var 1) (.cmp .is (.var 0) (.cst (.bl true))) (.cmp .is (.var 0) (.cst (.bl false))))]⟩
/-- _law_spoilt(box, value, deep, at, how) -/
def c44 : Fd := ⟨3, 5, [.iff (.isi (.var 1) [.tuple]) [.asg (.slot 3) (.call 24 [(.var 0), (.bin .add (.app .len [(.var 1)]) (.cst (.int 1)))]), .iff (.and (.cmp .ne (.var 1) (.tup [])) (.and (.cmp .gt (.var 2) (.cst (.int 0))) (.cmp .gt (.call 24 [(.var 0), (.cst (.int 5))]) (.cst (.int 0))))) [.asg (.slot 3) (.bin .mod (.app .int [(.var 3)]) (.app .len [(.var 1)])), .ret (.bin .add (.bin .add (.slc false true (.var 1) (.cst .non) (.var 3)) (.tup [(.call 44 [(.var 0), (.idx (.var 1) (.var 3)), (.bin .sub (.var 2) (.cst (.int 1)))])])) (.slc true false (.var 1) (.bin .add (.var 3) (.cst (.int 1))) (.cst .non)))] [], .asg (.slot 4) (.call 24 [(.var 0), (.cst (.int 8))]), .iff (.cmp .eq (.var 4) (.cst (.int 0))) [.ret (.app .list [(.var 1)])] [], .iff (.cmp .eq (.var 4) (.cst (.int 1))) [.ret (.bin .add (.slc false true (.var 1) (.cst .non) (.var 3)) (.slc true false (.var 1) (.bin .add (.var 3) (.cst (.int 1))) (.cst .non)))] [], .iff (.cmp .eq (.var 4) (.cst (.int 2))) [.ret (.bin .add (.bin .add (.slc false true (.var 1) (.cst .non) (.var 3)) (.slc true true (.var 1) (.var 3) (.bin .add (.var 3) (.cst (.int 1))))) (.slc true false (.var 1) (.var 3) (.cst .non)))] [], .iff (.cmp .eq (.var 4) (.cst (.int 3))) [.ret (.bin .add (.slc true false (.var 1) (.var 3) (.cst .non)) (.slc false true (.var 1) (.cst .non) (.var 3)))] [], .iff (.cmp .eq (.var 4) (.cst (.int 4))) [.ret (.bin .add (.var 1) (.tup [(.tup [])]))] [], .iff (.cmp .eq (.var 4) (.cst (.int 5))) [.ret (.bin .add (.bin .add (.slc false true (.var 1) (.cst .non) (.var 3)) (.tup [(.cst (.int 0))])) (.slc true false (.var 1) (.var 3) (.cst .non)))] [], .iff (.cmp .eq (.var 4) (.cst (.int 6))) [.ret (.bin .add (.slc false true (.var 1) (.cst .non) (.neg (.cst (.int 1)))) (.slc false true (.var 1) (.cst .non) (.cst (.int 1))))] [], .ret (.cst .non)] [],
  .iff (.isi (.var 1) [.str]) [.ret (.call 25 [(.var 0), (.lst [(.bin .add (.var 1) (.cst (.str "b"))), (.cst (.str "")), (.slc true false (.var 1) (.cst (.int 1)) (.cst .non)), (.bin .add (.cst (.str "a")) (.var 1)), (.cst (.int 0))])])] [],
  .iff (.call 26 [(.var 1)]) [.ret (.call 25 [(.var 0), (.lst [(.bin .add (.var 1) (.cst (.int 1))), (.bin .sub (.var 1) (.cst (.int 1))), (.cmp .gt (.var 1) (.cst (.int 0))), (.bin .sub (.neg (.cst (.int 1))) (.var 1)), (.tup [(.var 1)]), (.cst .non), (.app .str [(.var 1)]), (.bin .add (.var 1) (.cst (.int 16)))])])] [],
  .ret (.call 25 [(.var 0), (.lst [(.cst (.int 0)), (.tup []), (.cst (.str "none"))])])]⟩
/-- _law_first(made, e) -/
def c45 : Fd := ⟨1, 2, [.tri [.ret (.tup [(.cst (.str "plan")), (.call 42 [(.var 0)])])] 1 4 "undefined"]⟩
/-- law(script, draft, box, n, made, due, some, k, row, odd, land, many, low, high, unit, values, value, rows, longer, one) -/
def c46 : Fd := ⟨1, 20, [.asg (.slot 1) (.call 31 [(.var 0), (.cst (.int 8))]),
  .asg (.slot 2) (.call 23 [(.var 0), (.cst (.int 4))]),
  .asg (.tup [(.slot 10), (.slot 11), (.slot 12), (.slot 13)]) (.var 1),
  .asg (.slot 3) (.app .len [(.idx (.var 10) (.cst (.int 0)))]),
  .asg (.slot 4) (.call 36 [(.var 1)]),
  .iff (.or (.oeq true 0 10 (.fld (.var 4) 4) (.mk 0 [(.idx (.var 10) (.cst (.int 0))), (.idx (.var 10) (.cst (.int 1))), (.idx (.var 10) (.cst (.int 2)))])) (.cmp .ne (.tup [(.fld (.var 4) 5), (.fld (.var 4) 6), (.fld (.var 4) 7)]) (.tup [(.var 11), (.var 12), (.var 13)]))) [.ret (.cst (.bl false))] [],
  .iff (.or (.not (.oeq false 1 14 (.var 4) (.call 36 [(.var 1)]))) (.oeq false 1 14 (.var 4) (.mk 1 [(.fld (.var 4) 4), (.var 11), (.var 12), (.ife (.cmp .lt (.var 13) (.cst (.int 999))) (.bin .add (.var 13) (.cst (.int 1))) (.ife (.cmp .gt (.var 13) (.var 12)) (.bin .sub (.var 13) (.cst (.int 1))) (.cst (.int 0))))]))) [.ret (.cst (.bl false))] [],
  .iff (.or (.and (.cmp .lt (.var 13) (.cst (.int 999))) (.oeq false 1 14 (.var 4) (.mk 1 [(.fld (.var 4) 4), (.var 11), (.bin .add (.var 12) (.cst (.int 1))), (.bin .add (.var 13) (.cst (.int 1)))]))) (.and (.cmp .gt (.var 12) (.cst (.int 0))) (.oeq false 1 14 (.var 4) (.mk 1 [(.fld (.var 4) 4), (.var 11), (.bin .sub (.var 12) (.cst (.int 1))), (.bin .sub (.var 13) (.cst (.int 1)))])))) [.ret (.cst (.bl false))] [],
  .asg (.slot 5) (.call 35 [(.var 1)]),
  .iff (.or (.cmp .ne (.call 19 [(.var 4)]) (.app .tuple [(.var 5)])) (.or (.cmp .ne (.call 41 [(.var 4)]) (.app .len [(.var 5)])) (.not (.call 26 [(.call 41 [(.var 4)])])))) [.ret (.cst (.bl false))] [],
  .iff (.cmp .ne (.call 45 [(.var 4)]) (.ife (.cmp .ne (.var 5) (.lst [])) (.tup [(.cst (.str "plan")), (.idx (.var 5) (.cst (.int 0)))]) (.tup [(.cst (.str "undefined")), (.cst (.str "plan"))]))) [.ret (.cst (.bl false))] [],
  .own 6 (.ife (.cmp .ne (.var 5) (.lst [])) (.lst [(.call 25 [(.var 2), (.var 5)])]) (.lst [(.bin .mul (.tup [(.cst (.int 0))]) (.var 3))])),
  .for_ (.slot 7) (.rng1 (.cst (.int 12))) [.asg (.slot 8) (.tup []), .for_ (.slot 14) (.rng1 (.var 3)) [.asg (.slot 8) (.bin .add (.var 8) (.tup [(.call 24 [(.var 2), (.app .min2 [(.var 11), (.bin .add (.app .maxl [(.bin .add (.tup [(.neg (.cst (.int 1)))]) (.var 8))]) (.cst (.int 2)))])])]))], .push 6 (.var 8)],
  .frz 6,
  .for_ (.slot 8) (.seq false (.var 6)) [.asg (.slot 15) (.lst [(.var 8), (.app .list [(.var 8)]), (.slc true false (.var 8) (.cst (.int 1)) (.cst .non)), (.bin .add (.var 8) (.tup [(.cst (.int 0))])), (.rev (.var 8)), (.app .tuple [(.comp [19] (.slot 19) (.seq true (.var 8)) (.cst (.bl true)) (.bin .mod (.app .int [(.bin .add (.var 19) (.cst (.int 1)))]) (.var 11)))]), (.cst .non), (.call 44 [(.var 2), (.var 8), (.cst (.int 1))])]), .for_ (.slot 16) (.seq false (.var 15)) [.iff (.not (.call 43 [(.call 40 [(.var 4), (.var 16)]), (.call 34 [(.var 1), (.var 16)])])) [.ret (.cst (.bl false))] []], .iff (.cmp .ne (.call 16 [(.var 8)]) (.app .tuple [(.comp [7] (.slot 7) (.rng1 (.bin .add (.app .maxl [(.var 8)]) (.cst (.int 1)))) (.cst (.bl true)) (.app .tuple [(.call 33 [(.var 8), (.var 7)])]))])) [.ret (.cst (.bl false))] []],
  .iff (.cmp .lt (.var 3) (.cst (.int 5))) [.asg (.slot 17) (.lst [(.tup [])]), .for_ (.slot 14) (.rng1 (.var 3)) [.asg (.slot 18) (.lst []), .for_ (.slot 8) (.seq false (.var 17)) [.asg (.slot 18) (.bin .add (.var 18) (.comp [7] (.slot 7) (.rng1 (.var 11)) (.cst (.bl true)) (.bin .add (.var 8) (.tup [(.var 7)]))))], .asg (.slot 17) (.var 18)], .iff (.cmp .ne (.comp [8] (.slot 8) (.seq true (.var 17)) (.not (.call 43 [(.call 40 [(.var 4), (.var 8)]), (.cmp .isin (.var 8) (.var 5))])) (.var 8)) (.lst [])) [.ret (.cst (.bl false))] []] [],
  .asg (.slot 8) (.app .tuple [(.comp [7] (.slot 7) (.rng1 (.bin .add (.cst (.int 1)) (.call 24 [(.var 2), (.cst (.int 8))]))) (.cst (.bl true)) (.call 24 [(.var 2), (.cst (.int 8))]))]),
  .iff (.or (.cmp .ne (.call 16 [(.tup [])]) (.tup [])) (.cmp .ne (.call 16 [(.var 8)]) (.app .tuple [(.comp [7] (.slot 7) (.rng1 (.bin .add (.app .maxl [(.var 8)]) (.cst (.int 1)))) (.cst (.bl true)) (.app .tuple [(.call 33 [(.var 8), (.var 7)])]))]))) [.ret (.cst (.bl false))] [],
  .for_ (.slot 9) (.seq false (.lst [(.cst (.int 0)), (.cst (.int 5)), (.neg (.cst (.int 1))), (.cst .non), (.cst (.bl true)), (.cst (.str "2"))])) [.iff (.cmp .ne (.call 37 [(.fld (.var 4) 4), (.var 9), (.cst .non), (.cst .non)]) (.tup [(.cst (.str "number")), (.var 9)])) [.ret (.cst (.bl false))] []],
  .for_ (.slot 9) (.seq false (.lst [(.neg (.cst (.int 1))), (.cst (.int 1000)), (.cst .non), (.cst (.bl true)), (.cst (.str "2"))])) [.iff (.or (.cmp .ne (.call 37 [(.fld (.var 4) 4), (.var 11), (.var 9), (.cst .non)]) (.tup [(.cst (.str "number")), (.var 9)])) (.cmp .ne (.call 37 [(.fld (.var 4) 4), (.var 11), (.cst (.int 0)), (.var 9)]) (.tup [(.cst (.str "number")), (.var 9)]))) [.ret (.cst (.bl false))] []],
  .ret (.and (.cmp .eq (.call 37 [(.fld (.var 4) 4), (.var 11), (.cst (.int 5)), (.cst (.int 4))]) (.tup [(.cst (.str "number")), (.cst (.int 4))])) (.cmp .eq (.call 37 [(.fld (.var 4) 4), (.cst (.int 4)), (.cst (.int 999)), (.cst (.int 999))]) (.tup [(.cst (.str "kept")), (.cst (.int 4)), (.cst (.int 999)), (.cst (.int 999))])))]⟩
/-- lead_of(land, units, unit) -/
def c47 : Fd := ⟨2, 3, [.ret (.app .sum [(.comp [2] (.slot 2) (.seq true (.var 1)) (.cst (.bl true)) (.idx (.fld (.var 0) 1) (.var 2)))])]⟩
/-- seats_of(land, plan, units) -/
def c48 : Fd := ⟨2, 3, [.ret (.app .len [(.comp [2] (.slot 2) (.seq true (.call 16 [(.var 1)])) (.cmp .gt (.call 47 [(.var 0), (.var 2)]) (.cst (.int 0))) (.var 2))])]⟩
/-- seats(draft, plan) -/
def c49 : Fd := ⟨2, 2, [.iff (.not (.call 40 [(.var 0), (.var 1)])) [.rais 5 (.var 1)] [],
  .ret (.call 48 [(.fld (.var 0) 4), (.var 1)])]⟩
/-- fairest(draft, found, won) -/
def c51 : Fd := ⟨1, 3, [.asg (.slot 1) (.call 50 [(.var 0)]),
  .iff (.cmp .eq (.app .len [(.var 1)]) (.cst (.int 0))) [.rais 4 (.cst (.str "plan"))] [],
  .ret (.idx (.app .minl [(.comp [2] (.slot 2) (.seq true (.var 1)) (.cst (.bl true)) (.tup [(.app .max2 [(.bin .sub (.idx (.var 1) (.neg (.cst (.int 1)))) (.var 2)), (.bin .sub (.var 2) (.idx (.var 1) (.cst (.int 0))))]), (.var 2)]))]) (.cst (.int 1)))]⟩
/-- cuts_of(land, plan, tie) -/
def c52 : Fd := ⟨2, 3, [.ret (.app .len [(.comp [2] (.slot 2) (.seq true (.fld (.var 0) 2)) (.cmp .ne (.idx (.var 1) (.idx (.var 2) (.cst (.int 0)))) (.idx (.var 1) (.idx (.var 2) (.cst (.int 1))))) (.var 2))])]⟩
/-- cut_ties(draft, plan) -/
def c53 : Fd := ⟨2, 2, [.iff (.not (.call 40 [(.var 0), (.var 1)])) [.rais 5 (.var 1)] [],
  .ret (.call 52 [(.fld (.var 0) 4), (.var 1)])]⟩
/-- spread_of(draft, plan, people, sums, units, unit) -/
def c54 : Fd := ⟨2, 6, [.asg (.slot 2) (.fld (.fld (.var 0) 4) 0),
  .asg (.slot 3) (.comp [4] (.slot 4) (.seq true (.call 16 [(.var 1)])) (.cst (.bl true)) (.app .sum [(.comp [5] (.slot 5) (.seq true (.var 4)) (.cst (.bl true)) (.idx (.var 2) (.var 5)))])),
  .ret (.bin .sub (.app .maxl [(.var 3)]) (.app .minl [(.var 3)]))]⟩
/-- spread(draft, plan) -/
def c55 : Fd := ⟨2, 2, [.iff (.not (.call 40 [(.var 0), (.var 1)])) [.rais 5 (.var 1)] [],
  .ret (.call 54 [(.var 0), (.var 1)])]⟩
/-- least_spread(draft) -/
def c56 : Fd := ⟨1, 1, [.ret (.call 54 [(.var 0), (.call 57 [(.var 0)])])]⟩
/-- _law_seats(draft, plan, found, district, unit) -/
def c58 : Fd := ⟨2, 5, [.asg (.slot 2) (.cst (.int 0)),
  .for_ (.slot 3) (.rng1 (.idx (.var 0) (.cst (.int 1)))) [.asg (.slot 2) (.bin .add (.var 2) (.app .int [(.cmp .gt (.app .sum [(.comp [4] (.slot 4) (.seq true (.call 33 [(.var 1), (.var 3)])) (.cst (.bl true)) (.idx (.idx (.idx (.var 0) (.cst (.int 0))) (.cst (.int 1))) (.var 4)))]) (.cst (.int 0)))]))],
  .ret (.var 2)]⟩
/-- _law_spread(draft, plan, sizes, district, unit) -/
def c59 : Fd := ⟨2, 5, [.asg (.slot 2) (.comp [3] (.slot 3) (.rng1 (.idx (.var 0) (.cst (.int 1)))) (.cst (.bl true)) (.app .sum [(.comp [4] (.slot 4) (.seq true (.call 33 [(.var 1), (.var 3)])) (.cst (.bl true)) (.idx (.idx (.idx (.var 0) (.cst (.int 0))) (.cst (.int 0))) (.var 4)))])),
  .ret (.bin .sub (.app .maxl [(.var 2)]) (.app .minl [(.var 2)]))]⟩
/-- _law_no_plans(box, draft, every, n, found, k, plan, land, many, low, high, row, unit, turned, one) -/
def c60 : Fd := ⟨3, 15, [.asg (.tup [(.slot 7), (.slot 8), (.slot 9), (.slot 10)]) (.var 1),
  .asg (.slot 3) (.app .len [(.idx (.var 7) (.cst (.int 0)))]),
  .own 4 (.lst [(.bin .mul (.tup [(.cst (.int 0))]) (.bin .add (.var 3) (.cst (.int 1)))), (.bin .mul (.lst [(.cst (.int 0))]) (.var 3)), (.cst .non), (.bin .mul (.tup [(.var 8)]) (.var 3)), (.tup []), (.bin .add (.bin .mul (.tup [(.cst (.int 0))]) (.bin .sub (.var 3) (.cst (.int 1)))) (.tup [(.cst (.bl true))]))]),
  .for_ (.slot 5) (.rng1 (.cst (.int 8))) [.asg (.slot 11) (.tup []), .for_ (.slot 12) (.rng1 (.var 3)) [.asg (.slot 11) (.bin .add (.var 11) (.tup [(.call 24 [(.var 0), (.app .min2 [(.var 8), (.bin .add (.app .maxl [(.bin .add (.tup [(.neg (.cst (.int 1)))]) (.var 11))]) (.cst (.int 2)))])])]))], .iff (.cmp .notin (.var 11) (.var 2)) [.push 4 (.var 11)] []],
  .for_ (.slot 6) (.seq false (.slc false true (.var 2) (.cst .non) (.cst (.int 1)))) [.asg (.slot 13) (.app .tuple [(.comp [14] (.slot 14) (.seq true (.var 6)) (.cst (.bl true)) (.bin .mod (.app .int [(.bin .add (.var 14) (.cst (.int 1)))]) (.var 8)))]), .iff (.cmp .notin (.var 13) (.var 2)) [.push 4 (.var 13)] []],
  .frz 4,
  .ret (.var 4)]⟩
/-- _wall(k) -/
def c62 : Fd := ⟨1, 1, [.whl (.cst (.bl true)) [.pas]]⟩
/-- is_kind(value) -/
def c63 : Fd := ⟨1, 1, [.ret (.and (.isi (.var 0) [.str]) (.cmp .isin (.var 0) (.glo 6)))]⟩
/-- swapped(plan, found, one, other, row) -/
def c66 : Fd := ⟨1, 5, [.own 1 (.lst []),
  .for_ (.slot 2) (.rng1 (.app .len [(.var 0)])) [.for_ (.slot 3) (.rng2 (.bin .add (.var 2) (.cst (.int 1))) (.app .len [(.var 0)])) [.asg (.slot 4) (.app .list [(.var 0)]), .cset (.var 4) (.var 2) (.idx (.var 0) (.var 3)), .cset (.var 4) (.var 3) (.idx (.var 0) (.var 2)), .push 1 (.call 64 [(.var 4)])]],
  .frz 1,
  .ret (.var 1)]⟩
/-- others_of(plan, parts, many, found, low, high, at) -/
def c67 : Fd := ⟨1, 7, [.asg (.slot 1) (.call 16 [(.var 0)]),
  .asg (.slot 2) (.app .len [(.var 1)]),
  .own 3 (.lst []),
  .for_ (.slot 4) (.rng1 (.var 2)) [.for_ (.slot 5) (.rng2 (.bin .add (.var 4) (.cst (.int 1))) (.var 2)) [.push 3 (.app .tuple [(.comp [6] (.slot 6) (.rng1 (.var 2)) (.cmp .notin (.var 6) (.tup [(.var 4), (.var 5)])) (.idx (.var 1) (.var 6)))])]],
  .frz 3,
  .ret (.var 3)]⟩
/-- Paths.counts_from(self, plan) -/
def c70 : Fd := ⟨2, 2, [.ex (.call 62 [(.cst (.int 0))])]⟩
/-- look_at(draft, plan, kind) -/
def c71 : Fd := ⟨3, 3, [.iff (.not (.call 40 [(.var 0), (.var 1)])) [.rais 5 (.var 1)] [],
  .iff (.not (.call 63 [(.var 2)])) [.rais 6 (.var 2)] []]⟩
/-- look_at(draft, plan, kind) -/
def c71_1 : Fd := ⟨3, 4, [.asg (.slot 3) (.app .len [(.fld (.var 0) 0)]),
  .iff (.not (.call 107 [(.var 1), (.var 3)])) [.rais 0 (.var 1)] [],
  .iff (.or (.not (.call 107 [(.var 2), (.var 3)])) (.cmp .eq (.var 2) (.var 1))) [.rais 0 (.var 2)] []]⟩
/-- _law_parts(plan, k) -/
def c73 : Fd := ⟨1, 2, [.ret (.app .sorted [(.comp [1] (.slot 1) (.rng1 (.bin .add (.app .maxl [(.var 0)]) (.cst (.int 1)))) (.cst (.bl true)) (.app .tuple [(.call 33 [(.var 0), (.var 1)])]))])]⟩
/-- _law_rests(plan, parts, found, i, j, k) -/
def c75 : Fd := ⟨1, 6, [.asg (.slot 1) (.call 73 [(.var 0)]),
  .own 2 (.lst []),
  .for_ (.slot 3) (.rng1 (.app .len [(.var 1)])) [.for_ (.slot 4) (.rng1 (.var 3)) [.push 2 (.app .tuple [(.comp [5] (.slot 5) (.rng1 (.app .len [(.var 1)])) (.and (.cmp .ne (.var 5) (.var 3)) (.cmp .ne (.var 5) (.var 4))) (.idx (.var 1) (.var 5)))])]],
  .frz 2,
  .ret (.var 2)]⟩
/-- _law_few_draft(script, most, bound, draft, turn, even, land, many, low, high) -/
def c77 : Fd := ⟨3, 10, [.asg (.slot 3) (.call 31 [(.var 0), (.var 1)]),
  .for_ (.slot 4) (.rng1 (.cst (.int 8))) [.iff (.cmp .le (.app .len [(.call 35 [(.var 3)])]) (.var 2)) [.ret (.var 3)] [], .asg (.tup [(.slot 6), (.slot 7), (.slot 8), (.slot 9)]) (.var 3), .asg (.slot 5) (.bin .fdiv (.app .sum [(.idx (.var 6) (.cst (.int 0)))]) (.var 7)), .asg (.slot 3) (.tup [(.var 6), (.var 7), (.app .min2 [(.var 5), (.bin .add (.var 8) (.app .max2 [(.cst (.int 1)), (.bin .fdiv (.bin .sub (.var 5) (.var 8)) (.cst (.int 2)))]))]), (.app .max2 [(.var 5), (.bin .sub (.var 9) (.app .max2 [(.cst (.int 1)), (.bin .fdiv (.bin .sub (.var 9) (.var 5)) (.cst (.int 2)))]))])])],
  .asg (.tup [(.slot 6), (.slot 7), (.slot 8), (.slot 9)]) (.var 3),
  .ret (.tup [(.tup [(.idx (.var 6) (.cst (.int 0))), (.idx (.var 6) (.cst (.int 1))), (.slc false true (.idx (.var 6) (.cst (.int 2))) (.cst .non) (.bin .sub (.app .len [(.idx (.var 6) (.cst (.int 0)))]) (.cst (.int 1))))]), (.var 7), (.var 8), (.var 9)])]⟩
/-- _law_plan_draft(script, most, bound, draft, land, many, low, high) -/
def c78 : Fd := ⟨3, 8, [.asg (.slot 3) (.call 77 [(.var 0), (.var 1), (.var 2)]),
  .iff (.cmp .eq (.call 35 [(.var 3)]) (.lst [])) [.asg (.tup [(.slot 4), (.slot 5), (.slot 6), (.slot 7)]) (.var 3), .asg (.slot 3) (.tup [(.var 4), (.app .min2 [(.var 5), (.app .len [(.idx (.var 4) (.cst (.int 0)))])]), (.app .max2 [(.cst (.int 0)), (.bin .sub (.var 6) (.app .sum [(.idx (.var 4) (.cst (.int 0)))]))]), (.app .min2 [(.cst (.int 999)), (.bin .add (.var 7) (.app .sum [(.idx (.var 4) (.cst (.int 0)))]))])]), .iff (.cmp .gt (.app .len [(.call 35 [(.var 3)])]) (.var 2)) [.ret (.call 77 [(.var 0), (.var 1), (.var 2)])] []] [],
  .ret (.var 3)]⟩
/-- law(script, draft, box, made, every, n, odd, some, kind, leads, plan) -/
def c79 : Fd := ⟨1, 11, [.asg (.slot 1) (.call 78 [(.var 0), (.cst (.int 8)), (.cst (.int 4000))]),
  .asg (.slot 2) (.call 23 [(.var 0), (.cst (.int 4))]),
  .asg (.slot 3) (.call 36 [(.var 1)]),
  .asg (.slot 4) (.call 35 [(.var 1)]),
  .asg (.slot 5) (.app .len [(.idx (.idx (.var 1) (.cst (.int 0))) (.cst (.int 0)))]),
  .for_ (.slot 6) (.seq false (.bin .add (.call 60 [(.var 2), (.var 1), (.var 4)]) (.lst [(.bin .mul (.tup [(.cst (.bl true))]) (.var 5))]))) [.iff (.cmp .ne (.call 37 [(.var 3), (.var 6), (.cst .non)]) (.tup [(.cst (.str "plan")), (.var 6)])) [.ret (.cst (.bl false))] []],
  .iff (.cmp .eq (.var 4) (.lst [])) [.ret (.cst (.bl true))] [],
  .asg (.slot 7) (.lst [(.idx (.var 4) (.cst (.int 0))), (.idx (.var 4) (.neg (.cst (.int 1)))), (.call 25 [(.var 2), (.var 4)]), (.call 25 [(.var 2), (.var 4)])]),
  .for_ (.slot 8) (.seq false (.lst [(.cst (.str "flip")), (.cst (.str "swap")), (.cst (.str "join"))])) [.asg (.slot 9) (.call 76 [(.var 4), (.var 8)]), .for_ (.slot 10) (.seq false (.var 7)) [.iff (.cmp .ne (.call 37 [(.var 3), (.var 10), (.var 8)]) (.tup [(.cst (.str "told")), (.app .tuple [(.idx (.var 9) (.var 10))])])) [.ret (.cst (.bl false))] []]],
  .for_ (.slot 6) (.seq false (.lst [(.cst (.str "Flip")), (.cst (.str "")), (.cst .non), (.cst (.int 0)), (.tup [(.cst (.str "flip"))]), (.cst (.str "flips"))])) [.iff (.cmp .ne (.call 37 [(.var 3), (.idx (.var 7) (.cst (.int 0))), (.var 6)]) (.tup [(.cst (.str "kind")), (.var 6)])) [.ret (.cst (.bl false))] []],
  .ret (.cst (.bl true))]⟩
/-- ascending(row, at) -/
def c80 : Fd := ⟨1, 2, [.ret (.app .all [(.comp [1] (.slot 1) (.rng1 (.bin .sub (.app .len [(.var 0)]) (.cst (.int 1)))) (.cst (.bl true)) (.cmp .lt (.idx (.var 0) (.var 1)) (.idx (.var 0) (.bin .add (.var 1) (.cst (.int 1))))))])]⟩
/-- is_join(plan, other, kept, units) -/
def c81 : Fd := ⟨2, 4, [.asg (.slot 2) (.call 16 [(.var 1)]),
  .ret (.cmp .eq (.app .len [(.comp [3] (.slot 3) (.seq true (.call 16 [(.var 0)])) (.cmp .notin (.var 3) (.var 2)) (.var 3))]) (.cst (.int 2)))]⟩
/-- is_move(plan, other, kind) -/
def c82 : Fd := ⟨3, 3, [.iff (.cmp .eq (.var 0) (.var 1)) [.ret (.cst (.bl false))] [],
  .iff (.cmp .eq (.var 2) (.cst (.str "join"))) [.ret (.call 81 [(.var 0), (.var 1)])] [],
  .ret (.cmp .isin (.var 1) (.ife (.cmp .eq (.var 2) (.cst (.str "flip"))) (.call 65 [(.var 0)]) (.call 66 [(.var 0)])))]⟩
/-- way_holds(draft, kind, value, at, plan) -/
def c84 : Fd := ⟨3, 5, [.iff (.or (.not (.call 63 [(.var 1)])) (.or (.not (.isi (.var 2) [.tuple])) (.cmp .eq (.app .len [(.var 2)]) (.cst (.int 0))))) [.ret (.cst (.bl false))] [],
  .iff (.not (.app .all [(.comp [4] (.slot 4) (.seq true (.var 2)) (.cst (.bl true)) (.call 40 [(.var 0), (.var 4)]))])) [.ret (.cst (.bl false))] [],
  .ret (.app .all [(.comp [3] (.slot 3) (.rng1 (.bin .sub (.app .len [(.var 2)]) (.cst (.int 1)))) (.cst (.bl true)) (.call 82 [(.idx (.var 2) (.var 3)), (.idx (.var 2) (.bin .add (.var 3) (.cst (.int 1)))), (.var 1)]))])]⟩
/-- _law_first_way(leads, plan, other, togo, found, turn, one) -/
def c89 : Fd := ⟨3, 7, [.asg (.slot 3) (.idx (.call 88 [(.var 0), (.var 2)]) (.cst (.int 0))),
  .iff (.cmp .notin (.var 1) (.var 3)) [.ret (.cst .non)] [],
  .asg (.slot 4) (.tup [(.var 1)]),
  .for_ (.slot 5) (.rng1 (.idx (.var 3) (.var 1))) [.asg (.slot 4) (.bin .add (.var 4) (.tup [(.idx (.comp [6] (.slot 6) (.seq true (.idx (.var 0) (.idx (.var 4) (.neg (.cst (.int 1)))))) (.and (.cmp .isin (.var 6) (.var 3)) (.cmp .eq (.idx (.var 3) (.var 6)) (.bin .sub (.idx (.var 3) (.idx (.var 4) (.neg (.cst (.int 1))))) (.cst (.int 1))))) (.var 6)) (.cst (.int 0)))]))],
  .ret (.var 4)]⟩
/-- law(script, box, draft, made, every, n, odd, word, leads, whole, plan, k, due, here, other, one) -/
def c90 : Fd := ⟨1, 16, [.asg (.slot 1) (.call 23 [(.var 0), (.cst (.int 4))]),
  .asg (.slot 2) (.call 78 [(.var 0), (.cst (.int 8)), (.idx (.lst [(.cst (.int 120)), (.cst (.int 120)), (.cst (.int 120)), (.cst (.int 4000))]) (.call 24 [(.var 1), (.cst (.int 4))]))]),
  .asg (.slot 3) (.call 36 [(.var 2)]),
  .asg (.slot 4) (.call 35 [(.var 2)]),
  .asg (.slot 5) (.app .len [(.idx (.idx (.var 2) (.cst (.int 0))) (.cst (.int 0)))]),
  .for_ (.slot 6) (.seq false (.slc false true (.call 60 [(.var 1), (.var 2), (.var 4)]) (.cst .non) (.cst (.int 9)))) [.iff (.or (.cmp .ne (.call 37 [(.cst (.int 0)), (.var 3), (.var 6), (.cst .non), (.cst .non)]) (.tup [(.cst (.str "plan")), (.var 6)])) (.cmp .ne (.call 37 [(.cst (.int 1)), (.var 3), (.var 6), (.cst .non), (.cst .non)]) (.tup [(.cst (.str "plan")), (.var 6)]))) [.ret (.cst (.bl false))] [], .iff (.and (.cmp .ne (.var 4) (.lst [])) (.cmp .ne (.call 37 [(.cst (.int 0)), (.var 3), (.idx (.var 4) (.cst (.int 0))), (.var 6), (.cst .non)]) (.tup [(.cst (.str "plan")), (.var 6)]))) [.ret (.cst (.bl false))] []],
  .for_ (.slot 7) (.seq false (.lst [(.cst (.str "flip")), (.cst (.str "swap")), (.cst (.str "join"))])) [.asg (.slot 8) (.call 76 [(.var 4), (.var 7)]), .own 9 (.lst []), .for_ (.slot 10) (.seq false (.var 4)) [.iff (.cmp .eq (.comp [15] (.slot 15) (.seq true (.peek 9)) (.cmp .isin (.var 10) (.var 15)) (.var 15)) (.lst [])) [.push 9 (.app .tuple [(.app .sorted [(.idx (.call 88 [(.var 8), (.var 10)]) (.cst (.int 1)))])])] []], .iff (.cmp .ne (.call 37 [(.cst (.int 2)), (.var 3), (.cst .non), (.cst .non), (.var 7)]) (.tup [(.cst (.str "told")), (.app .tuple [(.app .sorted [(.peek 9)])])])) [.ret (.cst (.bl false))] [], .for_ (.slot 11) (.rng1 (.cst (.int 3))) [.iff (.cmp .ne (.var 4) (.lst [])) [.par [10, 14] [(.call 25 [(.var 1), (.var 4)]), (.call 25 [(.var 1), (.var 4)])], .asg (.slot 12) (.call 89 [(.var 8), (.var 10), (.var 14)]), .iff (.cmp .ne (.call 37 [(.cst (.int 0)), (.var 3), (.var 10), (.var 14), (.var 7)]) (.ife (.cmp .is (.var 12) (.cst .non)) (.tup [(.cst (.str "undefined")), (.cst (.str "apart"))]) (.tup [(.cst (.str "told")), (.var 12)]))) [.ret (.cst (.bl false))] [], .iff (.and (.cmp .isnot (.var 12) (.cst .non)) (.cmp .isnot (.call 84 [(.var 3), (.var 7), (.var 12)]) (.cst (.bl true)))) [.ret (.cst (.bl false))] [], .asg (.slot 13) (.idx (.comp [15] (.slot 15) (.seq true (.peek 9)) (.cmp .isin (.var 10) (.var 15)) (.var 15)) (.cst (.int 0))), .iff (.or (.cmp .ne (.call 37 [(.cst (.int 1)), (.var 3), (.var 10), (.cst .non), (.var 7)]) (.tup [(.cst (.str "told")), (.var 13)])) (.cmp .isnot (.call 86 [(.var 3), (.var 7), (.var 13)]) (.cst (.bl true)))) [.ret (.cst (.bl false))] [], .iff (.cmp .ne (.cmp .isin (.var 14) (.var 13)) (.cmp .isnot (.var 12) (.cst .non))) [.ret (.cst (.bl false))] []] []]],
  .for_ (.slot 6) (.seq false (.lst [(.cst (.str "Flip")), (.cst (.str "")), (.cst .non), (.cst (.int 0))])) [.iff (.cmp .ne (.call 37 [(.cst (.int 2)), (.var 3), (.cst .non), (.cst .non), (.var 6)]) (.tup [(.cst (.str "kind")), (.var 6)])) [.ret (.cst (.bl false))] [], .iff (.and (.cmp .ne (.var 4) (.lst [])) (.or (.cmp .ne (.call 37 [(.cst (.int 0)), (.var 3), (.idx (.var 4) (.cst (.int 0))), (.idx (.var 4) (.cst (.int 0))), (.var 6)]) (.tup [(.cst (.str "kind")), (.var 6)])) (.cmp .ne (.call 37 [(.cst (.int 1)), (.var 3), (.idx (.var 4) (.cst (.int 0))), (.cst .non), (.var 6)]) (.tup [(.cst (.str "kind")), (.var 6)])))) [.ret (.cst (.bl false))] []],
  .ret (.cst (.bl true))]⟩
/-- _law_is_way(leads, value, plan, k) -/
def c91 : Fd := ⟨2, 4, [.iff (.or (.not (.isi (.var 1) [.tuple])) (.cmp .eq (.var 1) (.tup []))) [.ret (.cst (.bl false))] [],
  .iff (.cmp .ne (.comp [2] (.slot 2) (.seq true (.var 1)) (.not (.call 92 [(.var 0), (.var 2)])) (.var 2)) (.lst [])) [.ret (.cst (.bl false))] [],
  .ret (.cmp .eq (.comp [3] (.slot 3) (.rng2 (.cst (.int 1)) (.app .len [(.var 1)])) (.cmp .notin (.idx (.var 1) (.var 3)) (.idx (.var 0) (.idx (.var 1) (.bin .sub (.var 3) (.cst (.int 1)))))) (.var 3)) (.lst []))]⟩
/-- _law_is_known(leads, value) -/
def c92 : Fd := ⟨2, 2, [.ret (.and (.call 27 [(.var 1), (.cst (.int 9))]) (.cmp .isin (.var 1) (.var 0)))]⟩
/-- _law_is_island(leads, value, plan, k, other) -/
def c93 : Fd := ⟨2, 5, [.iff (.or (.not (.isi (.var 1) [.tuple])) (.or (.cmp .eq (.var 1) (.tup [])) (.cmp .ne (.comp [2] (.slot 2) (.seq true (.var 1)) (.not (.call 92 [(.var 0), (.var 2)])) (.var 2)) (.lst [])))) [.ret (.cst (.bl false))] [],
  .iff (.cmp .ne (.comp [3] (.slot 3) (.rng2 (.cst (.int 1)) (.app .len [(.var 1)])) (.cmp .ge (.idx (.var 1) (.bin .sub (.var 3) (.cst (.int 1)))) (.idx (.var 1) (.var 3))) (.var 3)) (.lst [])) [.ret (.cst (.bl false))] [],
  .for_ (.slot 2) (.seq false (.var 1)) [.iff (.cmp .ne (.comp [4] (.slot 4) (.seq true (.idx (.var 0) (.var 2))) (.cmp .notin (.var 4) (.var 1)) (.var 4)) (.lst [])) [.ret (.cst (.bl false))] []],
  .ret (.cst (.bl true))]⟩
/-- is_integer_checks(value) -/
def c95 : Fd := ⟨1, 1, [.ret (.and (.isi (.var 0) [.int]) (.not (.isi (.var 0) [.bool])))]⟩
/-- is_rising(value, high, part) -/
def c96 : Fd := ⟨2, 3, [.iff (.or (.not (.isi (.var 0) [.tuple])) (.or (.cmp .eq (.app .len [(.var 0)]) (.cst (.int 0))) (.not (.app .all [(.comp [2] (.slot 2) (.seq true (.var 0)) (.cst (.bl true)) (.call 1 [(.var 2), (.cst (.int 0)), (.var 1)]))])))) [.ret (.cst (.bl false))] [],
  .ret (.call 4 [(.var 0)])]⟩
/-- hangs(land, units) -/
def c97 : Fd := ⟨2, 2, [.ret (.and (.call 96 [(.var 1), (.bin .sub (.app .len [(.fld (.var 0) 0)]) (.cst (.int 1)))]) (.call 12 [(.var 0), (.var 1)]))]⟩
/-- is_tree(land, many) -/
def c98 : Fd := ⟨1, 2, [.asg (.slot 1) (.app .len [(.fld (.var 0) 0)]),
  .ret (.and (.cmp .eq (.app .len [(.fld (.var 0) 2)]) (.bin .sub (.var 1) (.cst (.int 1)))) (.call 97 [(.var 0), (.app .trange [(.var 1)])]))]⟩
/-- equal_ties(land, many, share, found, tie, side, other, unit) -/
def c100 : Fd := ⟨2, 8, [.iff (.or (.not (.call 98 [(.var 0)])) (.cmp .isin (.cst (.int 0)) (.fld (.var 0) 0))) [.rais 4 (.cst (.str "tree"))] [],
  .iff (.or (.not (.call 95 [(.var 1)])) (.not (.chain .le .le (.cst (.int 1)) (.var 1) (.glo 7)))) [.rais 0 (.var 1)] [],
  .iff (.cmp .ne (.bin .mod (.app .sum [(.fld (.var 0) 0)]) (.var 1)) (.cst (.int 0))) [.rais 4 (.cst (.str "share"))] [],
  .asg (.slot 2) (.bin .fdiv (.app .sum [(.fld (.var 0) 0)]) (.var 1)),
  .own 3 (.lst []),
  .for_ (.slot 4) (.seq false (.fld (.var 0) 2)) [.asg (.slot 5) (.call 99 [(.comp [6] (.slot 6) (.seq true (.fld (.var 0) 2)) (.cmp .ne (.var 6) (.var 4)) (.var 6)), (.idx (.var 4) (.cst (.int 0)))]), .iff (.cmp .eq (.bin .mod (.app .sum [(.comp [7] (.slot 7) (.seq true (.var 5)) (.cst (.bl true)) (.idx (.fld (.var 0) 0) (.var 7)))]) (.var 2)) (.cst (.int 0))) [.push 3 (.var 4)] []],
  .ret (.app .tuple [(.peek 3)])]⟩
/-- _law_sides(ties, n, tie, rest, found, turn, pair, a, b) -/
def c102 : Fd := ⟨3, 9, [.asg (.slot 3) (.comp [6] (.slot 6) (.seq true (.var 0)) (.cmp .ne (.var 6) (.var 2)) (.var 6)),
  .own 4 (.lst [(.idx (.var 2) (.cst (.int 0)))]),
  .for_ (.slot 5) (.rng1 (.var 1)) [.for_ (.tup [(.slot 7), (.slot 8)]) (.seq false (.var 3)) [.iff (.and (.cmp .isin (.var 7) (.peek 4)) (.cmp .notin (.var 8) (.peek 4))) [.push 4 (.var 8)] [], .iff (.and (.cmp .isin (.var 8) (.peek 4)) (.cmp .notin (.var 7) (.peek 4))) [.push 4 (.var 7)] []]],
  .frz 4,
  .ret (.var 4)]⟩
/-- _law_ways_to_part(land, many, size, found, unit, good, row, longer, parts, k, part, j) -/
def c104 : Fd := ⟨3, 12, [.asg (.slot 3) (.lst [(.tup [])]),
  .for_ (.slot 4) (.rng1 (.app .len [(.idx (.var 0) (.cst (.int 0)))])) [.own 7 (.lst []), .for_ (.slot 6) (.seq false (.var 3)) [.for_ (.slot 9) (.rng1 (.app .min2 [(.var 1), (.bin .add (.app .maxl [(.bin .add (.tup [(.neg (.cst (.int 1)))]) (.var 6))]) (.cst (.int 2)))])) [.iff (.cmp .le (.bin .add (.idx (.idx (.var 0) (.cst (.int 0))) (.var 4)) (.app .sum [(.comp [11] (.slot 11) (.rng1 (.var 4)) (.cmp .eq (.idx (.var 6) (.var 11)) (.var 9)) (.idx (.idx (.var 0) (.cst (.int 0))) (.var 11)))])) (.var 2)) [.push 7 (.bin .add (.var 6) (.tup [(.var 9)]))] []]], .frz 7, .asg (.slot 3) (.var 7)],
  .own 5 (.lst []),
  .for_ (.slot 6) (.seq false (.var 3)) [.asg (.slot 8) (.call 73 [(.var 6)]), .iff (.and (.cmp .eq (.app .len [(.var 8)]) (.var 1)) (.cmp .eq (.comp [10] (.slot 10) (.seq true (.var 8)) (.or (.not (.call 32 [(.idx (.var 0) (.cst (.int 2))), (.var 10)])) (.cmp .ne (.app .sum [(.comp [9] (.slot 9) (.seq true (.var 10)) (.cst (.bl true)) (.idx (.idx (.var 0) (.cst (.int 0))) (.var 9)))]) (.var 2))) (.var 10)) (.lst []))) [.push 5 (.var 6)] []],
  .frz 5,
  .ret (.var 5)]⟩
/-- law(script, box, many, land, n, made, tree, ring, odd, total, size, due, every, people, leads, ties, tie, one, k) -/
def c105 : Fd := ⟨1, 19, [.asg (.slot 1) (.call 23 [(.var 0), (.cst (.int 0))]),
  .asg (.slot 2) (.bin .add (.cst (.int 1)) (.call 24 [(.var 1), (.idx (.lst [(.cst (.int 4)), (.cst (.int 8))]) (.call 24 [(.var 1), (.cst (.int 2))]))])),
  .asg (.slot 3) (.call 103 [(.call 23 [(.var 0), (.cst (.int 1))]), (.var 2)]),
  .iff (.cmp .eq (.call 24 [(.var 1), (.cst (.int 5))]) (.cst (.int 0))) [.asg (.slot 3) (.call 30 [(.call 23 [(.var 0), (.cst (.int 2))]), (.cst (.int 8))])] [],
  .asg (.tup [(.slot 13), (.slot 14), (.slot 15)]) (.var 3),
  .asg (.slot 4) (.app .len [(.var 13)]),
  .asg (.slot 5) (.mk 0 [(.var 13), (.var 14), (.var 15)]),
  .asg (.slot 6) (.and (.cmp .eq (.app .len [(.var 15)]) (.bin .sub (.var 4) (.cst (.int 1)))) (.call 32 [(.var 15), (.app .lrange [(.var 4)])])),
  .iff (.not (.call 43 [(.call 98 [(.var 5)]), (.var 6)])) [.ret (.cst (.bl false))] [],
  .asg (.slot 7) (.mk 0 [(.tup [(.cst (.int 1)), (.cst (.int 1)), (.cst (.int 1)), (.cst (.int 1))]), (.tup [(.cst (.int 0)), (.cst (.int 0)), (.cst (.int 0)), (.cst (.int 0))]), (.tup [(.tup [(.cst (.int 0)), (.cst (.int 1))]), (.tup [(.cst (.int 0)), (.cst (.int 2))]), (.tup [(.cst (.int 1)), (.cst (.int 2))])])]),
  .iff (.or (.cmp .isnot (.call 98 [(.var 7)]) (.cst (.bl false))) (.cmp .ne (.call 37 [(.cst (.int 0)), (.var 7), (.cst (.int 2))]) (.tup [(.cst (.str "undefined")), (.cst (.str "tree"))]))) [.ret (.cst (.bl false))] [],
  .iff (.or (.not (.var 6)) (.cmp .isin (.cst (.int 0)) (.var 13))) [.ret (.and (.cmp .eq (.call 37 [(.cst (.int 0)), (.var 5), (.cst .non)]) (.tup [(.cst (.str "undefined")), (.cst (.str "tree"))])) (.cmp .eq (.call 37 [(.cst (.int 1)), (.var 5), (.cst .non)]) (.tup [(.cst (.str "undefined")), (.cst (.str "tree"))])))] [],
  .for_ (.slot 8) (.seq false (.lst [(.cst (.int 0)), (.cst (.int 9)), (.neg (.cst (.int 1))), (.cst .non), (.cst (.bl true)), (.cst (.str "2"))])) [.iff (.or (.cmp .ne (.call 37 [(.cst (.int 0)), (.var 5), (.var 8)]) (.tup [(.cst (.str "number")), (.var 8)])) (.cmp .ne (.call 37 [(.cst (.int 1)), (.var 5), (.var 8)]) (.tup [(.cst (.str "number")), (.var 8)]))) [.ret (.cst (.bl false))] []],
  .asg (.slot 9) (.app .sum [(.var 13)]),
  .iff (.cmp .ne (.bin .mod (.app .int [(.var 9)]) (.var 2)) (.cst (.int 0))) [.ret (.and (.cmp .eq (.call 37 [(.cst (.int 0)), (.var 5), (.var 2)]) (.tup [(.cst (.str "undefined")), (.cst (.str "share"))])) (.cmp .eq (.call 37 [(.cst (.int 1)), (.var 5), (.var 2)]) (.tup [(.cst (.str "undefined")), (.cst (.str "share"))])))] [],
  .asg (.slot 10) (.bin .fdiv (.var 9) (.var 2)),
  .asg (.slot 11) (.app .tuple [(.comp [16] (.slot 16) (.seq true (.var 15)) (.cmp .eq (.bin .mod (.app .int [(.app .sum [(.comp [18] (.slot 18) (.seq true (.call 102 [(.var 15), (.var 4), (.var 16)])) (.cst (.bl true)) (.idx (.var 13) (.var 18)))])]) (.var 10)) (.cst (.int 0))) (.var 16))]),
  .iff (.cmp .ne (.call 37 [(.cst (.int 0)), (.var 5), (.var 2)]) (.tup [(.cst (.str "told")), (.var 11)])) [.ret (.cst (.bl false))] [],
  .asg (.slot 12) (.call 104 [(.var 3), (.var 2), (.var 10)]),
  .iff (.and (.cmp .lt (.var 2) (.cst (.int 5))) (.cmp .ne (.call 19 [(.mk 1 [(.var 5), (.var 2), (.var 10), (.var 10)])]) (.app .tuple [(.var 12)]))) [.ret (.cst (.bl false))] [],
  .iff (.cmp .ne (.app .len [(.var 11)]) (.bin .sub (.var 2) (.cst (.int 1)))) [.ret (.and (.cmp .eq (.call 37 [(.cst (.int 1)), (.var 5), (.var 2)]) (.tup [(.cst (.str "undefined")), (.cst (.str "parts"))])) (.cmp .eq (.var 12) (.lst [])))] [],
  .iff (.or (.cmp .ne (.app .len [(.var 12)]) (.cst (.int 1))) (.cmp .ne (.call 37 [(.cst (.int 1)), (.var 5), (.var 2)]) (.tup [(.cst (.str "told")), (.idx (.var 12) (.cst (.int 0)))]))) [.ret (.cst (.bl false))] [],
  .ret (.cmp .eq (.comp [17] (.slot 17) (.seq true (.call 101 [(.var 5), (.var 2)])) (.not (.call 26 [(.var 17)])) (.var 17)) (.lst []))]⟩
/-- is_number(value) -/
def c106 : Fd := ⟨1, 1, [.ret (.and (.call 0 [(.var 0)]) (.cmp .ge (.var 0) (.cst (.int 0))))]⟩
/-- is_number(value) -/
def c106_1 : Fd := ⟨1, 1, [.ret (.and (.call 95 [(.var 0)]) (.cmp .ge (.var 0) (.cst (.int 0))))]⟩
/-- is_below(value, many) -/
def c107 : Fd := ⟨2, 2, [.ret (.and (.call 106 [(.var 0)]) (.cmp .lt (.var 0) (.var 1)))]⟩
/-- all_below(value, many, member) -/
def c108 : Fd := ⟨2, 3, [.ret (.and (.isi (.var 0) [.tuple]) (.app .all [(.comp [2] (.slot 2) (.seq true (.var 0)) (.cst (.bl true)) (.call 107 [(.var 2), (.var 1)]))]))]⟩
/-- is_tuple_of(value, size) -/
def c109 : Fd := ⟨2, 2, [.ret (.and (.isi (.var 0) [.tuple]) (.cmp .eq (.app .len [(.var 0)]) (.var 1)))]⟩
/-- is_cut(land, units, others, unit) -/
def c110 : Fd := ⟨2, 4, [.asg (.slot 2) (.comp [3] (.slot 3) (.rng1 (.app .len [(.fld (.var 0) 0)])) (.cmp .notin (.var 3) (.var 1)) (.var 3)),
  .ret (.and (.call 97 [(.var 0), (.app .tuple [(.app .sorted [(.var 1)])])]) (.call 97 [(.var 0), (.app .tuple [(.var 2)])]))]⟩
/-- order_of(land, first, last, found) -/
def c113 : Fd := ⟨3, 4, [.ex (.call 71 [(.var 0), (.var 1), (.var 2)]),
  .asg (.slot 3) (.call 112 [(.var 0), (.var 1), (.var 2)]),
  .iff (.cmp .is (.var 3) (.cst .non)) [.rais 4 (.cst (.str "order"))] [],
  .ret (.var 3)]⟩
/-- are_ends(land, first, last, many) -/
def c114 : Fd := ⟨3, 4, [.asg (.slot 3) (.app .len [(.fld (.var 0) 0)]),
  .ret (.and (.call 107 [(.var 1), (.var 3)]) (.and (.call 107 [(.var 2), (.var 3)]) (.cmp .ne (.var 1) (.var 2))))]⟩
/-- order_holds(land, first, last, value, many, size) -/
def c115 : Fd := ⟨4, 6, [.asg (.slot 4) (.app .len [(.fld (.var 0) 0)]),
  .iff (.or (.not (.call 114 [(.var 0), (.var 1), (.var 2)])) (.not (.call 108 [(.var 3), (.var 4)]))) [.ret (.cst (.bl false))] [],
  .iff (.or (.cmp .ne (.app .sorted [(.var 3)]) (.app .lrange [(.var 4)])) (.or (.cmp .ne (.idx (.var 3) (.cst (.int 0))) (.var 1)) (.cmp .ne (.idx (.var 3) (.neg (.cst (.int 1)))) (.var 2)))) [.ret (.cst (.bl false))] [],
  .ret (.app .all [(.comp [5] (.slot 5) (.rng2 (.cst (.int 1)) (.var 4)) (.cst (.bl true)) (.call 110 [(.var 0), (.slc false true (.var 3) (.cst .non) (.var 5))]))])]⟩
/-- find_hanging(land, first, last, unit, ties, other, part, tie) -/
def c116 : Fd := ⟨3, 8, [.for_ (.slot 3) (.rng1 (.app .len [(.fld (.var 0) 0)])) [.asg (.slot 4) (.comp [7] (.slot 7) (.seq true (.fld (.var 0) 2)) (.cmp .notin (.var 3) (.var 7)) (.var 7)), .for_ (.slot 5) (.rng1 (.app .len [(.fld (.var 0) 0)])) [.asg (.slot 6) (.call 99 [(.var 4), (.var 5)]), .iff (.and (.cmp .ne (.var 5) (.var 3)) (.and (.cmp .notin (.var 1) (.var 6)) (.cmp .notin (.var 2) (.var 6)))) [.ret (.tup [(.var 3), (.app .tuple [(.app .sorted [(.app .list [(.var 6)])])])])] []]],
  .ret (.cst .non)]⟩
/-- hanging_part(land, first, last, found) -/
def c117 : Fd := ⟨3, 4, [.ex (.call 71 [(.var 0), (.var 1), (.var 2)]),
  .asg (.slot 3) (.call 116 [(.var 0), (.var 1), (.var 2)]),
  .iff (.cmp .is (.var 3) (.cst .non)) [.rais 4 (.cst (.str "hanging"))] [],
  .ret (.var 3)]⟩
/-- hanging_holds(land, first, last, value, many, unit, part, low, high) -/
def c118 : Fd := ⟨4, 9, [.asg (.slot 4) (.app .len [(.fld (.var 0) 0)]),
  .iff (.or (.not (.call 114 [(.var 0), (.var 1), (.var 2)])) (.not (.call 109 [(.var 3), (.cst (.int 2))]))) [.ret (.cst (.bl false))] [],
  .asg (.tup [(.slot 5), (.slot 6)]) (.var 3),
  .iff (.or (.not (.call 107 [(.var 5), (.var 4)])) (.or (.not (.call 108 [(.var 6), (.var 4)])) (.or (.cmp .eq (.app .len [(.var 6)]) (.cst (.int 0))) (.not (.call 80 [(.var 6)]))))) [.ret (.cst (.bl false))] [],
  .iff (.or (.cmp .isin (.var 5) (.var 6)) (.or (.cmp .isin (.var 1) (.var 6)) (.cmp .isin (.var 2) (.var 6)))) [.ret (.cst (.bl false))] [],
  .ret (.app .all [(.comp [7, 8] (.tup [(.slot 7), (.slot 8)]) (.seq true (.fld (.var 0) 2)) (.cst (.bl true)) (.or (.cmp .eq (.cmp .isin (.var 7) (.var 6)) (.cmp .isin (.var 8) (.var 6))) (.cmp .isin (.var 5) (.tup [(.var 7), (.var 8)]))))])]⟩
/-- _law_is_order(ties, n, first, last, value, k) -/
def c119 : Fd := ⟨5, 6, [.iff (.or (.not (.call 27 [(.var 4), (.var 1)])) (.or (.cmp .ne (.app .len [(.var 4)]) (.var 1)) (.or (.cmp .ne (.app .sorted [(.var 4)]) (.app .lrange [(.var 1)])) (.cmp .lt (.var 1) (.cst (.int 2)))))) [.ret (.cst (.bl false))] [],
  .iff (.or (.cmp .ne (.idx (.var 4) (.cst (.int 0))) (.var 2)) (.cmp .ne (.idx (.var 4) (.neg (.cst (.int 1)))) (.var 3))) [.ret (.cst (.bl false))] [],
  .ret (.cmp .eq (.comp [5] (.slot 5) (.rng2 (.cst (.int 1)) (.var 1)) (.or (.not (.call 32 [(.var 0), (.slc false true (.var 4) (.cst .non) (.var 5))])) (.not (.call 32 [(.var 0), (.slc true false (.var 4) (.var 5) (.cst .non))]))) (.var 5)) (.lst []))]⟩
/-- _law_hangs_on(ties, n, first, last, value, unit, part, a, b, k) -/
def c120 : Fd := ⟨5, 10, [.iff (.or (.not (.isi (.var 4) [.tuple])) (.or (.cmp .ne (.app .len [(.var 4)]) (.cst (.int 2))) (.or (.not (.call 27 [(.slc false true (.var 4) (.cst .non) (.cst (.int 1))), (.var 1)])) (.not (.call 27 [(.idx (.var 4) (.cst (.int 1))), (.var 1)]))))) [.ret (.cst (.bl false))] [],
  .asg (.tup [(.slot 5), (.slot 6)]) (.var 4),
  .iff (.or (.cmp .eq (.var 6) (.tup [])) (.or (.cmp .isin (.var 5) (.var 6)) (.or (.cmp .isin (.var 2) (.var 6)) (.cmp .isin (.var 3) (.var 6))))) [.ret (.cst (.bl false))] [],
  .iff (.cmp .ne (.comp [9] (.slot 9) (.rng2 (.cst (.int 1)) (.app .len [(.var 6)])) (.cmp .ge (.idx (.var 6) (.bin .sub (.var 9) (.cst (.int 1)))) (.idx (.var 6) (.var 9))) (.var 9)) (.lst [])) [.ret (.cst (.bl false))] [],
  .for_ (.tup [(.slot 7), (.slot 8)]) (.seq false (.var 0)) [.iff (.and (.cmp .ne (.cmp .isin (.var 7) (.var 6)) (.cmp .isin (.var 8) (.var 6))) (.and (.cmp .ne (.var 7) (.var 5)) (.cmp .ne (.var 8) (.var 5)))) [.ret (.cst (.bl false))] []],
  .ret (.cst (.bl true))]⟩
/-- law(script, box, n, made, k, odd, people, leads, ties, first, last, order, part) -/
def c122 : Fd := ⟨1, 13, [.asg (.slot 1) (.call 23 [(.var 0), (.cst (.int 0))]),
  .asg (.tup [(.slot 6), (.slot 7), (.slot 8)]) (.call 30 [(.call 23 [(.var 0), (.cst (.int 1))]), (.cst (.int 8))]),
  .asg (.slot 2) (.app .len [(.var 6)]),
  .asg (.slot 3) (.mk 0 [(.var 6), (.var 7), (.var 8)]),
  .for_ (.slot 4) (.rng1 (.cst (.int 6))) [.asg (.slot 9) (.call 24 [(.var 1), (.var 2)]), .asg (.slot 10) (.bin .mod (.app .int [(.bin .add (.bin .add (.var 9) (.cst (.int 1))) (.call 24 [(.var 1), (.app .max2 [(.cst (.int 1)), (.bin .sub (.var 2) (.cst (.int 1)))])]))]) (.var 2)), .iff (.cmp .ne (.var 9) (.var 10)) [.asg (.slot 11) (.call 37 [(.cst (.int 0)), (.var 3), (.var 9), (.var 10)]), .asg (.slot 12) (.call 37 [(.cst (.int 1)), (.var 3), (.var 9), (.var 10)]), .iff (.cmp .isnot (.call 121 [(.var 8), (.var 2), (.var 9), (.var 10)]) (.cst .non)) [.iff (.or (.cmp .ne (.var 12) (.tup [(.cst (.str "undefined")), (.cst (.str "hanging"))])) (.or (.cmp .ne (.idx (.var 11) (.cst (.int 0))) (.cst (.str "told"))) (.not (.call 119 [(.var 8), (.var 2), (.var 9), (.var 10), (.idx (.var 11) (.cst (.int 1)))])))) [.ret (.cst (.bl false))] [], .iff (.cmp .isnot (.call 115 [(.var 3), (.var 9), (.var 10), (.idx (.var 11) (.cst (.int 1)))]) (.cst (.bl true))) [.ret (.cst (.bl false))] []] [.iff (.or (.cmp .ne (.var 11) (.tup [(.cst (.str "undefined")), (.cst (.str "order"))])) (.or (.cmp .ne (.idx (.var 12) (.cst (.int 0))) (.cst (.str "told"))) (.not (.call 120 [(.var 8), (.var 2), (.var 9), (.var 10), (.idx (.var 12) (.cst (.int 1)))])))) [.ret (.cst (.bl false))] [.iff (.cmp .isnot (.call 118 [(.var 3), (.var 9), (.var 10), (.idx (.var 12) (.cst (.int 1)))]) (.cst (.bl true))) [.ret (.cst (.bl false))] []]]] []],
  .for_ (.slot 5) (.seq false (.lst [(.neg (.cst (.int 1))), (.var 2), (.cst .non), (.cst (.bl true)), (.cst (.str "0"))])) [.iff (.or (.cmp .ne (.call 37 [(.cst (.int 0)), (.var 3), (.var 5), (.cst .non)]) (.tup [(.cst (.str "number")), (.var 5)])) (.cmp .ne (.call 37 [(.cst (.int 1)), (.var 3), (.var 5), (.cst .non)]) (.tup [(.cst (.str "number")), (.var 5)]))) [.ret (.cst (.bl false))] [], .iff (.or (.cmp .ne (.call 37 [(.cst (.int 0)), (.var 3), (.cst (.int 0)), (.var 5)]) (.tup [(.cst (.str "number")), (.var 5)])) (.cmp .ne (.call 37 [(.cst (.int 1)), (.var 3), (.cst (.int 0)), (.var 5)]) (.tup [(.cst (.str "number")), (.var 5)]))) [.ret (.cst (.bl false))] []],
  .ret (.and (.cmp .eq (.call 37 [(.cst (.int 0)), (.var 3), (.cst (.int 0)), (.cst (.int 0))]) (.tup [(.cst (.str "number")), (.cst (.int 0))])) (.cmp .eq (.call 37 [(.cst (.int 1)), (.var 3), (.cst (.int 0)), (.cst (.int 0))]) (.tup [(.cst (.str "number")), (.cst (.int 0))])))]⟩
/-- tied_to(land, unit) -/
def c127 : Fd := ⟨2, 2, [.ret (.app .list [(.idx (.fld (.var 0) 3) (.var 1))])]⟩
/-- start(draft) -/
def c128 : Fd := ⟨1, 1, [.ret (.tup [(.cst (.int 0)), (.cst (.int 0)), (.cst (.int 0)), (.tup [])])]⟩
/-- is_in_front(land, unit, t, other) -/
def c129 : Fd := ⟨3, 4, [.ret (.app .any [(.comp [3] (.slot 3) (.seq true (.call 127 [(.var 0), (.var 1)])) (.cst (.bl true)) (.cmp .ge (.var 3) (.var 2)))])]⟩
/-- with_unit(land, row, t, mates, joined, others, piece, people, lead, pieces, unit) -/
def c130 : Fd := ⟨3, 11, [.asg (.tup [(.slot 7), (.slot 8), (.slot 9)]) (.var 1),
  .asg (.slot 3) (.call 127 [(.var 0), (.var 2)]),
  .own 4 (.lst [(.var 2)]),
  .own 5 (.lst []),
  .for_ (.slot 6) (.seq false (.var 9)) [.iff (.app .any [(.comp [10] (.slot 10) (.seq true (.var 6)) (.cst (.bl true)) (.cmp .isin (.var 10) (.var 3)))]) [.ext 4 (.app .list [(.var 6)])] [.push 5 (.var 6)]],
  .ret (.tup [(.bin .add (.var 7) (.idx (.fld (.var 0) 0) (.var 2))), (.bin .add (.var 8) (.idx (.fld (.var 0) 1) (.var 2))), (.bin .add (.peek 5) (.lst [(.app .tuple [(.app .sorted [(.peek 4)])])]))])]⟩
/-- front_pieces(land, pieces, t, piece, unit) -/
def c131 : Fd := ⟨3, 5, [.ret (.comp [3] (.slot 3) (.seq true (.var 1)) (.cst (.bl true)) (.app .tuple [(.comp [4] (.slot 4) (.seq true (.var 3)) (.call 129 [(.var 0), (.var 4), (.var 2)]) (.var 4))]))]⟩
/-- least_unit(row) -/
def c132 : Fd := ⟨1, 1, [.ret (.idx (.idx (.idx (.var 0) (.cst (.int 2))) (.cst (.int 0))) (.cst (.int 0)))]⟩
/-- steps(draft, stand, found, t, used, _, rows, choice, after) -/
def c135 : Fd := ⟨2, 9, [.asg (.tup [(.slot 3), (.slot 4), (.slot 5), (.slot 6)]) (.var 1),
  .own 2 (.lst []),
  .iff (.cmp .lt (.var 3) (.app .len [(.fld (.fld (.var 0) 4) 0)])) [.for_ (.slot 7) (.rng1 (.bin .add (.app .len [(.var 6)]) (.ife (.cmp .lt (.var 4) (.fld (.var 0) 5)) (.cst (.int 1)) (.cst (.int 0))))) [.asg (.slot 8) (.call 134 [(.var 0), (.var 1), (.var 7)]), .iff (.cmp .isnot (.var 8) (.cst .non)) [.push 2 (.tup [(.var 7), (.var 8)])] []]] [],
  .ret (.app .tuple [(.peek 2)])]⟩
/-- _law_steps(draft, stand, found, choice, new) -/
def c138 : Fd := ⟨2, 5, [.iff (.cmp .eq (.idx (.var 1) (.cst (.int 0))) (.app .len [(.idx (.idx (.var 0) (.cst (.int 0))) (.cst (.int 0)))])) [.ret (.tup [])] [],
  .own 2 (.lst []),
  .for_ (.slot 3) (.rng1 (.bin .add (.app .len [(.idx (.var 1) (.cst (.int 3)))]) (.app .int [(.cmp .lt (.idx (.var 1) (.cst (.int 1))) (.idx (.var 0) (.cst (.int 1))))]))) [.asg (.slot 4) (.call 137 [(.var 0), (.var 1), (.var 3)]), .iff (.cmp .isnot (.var 4) (.cst .non)) [.push 2 (.tup [(.var 3), (.var 4)])] []],
  .ret (.app .tuple [(.peek 2)])]⟩
/-- is_piece(draft, t, value, unit) -/
def c141 : Fd := ⟨3, 4, [.iff (.or (.cmp .eq (.var 1) (.cst (.int 0))) (.not (.call 96 [(.var 2), (.bin .sub (.var 1) (.cst (.int 1)))]))) [.ret (.cst (.bl false))] [],
  .ret (.app .all [(.comp [3] (.slot 3) (.seq true (.var 2)) (.cst (.bl true)) (.call 129 [(.fld (.var 0) 4), (.var 3), (.var 1)]))])]⟩
/-- is_row(draft, t, value, pieces, piece) -/
def c142 : Fd := ⟨3, 5, [.iff (.or (.not (.call 2 [(.var 2), (.cst (.int 3)), (.cst (.int 3))])) (.or (.not (.call 206 [(.idx (.var 2) (.cst (.int 0)))])) (.or (.cmp .lt (.idx (.var 2) (.cst (.int 0))) (.cst (.int 0))) (.not (.call 206 [(.idx (.var 2) (.cst (.int 1)))]))))) [.ret (.cst (.bl false))] [],
  .asg (.slot 3) (.idx (.var 2) (.cst (.int 2))),
  .iff (.or (.not (.isi (.var 3) [.tuple])) (.or (.cmp .eq (.app .len [(.var 3)]) (.cst (.int 0))) (.not (.app .all [(.comp [4] (.slot 4) (.seq true (.var 3)) (.cst (.bl true)) (.call 141 [(.var 0), (.var 1), (.var 4)]))])))) [.ret (.cst (.bl false))] [],
  .ret (.call 4 [(.var 3)])]⟩
/-- is_row(draft, t, value, pieces, piece) -/
def c142_1 : Fd := ⟨3, 5, [.iff (.or (.not (.call 2 [(.var 2), (.cst (.int 3)), (.cst (.int 3))])) (.or (.not (.call 0 [(.idx (.var 2) (.cst (.int 0)))])) (.or (.cmp .lt (.idx (.var 2) (.cst (.int 0))) (.cst (.int 0))) (.not (.call 0 [(.idx (.var 2) (.cst (.int 1)))]))))) [.ret (.cst (.bl false))] [],
  .asg (.slot 3) (.idx (.var 2) (.cst (.int 2))),
  .iff (.or (.not (.isi (.var 3) [.tuple])) (.or (.cmp .eq (.app .len [(.var 3)]) (.cst (.int 0))) (.not (.app .all [(.comp [4] (.slot 4) (.seq true (.var 3)) (.cst (.bl true)) (.call 141 [(.var 0), (.var 1), (.var 4)]))])))) [.ret (.cst (.bl false))] [],
  .ret (.call 4 [(.var 3)])]⟩
/-- are_stands(draft, t, value, stand) -/
def c144 : Fd := ⟨3, 4, [.iff (.or (.not (.isi (.var 2) [.tuple])) (.not (.app .all [(.comp [3] (.slot 3) (.seq true (.var 2)) (.cst (.bl true)) (.call 143 [(.var 0), (.var 3)]))]))) [.ret (.cst (.bl false))] [],
  .ret (.and (.app .all [(.comp [3] (.slot 3) (.seq true (.var 2)) (.cst (.bl true)) (.cmp .eq (.idx (.var 3) (.cst (.int 0))) (.var 1)))]) (.call 4 [(.var 2)]))]⟩
/-- are_closed(draft, value, many, t, stand, level, _, after) -/
def c145 : Fd := ⟨2, 8, [.asg (.slot 2) (.bin .add (.app .len [(.fld (.fld (.var 0) 4) 0)]) (.cst (.int 1))),
  .iff (.or (.not (.call 2 [(.var 1), (.var 2), (.var 2)])) (.not (.app .all [(.comp [3, 5] (.tup [(.slot 3), (.slot 5)]) (.enum true (.var 1)) (.cst (.bl true)) (.call 144 [(.var 0), (.var 3), (.var 5)]))]))) [.ret (.cst (.bl false))] [],
  .iff (.cmp .notin (.call 128 [(.var 0)]) (.idx (.var 1) (.cst (.int 0)))) [.ret (.cst (.bl false))] [],
  .for_ (.slot 3) (.rng1 (.bin .sub (.var 2) (.cst (.int 1)))) [.for_ (.slot 4) (.seq false (.idx (.var 1) (.var 3))) [.iff (.not (.app .all [(.comp [6, 7] (.tup [(.slot 6), (.slot 7)]) (.seq true (.call 135 [(.var 0), (.var 4)])) (.cst (.bl true)) (.cmp .isin (.var 7) (.idx (.var 1) (.bin .add (.var 3) (.cst (.int 1))))))])) [.ret (.cst (.bl false))] []]],
  .ret (.cst (.bl true))]⟩
/-- last_full(draft, value, stand) -/
def c146 : Fd := ⟨2, 3, [.ret (.comp [2] (.slot 2) (.seq true (.idx (.var 1) (.neg (.cst (.int 1))))) (.cmp .eq (.idx (.var 2) (.cst (.int 1))) (.fld (.var 0) 5)) (.var 2))]⟩
/-- walls(draft, found) -/
def c147 : Fd := ⟨1, 2, [.asg (.slot 1) (.call 136 [(.var 0)]),
  .iff (.cmp .gt (.app .len [(.call 146 [(.var 0), (.var 1)])]) (.cst (.int 0))) [.rais 4 (.cst (.str "plan"))] [],
  .ret (.var 1)]⟩
/-- walls_hold(draft, value) -/
def c148 : Fd := ⟨2, 2, [.ret (.and (.call 145 [(.var 0), (.var 1)]) (.cmp .eq (.app .len [(.call 146 [(.var 0), (.var 1)])]) (.cst (.int 0))))]⟩
/-- _law_is_stand(draft, value, n, t, front, seen, least, row, land, many, low, high, k, unit, piece, pair, j) -/
def c149 : Fd := ⟨2, 17, [.asg (.tup [(.slot 8), (.slot 9), (.slot 10), (.slot 11)]) (.var 0),
  .asg (.slot 2) (.app .len [(.idx (.var 8) (.cst (.int 0)))]),
  .iff (.or (.not (.isi (.var 1) [.tuple])) (.or (.cmp .ne (.app .len [(.var 1)]) (.cst (.int 4))) (.or (.not (.call 27 [(.slc false true (.var 1) (.cst .non) (.cst (.int 1))), (.bin .add (.var 2) (.cst (.int 1)))])) (.not (.call 27 [(.slc true true (.var 1) (.cst (.int 1)) (.cst (.int 2))), (.bin .add (.var 9) (.cst (.int 1)))]))))) [.ret (.cst (.bl false))] [],
  .iff (.or (.not (.call 26 [(.idx (.var 1) (.cst (.int 2)))])) (.or (.cmp .lt (.idx (.var 1) (.cst (.int 2))) (.cst (.int 0))) (.or (.not (.isi (.idx (.var 1) (.cst (.int 3))) [.tuple])) (.cmp .gt (.app .len [(.idx (.var 1) (.cst (.int 3)))]) (.idx (.var 1) (.cst (.int 1))))))) [.ret (.cst (.bl false))] [],
  .asg (.slot 3) (.idx (.var 1) (.cst (.int 0))),
  .asg (.slot 4) (.comp [13] (.slot 13) (.rng1 (.var 3)) (.cmp .ne (.comp [15] (.slot 15) (.seq true (.idx (.var 8) (.cst (.int 2)))) (.and (.cmp .eq (.idx (.var 15) (.cst (.int 0))) (.var 13)) (.cmp .ge (.idx (.var 15) (.cst (.int 1))) (.var 3))) (.var 15)) (.lst [])) (.var 13)),
  .asg (.slot 5) (.lst []),
  .asg (.slot 6) (.neg (.cst (.int 1))),
  .for_ (.slot 7) (.seq false (.idx (.var 1) (.cst (.int 3)))) [.iff (.or (.not (.isi (.var 7) [.tuple])) (.or (.cmp .ne (.app .len [(.var 7)]) (.cst (.int 3))) (.or (.not (.call 26 [(.idx (.var 7) (.cst (.int 0)))])) (.or (.cmp .lt (.idx (.var 7) (.cst (.int 0))) (.cst (.int 0))) (.not (.call 26 [(.idx (.var 7) (.cst (.int 1)))])))))) [.ret (.cst (.bl false))] [], .iff (.or (.not (.isi (.idx (.var 7) (.cst (.int 2))) [.tuple])) (.cmp .eq (.idx (.var 7) (.cst (.int 2))) (.tup []))) [.ret (.cst (.bl false))] [], .for_ (.slot 12) (.rng1 (.app .len [(.idx (.var 7) (.cst (.int 2)))])) [.asg (.slot 14) (.idx (.idx (.var 7) (.cst (.int 2))) (.var 12)), .iff (.or (.not (.call 27 [(.var 14), (.var 2)])) (.or (.cmp .eq (.var 14) (.tup [])) (.cmp .ne (.comp [16] (.slot 16) (.rng2 (.cst (.int 1)) (.app .len [(.var 14)])) (.cmp .ge (.idx (.var 14) (.bin .sub (.var 16) (.cst (.int 1)))) (.idx (.var 14) (.var 16))) (.var 16)) (.lst [])))) [.ret (.cst (.bl false))] [], .iff (.or (.and (.cmp .gt (.var 12) (.cst (.int 0))) (.cmp .ge (.idx (.idx (.var 7) (.cst (.int 2))) (.bin .sub (.var 12) (.cst (.int 1)))) (.var 14))) (.cmp .ne (.comp [13] (.slot 13) (.seq true (.var 14)) (.or (.cmp .notin (.var 13) (.var 4)) (.cmp .isin (.var 13) (.var 5))) (.var 13)) (.lst []))) [.ret (.cst (.bl false))] [], .asg (.slot 5) (.bin .add (.var 5) (.app .list [(.var 14)]))], .iff (.cmp .le (.idx (.idx (.idx (.var 7) (.cst (.int 2))) (.cst (.int 0))) (.cst (.int 0))) (.var 6)) [.ret (.cst (.bl false))] [], .asg (.slot 6) (.idx (.idx (.idx (.var 7) (.cst (.int 2))) (.cst (.int 0))) (.cst (.int 0)))],
  .ret (.cst (.bl true))]⟩
/-- _law_bar_plans(draft, won, value, n, t, row, stand, one, k) -/
def c150 : Fd := ⟨3, 9, [.asg (.slot 3) (.app .len [(.idx (.idx (.var 0) (.cst (.int 0))) (.cst (.int 0)))]),
  .iff (.or (.not (.isi (.var 2) [.tuple])) (.cmp .ne (.app .len [(.var 2)]) (.bin .add (.var 3) (.cst (.int 1))))) [.ret (.cst (.bl false))] [],
  .for_ (.slot 4) (.rng1 (.bin .add (.var 3) (.cst (.int 1)))) [.asg (.slot 5) (.idx (.var 2) (.var 4)), .iff (.or (.not (.isi (.var 5) [.tuple])) (.cmp .ne (.comp [7] (.slot 7) (.seq true (.var 5)) (.or (.not (.call 149 [(.var 0), (.var 7)])) (.cmp .ne (.idx (.var 7) (.cst (.int 0))) (.var 4))) (.var 7)) (.lst []))) [.ret (.cst (.bl false))] [], .iff (.cmp .ne (.comp [8] (.slot 8) (.rng2 (.cst (.int 1)) (.app .len [(.var 5)])) (.cmp .ge (.idx (.var 5) (.bin .sub (.var 8) (.cst (.int 1)))) (.idx (.var 5) (.var 8))) (.var 8)) (.lst [])) [.ret (.cst (.bl false))] []],
  .iff (.cmp .notin (.tup [(.cst (.int 0)), (.cst (.int 0)), (.cst (.int 0)), (.tup [])]) (.idx (.var 2) (.cst (.int 0)))) [.ret (.cst (.bl false))] [],
  .for_ (.slot 4) (.rng1 (.var 3)) [.for_ (.slot 6) (.seq false (.idx (.var 2) (.var 4))) [.iff (.cmp .ne (.comp [7] (.slot 7) (.seq true (.call 138 [(.var 0), (.var 6)])) (.cmp .notin (.idx (.var 7) (.cst (.int 1))) (.idx (.var 2) (.bin .add (.var 4) (.cst (.int 1))))) (.var 7)) (.lst [])) [.ret (.cst (.bl false))] []]],
  .ret (.cmp .eq (.comp [7] (.slot 7) (.seq true (.idx (.var 2) (.var 3))) (.and (.cmp .eq (.idx (.var 7) (.cst (.int 1))) (.idx (.var 0) (.cst (.int 1)))) (.or (.cmp .is (.var 1) (.cst .non)) (.cmp .eq (.idx (.var 7) (.cst (.int 2))) (.var 1)))) (.var 7)) (.lst []))]⟩
/-- law(script, draft, made, every, told) -/
def c151 : Fd := ⟨1, 5, [.asg (.slot 1) (.call 31 [(.var 0), (.cst (.int 8))]),
  .asg (.slot 2) (.call 36 [(.var 1)]),
  .asg (.slot 3) (.call 35 [(.var 1)]),
  .iff (.cmp .ne (.var 3) (.lst [])) [.ret (.and (.cmp .eq (.call 37 [(.cst (.int 0)), (.var 2)]) (.tup [(.cst (.str "told")), (.idx (.var 3) (.cst (.int 0)))])) (.cmp .eq (.call 37 [(.cst (.int 1)), (.var 2)]) (.tup [(.cst (.str "undefined")), (.cst (.str "plan"))])))] [],
  .asg (.slot 4) (.call 37 [(.cst (.int 1)), (.var 2)]),
  .iff (.or (.cmp .ne (.call 37 [(.cst (.int 0)), (.var 2)]) (.tup [(.cst (.str "undefined")), (.cst (.str "plan"))])) (.or (.cmp .ne (.idx (.var 4) (.cst (.int 0))) (.cst (.str "told"))) (.cmp .ne (.call 19 [(.var 2)]) (.tup [])))) [.ret (.cst (.bl false))] [],
  .ret (.and (.call 150 [(.var 1), (.cst .non), (.idx (.var 4) (.cst (.int 1)))]) (.cmp .is (.call 148 [(.var 2), (.idx (.var 4) (.cst (.int 1)))]) (.cst (.bl true))))]⟩
/-- winning(draft, won, value, stand) -/
def c152 : Fd := ⟨3, 4, [.ret (.comp [3] (.slot 3) (.seq true (.call 146 [(.var 0), (.var 2)])) (.cmp .eq (.idx (.var 3) (.cst (.int 2))) (.var 1)) (.var 3))]⟩
/-- seat_bars_hold(draft, won, value) -/
def c153 : Fd := ⟨3, 3, [.iff (.or (.not (.call 1 [(.var 1), (.cst (.int 0)), (.fld (.var 0) 5)])) (.not (.call 145 [(.var 0), (.var 2)]))) [.ret (.cst (.bl false))] [],
  .ret (.cmp .eq (.app .len [(.call 152 [(.var 0), (.var 1), (.var 2)])]) (.cst (.int 0)))]⟩
/-- _law_lighter(draft) -/
def c154 : Fd := ⟨1, 1, [.ret (.ife (.cmp .eq (.app .len [(.idx (.idx (.var 0) (.cst (.int 0))) (.cst (.int 0)))]) (.cst (.int 8))) (.bin .add (.tup [(.idx (.var 0) (.cst (.int 0))), (.app .min2 [(.idx (.var 0) (.cst (.int 1))), (.cst (.int 3))])]) (.slc true false (.var 0) (.cst (.int 2)) (.cst .non))) (.var 0))]⟩
/-- _law_odd_stand(box, draft, t, front, rows, unit, pair) -/
def c155 : Fd := ⟨3, 7, [.asg (.slot 3) (.comp [5] (.slot 5) (.rng1 (.var 2)) (.cmp .ne (.comp [6] (.slot 6) (.seq true (.idx (.idx (.var 1) (.cst (.int 0))) (.cst (.int 2)))) (.and (.cmp .eq (.idx (.var 6) (.cst (.int 0))) (.var 5)) (.cmp .ge (.idx (.var 6) (.cst (.int 1))) (.var 2))) (.var 6)) (.lst [])) (.var 5)),
  .own 4 (.lst []),
  .for_ (.slot 5) (.seq false (.var 3)) [.iff (.or (.cmp .eq (.peek 4) (.lst [])) (.cmp .eq (.call 24 [(.var 0), (.cst (.int 2))]) (.cst (.int 0)))) [.push 4 (.tup [(.call 24 [(.var 0), (.cst (.int 9))]), (.bin .sub (.call 24 [(.var 0), (.cst (.int 5))]) (.cst (.int 2))), (.tup [(.tup [(.var 5)])])])] [.seti 4 (.neg (.cst (.int 1))) (.tup [(.idx (.idx (.peek 4) (.neg (.cst (.int 1)))) (.cst (.int 0))), (.idx (.idx (.peek 4) (.neg (.cst (.int 1)))) (.cst (.int 1))), (.bin .add (.idx (.idx (.peek 4) (.neg (.cst (.int 1)))) (.cst (.int 2))) (.tup [(.tup [(.var 5)])]))])]],
  .ret (.tup [(.var 2), (.app .min2 [(.idx (.var 1) (.cst (.int 1))), (.bin .add (.app .len [(.peek 4)]) (.call 24 [(.var 0), (.cst (.int 2))]))]), (.call 24 [(.var 0), (.cst (.int 3))]), (.app .tuple [(.peek 4)])])]⟩
/-- _law_bent(box, stand, n, found, k, t, used, won, rows, unit, people, lead, pieces, one) -/
def c156 : Fd := ⟨3, 14, [.asg (.tup [(.slot 5), (.slot 6), (.slot 7), (.slot 8)]) (.var 1),
  .own 3 (.lst [(.tup [(.var 5), (.var 6), (.bin .add (.var 7) (.cst (.int 9))), (.var 8)]), (.tup [(.var 5), (.bin .add (.var 6) (.cst (.int 1))), (.var 7), (.var 8)]), (.tup [(.var 5), (.app .max2 [(.cst (.int 0)), (.bin .sub (.app .len [(.var 8)]) (.cst (.int 1)))]), (.var 7), (.var 8)]), (.tup [(.bin .add (.var 5) (.cst (.int 1))), (.var 6), (.var 7), (.var 8)]), (.tup [(.var 5), (.var 6), (.var 7), (.rev (.var 8))])]),
  .for_ (.slot 4) (.rng1 (.app .len [(.var 8)])) [.asg (.tup [(.slot 10), (.slot 11), (.slot 12)]) (.idx (.var 8) (.var 4)), .for_ (.slot 9) (.seq false (.lst [(.var 5), (.bin .sub (.var 2) (.cst (.int 1))), (.cst (.int 0))])) [.push 3 (.tup [(.var 5), (.var 6), (.var 7), (.bin .add (.bin .add (.slc false true (.var 8) (.cst .non) (.var 4)) (.tup [(.tup [(.var 10), (.var 11), (.bin .add (.tup [(.app .tuple [(.app .sorted [(.bin .add (.comp [13] (.slot 13) (.seq true (.idx (.var 12) (.cst (.int 0)))) (.cmp .ne (.var 13) (.var 9)) (.var 13)) (.lst [(.var 9)]))])])]) (.slc true false (.var 12) (.cst (.int 1)) (.cst .non)))])])) (.slc true false (.var 8) (.bin .add (.var 4) (.cst (.int 1))) (.cst .non)))])], .push 3 (.tup [(.var 5), (.var 6), (.var 7), (.bin .add (.bin .add (.slc false true (.var 8) (.cst .non) (.var 4)) (.tup [(.tup [(.var 10), (.var 11), (.bin .add (.var 12) (.slc true false (.var 12) (.neg (.cst (.int 1))) (.cst .non)))])])) (.slc true false (.var 8) (.bin .add (.var 4) (.cst (.int 1))) (.cst .non)))]), .push 3 (.tup [(.var 5), (.var 6), (.var 7), (.bin .add (.bin .add (.slc false true (.var 8) (.cst .non) (.var 4)) (.tup [(.tup [(.var 10), (.var 11), (.rev (.var 12))])])) (.slc true false (.var 8) (.bin .add (.var 4) (.cst (.int 1))) (.cst .non)))]), .push 3 (.tup [(.var 5), (.var 6), (.var 7), (.bin .add (.var 8) (.slc true true (.var 8) (.var 4) (.bin .add (.var 4) (.cst (.int 1)))))]), .push 3 (.tup [(.var 5), (.var 6), (.var 7), (.bin .add (.bin .add (.slc false true (.var 8) (.cst .non) (.var 4)) (.tup [(.tup [(.bin .add (.var 10) (.cst (.int 1000))), (.var 11), (.var 12)])])) (.slc true false (.var 8) (.bin .add (.var 4) (.cst (.int 1))) (.cst .non)))])],
  .frz 3,
  .ret (.slc false true (.call 28 [(.var 0), (.var 3)]) (.cst .non) (.cst (.int 6)))]⟩
/-- law(script, box, draft, made, n, own, shut, wide, t, at, spot, less, bent, stand, near, loose, tight, values, k, value, won, small, twice, odd, more, one, seat, first, second, third, fourth, row) -/
def c157 : Fd := ⟨1, 32, [.asg (.slot 1) (.call 23 [(.var 0), (.cst (.int 4))]),
  .asg (.slot 2) (.call 154 [(.call 31 [(.var 0), (.idx (.lst [(.cst (.int 7)), (.cst (.int 7)), (.cst (.int 8))]) (.call 24 [(.var 1), (.cst (.int 3))]))])]),
  .asg (.slot 3) (.call 36 [(.var 2)]),
  .asg (.slot 4) (.app .len [(.idx (.idx (.var 2) (.cst (.int 0))) (.cst (.int 0)))]),
  .asg (.slot 5) (.app .tuple [(.comp [31] (.slot 31) (.seq true (.call 139 [(.var 2)])) (.cst (.bl true)) (.app .tuple [(.var 31)]))]),
  .asg (.slot 6) (.bin .add (.slc false true (.var 5) (.cst .non) (.var 4)) (.tup [(.app .tuple [(.comp [13] (.slot 13) (.seq true (.idx (.var 5) (.var 4))) (.cmp .ne (.idx (.var 13) (.cst (.int 1))) (.idx (.var 2) (.cst (.int 1)))) (.var 13))])])),
  .own 7 (.lst []),
  .for_ (.slot 8) (.rng1 (.bin .add (.var 4) (.cst (.int 1)))) [.asg (.slot 24) (.comp [18] (.slot 18) (.rng1 (.call 24 [(.var 1), (.cst (.int 2))])) (.cst (.bl true)) (.call 155 [(.var 1), (.var 2), (.var 8)])), .push 7 (.app .tuple [(.app .sorted [(.comp [25] (.slot 25) (.seq true (.bin .add (.app .list [(.idx (.var 5) (.var 8))]) (.comp [25] (.slot 25) (.seq true (.var 24)) (.cmp .notin (.var 25) (.idx (.var 5) (.var 8))) (.var 25)))) (.cst (.bl true)) (.var 25))])])],
  .asg (.slot 7) (.app .tuple [(.peek 7)]),
  .asg (.slot 9) (.call 24 [(.var 1), (.bin .add (.var 4) (.cst (.int 1)))]),
  .asg (.slot 10) (.call 24 [(.var 1), (.bin .add (.app .len [(.idx (.var 5) (.var 9))]) (.cst (.int 1)))]),
  .asg (.slot 11) (.bin .add (.bin .add (.slc false true (.var 5) (.cst .non) (.var 9)) (.tup [(.bin .add (.slc false true (.idx (.var 5) (.var 9)) (.cst .non) (.var 10)) (.slc true false (.idx (.var 5) (.var 9)) (.bin .add (.var 10) (.cst (.int 1))) (.cst .non)))])) (.slc true false (.var 5) (.bin .add (.var 9) (.cst (.int 1))) (.cst .non))),
  .own 12 (.lst []),
  .for_ (.slot 13) (.seq false (.slc false true (.idx (.var 5) (.var 9)) (.cst .non) (.cst (.int 3)))) [.for_ (.slot 25) (.seq false (.call 156 [(.var 1), (.var 13), (.var 4)])) [.iff (.cmp .notin (.var 25) (.idx (.var 5) (.var 9))) [.push 12 (.bin .add (.bin .add (.slc false true (.var 5) (.cst .non) (.var 9)) (.tup [(.app .tuple [(.app .sorted [(.bin .add (.app .list [(.idx (.var 5) (.var 9))]) (.lst [(.var 25)]))])])])) (.slc true false (.var 5) (.bin .add (.var 9) (.cst (.int 1))) (.cst .non)))] []]],
  .asg (.slot 14) (.tup [(.idx (.var 2) (.cst (.int 0))), (.idx (.var 2) (.cst (.int 1))), (.app .max2 [(.cst (.int 0)), (.bin .sub (.idx (.var 2) (.cst (.int 2))) (.cst (.int 1)))]), (.app .min2 [(.cst (.int 999)), (.bin .add (.idx (.var 2) (.cst (.int 3))) (.cst (.int 1)))])]),
  .asg (.slot 15) (.app .tuple [(.comp [31] (.slot 31) (.seq true (.call 139 [(.var 14)])) (.cst (.bl true)) (.app .tuple [(.var 31)]))]),
  .asg (.slot 16) (.bin .add (.slc false true (.var 15) (.cst .non) (.var 4)) (.tup [(.app .tuple [(.comp [13] (.slot 13) (.seq true (.idx (.var 15) (.var 4))) (.cmp .ne (.idx (.var 13) (.cst (.int 1))) (.idx (.var 2) (.cst (.int 1)))) (.var 13))])])),
  .asg (.slot 17) (.bin .add (.peek 12) (.lst [(.var 15), (.var 16), (.var 5), (.var 6), (.var 7), (.var 11), (.slc true false (.var 5) (.cst (.int 1)) (.cst .non)), (.bin .add (.var 5) (.tup [(.tup [])])), (.rev (.var 5)), (.app .list [(.var 5)]), (.app .tuple [(.comp [31] (.slot 31) (.seq true (.var 5)) (.cst (.bl true)) (.rev (.var 31)))]), (.cst .non), (.bin .mul (.tup [(.tup [])]) (.bin .add (.var 4) (.cst (.int 1))))])),
  .for_ (.slot 18) (.rng1 (.cst (.int 3))) [.asg (.slot 17) (.bin .add (.var 17) (.lst [(.call 44 [(.var 1), (.var 5), (.cst (.int 6))]), (.call 44 [(.var 1), (.var 6), (.cst (.int 6))]), (.call 44 [(.var 1), (.var 6), (.cst (.int 3))])]))],
  .for_ (.slot 19) (.seq false (.var 17)) [.iff (.not (.call 43 [(.call 148 [(.var 3), (.var 19)]), (.call 150 [(.var 2), (.cst .non), (.var 19)])])) [.ret (.cst (.bl false))] [], .asg (.slot 20) (.call 24 [(.var 1), (.bin .add (.idx (.var 2) (.cst (.int 1))) (.cst (.int 1)))]), .iff (.not (.call 43 [(.call 153 [(.var 3), (.var 20), (.var 19)]), (.call 150 [(.var 2), (.var 20), (.var 19)])])) [.ret (.cst (.bl false))] []],
  .for_ (.slot 20) (.rng1 (.bin .add (.idx (.var 2) (.cst (.int 1))) (.cst (.int 1)))) [.asg (.slot 26) (.bin .add (.slc false true (.var 5) (.cst .non) (.var 4)) (.tup [(.app .tuple [(.comp [13] (.slot 13) (.seq true (.idx (.var 5) (.var 4))) (.or (.cmp .ne (.idx (.var 13) (.cst (.int 1))) (.idx (.var 2) (.cst (.int 1)))) (.cmp .ne (.idx (.var 13) (.cst (.int 2))) (.var 20))) (.var 13))])])), .for_ (.slot 19) (.seq false (.lst [(.var 26), (.var 5)])) [.iff (.not (.call 43 [(.call 153 [(.var 3), (.var 20), (.var 19)]), (.call 150 [(.var 2), (.var 20), (.var 19)])])) [.ret (.cst (.bl false))] []]],
  .asg (.slot 21) (.mk 1 [(.mk 0 [(.tup [(.cst (.int 1)), (.cst (.int 1)), (.cst (.int 1))]), (.tup [(.cst (.int 0)), (.cst (.int 0)), (.cst (.int 0))]), (.tup [(.tup [(.cst (.int 0)), (.cst (.int 2))]), (.tup [(.cst (.int 1)), (.cst (.int 2))])])]), (.cst (.int 2)), (.cst (.int 2)), (.cst (.int 2))]),
  .par [27, 28] [(.tup [(.cst (.int 0)), (.cst (.int 0)), (.cst (.int 0)), (.tup [])]), (.tup [(.cst (.int 1)), (.cst (.int 1)), (.cst (.int 0)), (.tup [(.tup [(.cst (.int 1)), (.cst (.int 0)), (.tup [(.tup [(.cst (.int 0))])])])])])],
  .par [29, 30] [(.tup [(.cst (.int 2)), (.cst (.int 1)), (.cst (.int 0)), (.tup [(.tup [(.cst (.int 2)), (.cst (.int 0)), (.tup [(.tup [(.cst (.int 0))]), (.tup [(.cst (.int 1))])])])])]), (.tup [(.cst (.int 2)), (.cst (.int 2)), (.cst (.int 0)), (.tup [(.tup [(.cst (.int 1)), (.cst (.int 0)), (.tup [(.tup [(.cst (.int 0))])])]), (.tup [(.cst (.int 1)), (.cst (.int 0)), (.tup [(.tup [(.cst (.int 1))])])])])])],
  .asg (.slot 22) (.tup [(.cst (.int 2)), (.cst (.int 2)), (.cst (.int 0)), (.tup [(.tup [(.cst (.int 2)), (.cst (.int 0)), (.tup [(.tup [(.cst (.int 0)), (.cst (.int 1))])])]), (.tup [(.cst (.int 2)), (.cst (.int 0)), (.tup [(.tup [(.cst (.int 1))])])])])]),
  .iff (.or (.cmp .isnot (.call 148 [(.var 21), (.tup [(.tup [(.var 27)]), (.tup [(.var 28)]), (.tup [(.var 29), (.var 30)]), (.tup [])])]) (.cst (.bl true))) (.cmp .isnot (.call 148 [(.var 21), (.tup [(.tup [(.var 27)]), (.tup [(.var 28)]), (.tup [(.var 29), (.var 30), (.var 22)]), (.tup [])])]) (.cst (.bl false)))) [.ret (.cst (.bl false))] [],
  .for_ (.slot 23) (.seq false (.lst [(.neg (.cst (.int 1))), (.bin .add (.idx (.var 2) (.cst (.int 1))) (.cst (.int 1))), (.cst .non), (.cst (.bl true)), (.cst (.str "0"))])) [.iff (.cmp .isnot (.call 153 [(.var 3), (.var 23), (.var 6)]) (.cst (.bl false))) [.ret (.cst (.bl false))] []],
  .ret (.cst (.bl true))]⟩
/-- fewest_ties(draft, found, plan) -/
def c158 : Fd := ⟨1, 3, [.asg (.slot 1) (.comp [2] (.slot 2) (.seq true (.call 19 [(.var 0)])) (.cst (.bl true)) (.tup [(.call 52 [(.fld (.var 0) 4), (.var 2)]), (.var 2)])),
  .iff (.cmp .eq (.app .len [(.var 1)]) (.cst (.int 0))) [.rais 4 (.cst (.str "plan"))] [],
  .ret (.idx (.app .minl [(.var 1)]) (.cst (.int 1)))]⟩
/-- cuts_at(draft, stand, choice, units, t, _, rows, at, pieces, unit, piece) -/
def c159 : Fd := ⟨3, 11, [.asg (.tup [(.slot 4), (.slot 5), (.slot 5), (.slot 6)]) (.var 1),
  .own 3 (.lst []),
  .for_ (.tup [(.slot 7), (.tup [(.slot 5), (.slot 5), (.slot 8)])]) (.enum false (.var 6)) [.iff (.cmp .ne (.var 7) (.var 2)) [.ext 3 (.comp2 [10, 9] (.slot 10) (.seq true (.var 8)) (.cst (.bl true)) [9] (.slot 9) (.seq false (.var 10)) (.cst (.bl true)) (.var 9))] []],
  .ret (.app .len [(.comp [9] (.slot 9) (.seq true (.peek 3)) (.call 11 [(.fld (.var 0) 4), (.var 9), (.var 4)]) (.var 9))])]⟩
/-- price_of(draft, stand, following, prices, choice, after) -/
def c160 : Fd := ⟨3, 6, [.iff (.cmp .eq (.idx (.var 1) (.cst (.int 0))) (.app .len [(.fld (.fld (.var 0) 4) 0)])) [.ret (.ife (.cmp .eq (.idx (.var 1) (.cst (.int 1))) (.fld (.var 0) 5)) (.cst (.int 0)) (.bin .add (.glo 8) (.cst (.int 1))))] [],
  .asg (.slot 3) (.comp [4, 5] (.tup [(.slot 4), (.slot 5)]) (.seq true (.call 135 [(.var 0), (.var 1)])) (.cst (.bl true)) (.bin .add (.call 159 [(.var 0), (.var 1), (.var 4)]) (.idx (.var 2) (.var 5)))),
  .ret (.ife (.cmp .gt (.app .len [(.var 3)]) (.cst (.int 0))) (.app .minl [(.var 3)]) (.bin .add (.glo 8) (.cst (.int 1))))]⟩
/-- price_of(draft, stand, following, prices, choice, after) -/
def c160_1 : Fd := ⟨3, 6, [.iff (.cmp .eq (.idx (.var 1) (.cst (.int 0))) (.app .len [(.fld (.fld (.var 0) 4) 0)])) [.ret (.ife (.cmp .eq (.idx (.var 1) (.cst (.int 1))) (.fld (.var 0) 5)) (.cst (.int 0)) (.bin .add (.glo 1) (.cst (.int 1))))] [],
  .asg (.slot 3) (.comp [4, 5] (.tup [(.slot 4), (.slot 5)]) (.seq true (.call 135 [(.var 0), (.var 1)])) (.cst (.bl true)) (.bin .add (.call 159 [(.var 0), (.var 1), (.var 4)]) (.idx (.var 2) (.var 5)))),
  .ret (.ife (.cmp .gt (.app .len [(.var 3)]) (.cst (.int 0))) (.app .minl [(.var 3)]) (.bin .add (.glo 1) (.cst (.int 1))))]⟩
/-- is_price(draft, value) -/
def c162 : Fd := ⟨2, 2, [.ret (.and (.call 2 [(.var 1), (.cst (.int 2)), (.cst (.int 2))]) (.and (.call 143 [(.var 0), (.idx (.var 1) (.cst (.int 0)))]) (.call 206 [(.idx (.var 1) (.cst (.int 1)))])))]⟩
/-- is_price(draft, value) -/
def c162_1 : Fd := ⟨2, 2, [.ret (.and (.call 2 [(.var 1), (.cst (.int 2)), (.cst (.int 2))]) (.and (.call 143 [(.var 0), (.idx (.var 1) (.cst (.int 0)))]) (.call 0 [(.idx (.var 1) (.cst (.int 1)))])))]⟩
/-- are_prices(draft, value, due, level, known, pair, stand, _) -/
def c163 : Fd := ⟨2, 8, [.asg (.slot 2) (.call 136 [(.var 0)]),
  .iff (.not (.call 2 [(.var 1), (.app .len [(.var 2)]), (.app .len [(.var 2)])])) [.ret (.cst (.bl false))] [],
  .for_ (.tup [(.slot 3), (.slot 4)]) (.zip (.var 1) (.var 2)) [.iff (.or (.not (.isi (.var 3) [.tuple])) (.not (.app .all [(.comp [5] (.slot 5) (.seq true (.var 3)) (.cst (.bl true)) (.call 162 [(.var 0), (.var 5)]))]))) [.ret (.cst (.bl false))] [], .iff (.cmp .ne (.app .tuple [(.comp [6, 7] (.tup [(.slot 6), (.slot 7)]) (.seq true (.var 3)) (.cst (.bl true)) (.var 6))]) (.var 4)) [.ret (.cst (.bl false))] []],
  .ret (.cst (.bl true))]⟩
/-- tie_prices_hold(draft, plan, value) -/
def c165 : Fd := ⟨3, 3, [.iff (.or (.not (.call 40 [(.var 0), (.var 1)])) (.or (.not (.call 163 [(.var 0), (.var 2)])) (.not (.call 164 [(.var 0), (.var 2)])))) [.ret (.cst (.bl false))] [],
  .ret (.cmp .eq (.idx (.idx (.idx (.var 2) (.cst (.int 0))) (.cst (.int 0))) (.cst (.int 1))) (.call 52 [(.fld (.var 0) 4), (.var 1)]))]⟩
/-- _law_cut(draft, plan, pair) -/
def c166 : Fd := ⟨2, 3, [.ret (.app .len [(.comp [2] (.slot 2) (.seq true (.idx (.idx (.var 0) (.cst (.int 0))) (.cst (.int 2)))) (.cmp .ne (.idx (.var 1) (.idx (.var 2) (.cst (.int 0)))) (.idx (.var 1) (.idx (.var 2) (.cst (.int 1))))) (.var 2))])]⟩
/-- _law_choice_cuts(draft, stand, choice, t, ahead, found, k, piece, a, b, unit) -/
def c167 : Fd := ⟨3, 11, [.asg (.slot 3) (.idx (.var 1) (.cst (.int 0))),
  .asg (.slot 4) (.comp [8, 9] (.tup [(.slot 8), (.slot 9)]) (.seq true (.idx (.idx (.var 0) (.cst (.int 0))) (.cst (.int 2)))) (.cmp .eq (.var 9) (.var 3)) (.var 8)),
  .asg (.slot 5) (.cst (.int 0)),
  .for_ (.slot 6) (.rng1 (.app .len [(.idx (.var 1) (.cst (.int 3)))])) [.iff (.cmp .ne (.var 6) (.var 2)) [.for_ (.slot 7) (.seq false (.idx (.idx (.idx (.var 1) (.cst (.int 3))) (.var 6)) (.cst (.int 2)))) [.asg (.slot 5) (.bin .add (.var 5) (.app .len [(.comp [10] (.slot 10) (.seq true (.var 7)) (.cmp .isin (.var 10) (.var 4)) (.var 10))]))]] []],
  .ret (.var 5)]⟩
/-- law(script, draft, box, made, every, n, odd, few, due, prices, k, plan) -/
def c169 : Fd := ⟨1, 12, [.asg (.slot 1) (.call 31 [(.var 0), (.cst (.int 8))]),
  .asg (.slot 2) (.call 23 [(.var 0), (.cst (.int 4))]),
  .asg (.slot 3) (.call 36 [(.var 1)]),
  .asg (.slot 4) (.call 35 [(.var 1)]),
  .asg (.slot 5) (.app .len [(.idx (.idx (.var 1) (.cst (.int 0))) (.cst (.int 0)))]),
  .for_ (.slot 6) (.seq false (.call 60 [(.var 2), (.var 1), (.var 4)])) [.iff (.cmp .ne (.call 37 [(.cst (.int 2)), (.var 3), (.var 6)]) (.tup [(.cst (.str "plan")), (.var 6)])) [.ret (.cst (.bl false))] []],
  .iff (.cmp .eq (.var 4) (.lst [])) [.ret (.and (.cmp .eq (.call 37 [(.cst (.int 0)), (.var 3), (.cst .non)]) (.tup [(.cst (.str "undefined")), (.cst (.str "plan"))])) (.cmp .eq (.call 37 [(.cst (.int 1)), (.var 3), (.cst .non)]) (.tup [(.cst (.str "undefined")), (.cst (.str "plan"))])))] [],
  .asg (.slot 7) (.app .minl [(.comp [11] (.slot 11) (.seq true (.var 4)) (.cst (.bl true)) (.call 166 [(.var 1), (.var 11)]))]),
  .asg (.slot 8) (.idx (.comp [11] (.slot 11) (.seq true (.var 4)) (.cmp .eq (.call 166 [(.var 1), (.var 11)]) (.var 7)) (.var 11)) (.cst (.int 0))),
  .iff (.cmp .ne (.call 37 [(.cst (.int 0)), (.var 3), (.cst .non)]) (.tup [(.cst (.str "told")), (.var 8)])) [.ret (.cst (.bl false))] [],
  .asg (.slot 9) (.call 37 [(.cst (.int 1)), (.var 3), (.cst .non)]),
  .iff (.or (.cmp .ne (.idx (.var 9) (.cst (.int 0))) (.cst (.str "told"))) (.or (.not (.call 168 [(.var 1), (.var 8), (.idx (.var 9) (.cst (.int 1)))])) (.cmp .isnot (.call 165 [(.var 3), (.var 8), (.idx (.var 9) (.cst (.int 1)))]) (.cst (.bl true))))) [.ret (.cst (.bl false))] [],
  .for_ (.slot 10) (.rng1 (.cst (.int 4))) [.asg (.slot 11) (.call 25 [(.var 2), (.var 4)]), .iff (.cmp .ne (.call 37 [(.cst (.int 2)), (.var 3), (.var 11)]) (.tup [(.cst (.str "told")), (.call 166 [(.var 1), (.var 11)])])) [.ret (.cst (.bl false))] []],
  .ret (.cst (.bl true))]⟩
/-- law(script, box, draft, made, every, n, best, own, more, less, values, k, plan, value, row, one) -/
def c171 : Fd := ⟨1, 16, [.asg (.slot 1) (.call 23 [(.var 0), (.cst (.int 4))]),
  .asg (.slot 2) (.call 154 [(.call 31 [(.var 0), (.idx (.lst [(.cst (.int 7)), (.cst (.int 7)), (.cst (.int 8))]) (.call 24 [(.var 1), (.cst (.int 3))]))])]),
  .asg (.slot 3) (.call 36 [(.var 2)]),
  .asg (.slot 4) (.call 35 [(.var 2)]),
  .asg (.slot 5) (.app .len [(.idx (.idx (.var 2) (.cst (.int 0))) (.cst (.int 0)))]),
  .iff (.cmp .eq (.var 4) (.lst [])) [.ret (.cmp .is (.call 165 [(.var 3), (.bin .mul (.tup [(.cst (.int 0))]) (.var 5)), (.call 170 [(.var 2)])]) (.cst (.bl false)))] [],
  .asg (.slot 6) (.call 158 [(.var 3)]),
  .asg (.slot 7) (.call 170 [(.var 2)]),
  .iff (.or (.not (.call 34 [(.var 2), (.var 6)])) (.cmp .isnot (.call 165 [(.var 3), (.var 6), (.var 7)]) (.cst (.bl true)))) [.ret (.cst (.bl false))] [],
  .asg (.slot 8) (.app .tuple [(.comp [14] (.slot 14) (.seq true (.var 7)) (.cst (.bl true)) (.app .tuple [(.comp [15] (.slot 15) (.seq true (.var 14)) (.cst (.bl true)) (.tup [(.idx (.var 15) (.cst (.int 0))), (.bin .add (.idx (.var 15) (.cst (.int 1))) (.cst (.int 1)))]))]))]),
  .asg (.slot 9) (.app .tuple [(.comp [14] (.slot 14) (.seq true (.var 7)) (.cst (.bl true)) (.app .tuple [(.comp [15] (.slot 15) (.seq true (.var 14)) (.cst (.bl true)) (.tup [(.idx (.var 15) (.cst (.int 0))), (.bin .sub (.idx (.var 15) (.cst (.int 1))) (.cst (.int 1)))]))]))]),
  .asg (.slot 10) (.lst [(.call 161 [(.var 3)]), (.var 7), (.var 8), (.var 9), (.bin .add (.slc false true (.var 7) (.cst .non) (.var 5)) (.tup [(.idx (.var 8) (.var 5))])), (.slc true false (.var 7) (.cst (.int 1)) (.cst .non)), (.bin .add (.var 7) (.tup [(.tup [])])), (.rev (.var 7)), (.app .list [(.var 7)]), (.cst .non)]),
  .asg (.slot 10) (.bin .add (.var 10) (.lst [(.app .tuple [(.comp [14] (.slot 14) (.seq true (.var 7)) (.cst (.bl true)) (.rev (.var 14)))]), (.app .tuple [(.comp [14] (.slot 14) (.seq true (.var 7)) (.cst (.bl true)) (.slc true false (.var 14) (.cst (.int 1)) (.cst .non)))])])),
  .for_ (.slot 11) (.rng1 (.cst (.int 3))) [.asg (.slot 10) (.bin .add (.var 10) (.lst [(.call 44 [(.var 1), (.var 7), (.cst (.int 3))]), (.call 44 [(.var 1), (.var 7), (.cst (.int 3))]), (.call 44 [(.var 1), (.var 7), (.cst (.int 7))])]))],
  .for_ (.slot 12) (.seq false (.lst [(.var 6), (.call 25 [(.var 1), (.var 4)]), (.app .list [(.var 6)]), (.cst .non), (.idx (.call 60 [(.var 1), (.var 2), (.var 4)]) (.neg (.cst (.int 1))))])) [.for_ (.slot 13) (.seq false (.var 10)) [.iff (.not (.call 43 [(.call 165 [(.var 3), (.var 12), (.var 13)]), (.call 168 [(.var 2), (.var 12), (.var 13)])])) [.ret (.cst (.bl false))] []]],
  .ret (.cst (.bl true))]⟩
/-- check_won(draft, won) -/
def c172 : Fd := ⟨2, 2, [.iff (.not (.call 1 [(.var 1), (.cst (.int 0)), (.fld (.var 0) 5)])) [.rais 0 (.var 1)] []]⟩
/-- seat_plan(draft, won, found, plan) -/
def c173 : Fd := ⟨2, 4, [.ex (.call 172 [(.var 0), (.var 1)]),
  .asg (.slot 2) (.comp [3] (.slot 3) (.seq true (.call 19 [(.var 0)])) (.cmp .eq (.call 48 [(.fld (.var 0) 4), (.var 3)]) (.var 1)) (.var 3)),
  .iff (.cmp .eq (.app .len [(.var 2)]) (.cst (.int 0))) [.rais 4 (.cst (.str "seats"))] [],
  .ret (.idx (.var 2) (.cst (.int 0)))]⟩
/-- seat_bars(draft, won, found) -/
def c174 : Fd := ⟨2, 3, [.ex (.call 172 [(.var 0), (.var 1)]),
  .asg (.slot 2) (.call 136 [(.var 0)]),
  .iff (.cmp .gt (.app .len [(.call 152 [(.var 0), (.var 1), (.var 2)])]) (.cst (.int 0))) [.rais 4 (.cst (.str "seats"))] [],
  .ret (.var 2)]⟩
/-- are_units(draft, value, many) -/
def c176 : Fd := ⟨2, 3, [.asg (.slot 2) (.app .len [(.fld (.fld (.var 0) 4) 0)]),
  .ret (.and (.cmp .eq (.app .len [(.var 1)]) (.cst (.int 2))) (.and (.call 107 [(.idx (.var 1) (.cst (.int 0))), (.var 2)]) (.and (.call 107 [(.idx (.var 1) (.cst (.int 1))), (.var 2)]) (.cmp .lt (.idx (.var 1) (.cst (.int 0))) (.idx (.var 1) (.cst (.int 1)))))))]⟩
/-- is_question(draft, value, word, right) -/
def c177 : Fd := ⟨2, 4, [.iff (.or (.not (.isi (.var 1) [.tuple])) (.or (.cmp .eq (.app .len [(.var 1)]) (.cst (.int 0))) (.not (.isi (.idx (.var 1) (.cst (.int 0))) [.str])))) [.ret (.cst (.bl false))] [],
  .asg (.slot 2) (.idx (.var 1) (.cst (.int 0))),
  .iff (.cmp .isin (.var 2) (.tup [(.cst (.str "plan")), (.cst (.str "ties"))])) [.ret (.cmp .eq (.app .len [(.var 1)]) (.cst (.int 1)))] [],
  .iff (.cmp .eq (.var 2) (.cst (.str "seats"))) [.ret (.and (.cmp .eq (.app .len [(.var 1)]) (.cst (.int 2))) (.call 107 [(.idx (.var 1) (.cst (.int 1))), (.bin .add (.fld (.var 0) 5) (.cst (.int 1)))]))] [],
  .iff (.cmp .eq (.var 2) (.cst (.str "lead"))) [.asg (.slot 3) (.and (.cmp .eq (.app .len [(.var 1)]) (.cst (.int 4))) (.call 63 [(.idx (.var 1) (.cst (.int 1)))])), .ret (.and (.var 3) (.and (.call 40 [(.var 0), (.idx (.var 1) (.cst (.int 2)))]) (.call 40 [(.var 0), (.idx (.var 1) (.cst (.int 3)))])))] [],
  .ret (.and (.cmp .eq (.var 2) (.cst (.str "pair"))) (.call 176 [(.var 0), (.slc true false (.var 1) (.cst (.int 1)) (.cst .non))]))]⟩
/-- is_claim(draft, value) -/
def c179 : Fd := ⟨2, 2, [.ret (.cmp .isnot (.call 178 [(.var 0), (.var 1)]) (.cst .non))]⟩
/-- question_of(draft, claim, question) -/
def c182 : Fd := ⟨2, 3, [.asg (.slot 2) (.call 178 [(.var 0), (.var 1)]),
  .iff (.cmp .is (.var 2) (.cst .non)) [.rais 8 (.var 1)] [],
  .ret (.var 2)]⟩
/-- are_joined(plan, one, other) -/
def c183 : Fd := ⟨3, 3, [.ret (.cmp .eq (.idx (.var 0) (.var 1)) (.idx (.var 0) (.var 2)))]⟩
/-- both_paper(draft, one, other, known, with_both, without, plan) -/
def c184 : Fd := ⟨3, 7, [.asg (.slot 3) (.call 19 [(.var 0)]),
  .asg (.slot 4) (.comp [6] (.slot 6) (.seq true (.var 3)) (.call 183 [(.var 6), (.var 1), (.var 2)]) (.var 6)),
  .asg (.slot 5) (.comp [6] (.slot 6) (.seq true (.var 3)) (.not (.call 183 [(.var 6), (.var 1), (.var 2)])) (.var 6)),
  .ret (.tup [(.idx (.var 4) (.cst (.int 0))), (.idx (.var 5) (.cst (.int 0)))])]⟩
/-- paper_of(draft, question, claim, word) -/
def c185 : Fd := ⟨2, 4, [.asg (.slot 2) (.call 181 [(.var 0), (.var 1)]),
  .asg (.slot 3) (.idx (.var 2) (.cst (.int 0))),
  .iff (.cmp .eq (.var 3) (.cst (.str "plan"))) [.ret (.call 42 [(.var 0)])] [],
  .iff (.cmp .isin (.var 3) (.tup [(.cst (.str "no plan")), (.cst (.str "no ties")), (.cst (.str "no pair"))])) [.ret (.call 147 [(.var 0)])] [],
  .iff (.cmp .eq (.var 3) (.cst (.str "ties"))) [.ret (.tup [(.call 158 [(.var 0)]), (.call 161 [(.var 0)])])] [],
  .iff (.cmp .eq (.var 3) (.cst (.str "seats"))) [.ret (.call 173 [(.var 0), (.idx (.var 2) (.cst (.int 1)))])] [],
  .iff (.cmp .eq (.var 3) (.cst (.str "not seats"))) [.ret (.call 174 [(.var 0), (.idx (.var 2) (.cst (.int 1)))])] [],
  .iff (.cmp .eq (.var 3) (.cst (.str "lead"))) [.ret (.call 83 [(.var 0), (.idx (.var 2) (.cst (.int 2))), (.idx (.var 2) (.cst (.int 3))), (.idx (.var 2) (.cst (.int 1)))])] [],
  .iff (.cmp .eq (.var 3) (.cst (.str "apart"))) [.ret (.call 85 [(.var 0), (.idx (.var 2) (.cst (.int 2))), (.idx (.var 2) (.cst (.int 1)))])] [],
  .iff (.cmp .eq (.var 3) (.cst (.str "both"))) [.ret (.call 184 [(.var 0), (.idx (.var 2) (.cst (.int 1))), (.idx (.var 2) (.cst (.int 2)))])] [],
  .ret (.call 19 [(.var 0)])]⟩
/-- _law_claim_form(draft, claim, n, kind) -/
def c186 : Fd := ⟨2, 4, [.asg (.slot 2) (.app .len [(.idx (.idx (.var 0) (.cst (.int 0))) (.cst (.int 0)))]),
  .iff (.or (.not (.isi (.var 1) [.tuple])) (.or (.cmp .eq (.var 1) (.tup [])) (.not (.isi (.idx (.var 1) (.cst (.int 0))) [.str])))) [.ret (.cst (.bl false))] [],
  .asg (.slot 3) (.idx (.var 1) (.cst (.int 0))),
  .iff (.cmp .isin (.var 3) (.lst [(.cst (.str "plan")), (.cst (.str "no plan")), (.cst (.str "no ties"))])) [.ret (.cmp .eq (.app .len [(.var 1)]) (.cst (.int 1)))] [],
  .iff (.cmp .eq (.var 3) (.cst (.str "ties"))) [.ret (.and (.cmp .eq (.app .len [(.var 1)]) (.cst (.int 2))) (.and (.call 26 [(.idx (.var 1) (.cst (.int 1)))]) (.cmp .ge (.idx (.var 1) (.cst (.int 1))) (.cst (.int 0)))))] [],
  .iff (.cmp .isin (.var 3) (.lst [(.cst (.str "seats")), (.cst (.str "not seats"))])) [.ret (.and (.cmp .eq (.app .len [(.var 1)]) (.cst (.int 2))) (.call 27 [(.slc true false (.var 1) (.cst (.int 1)) (.cst .non)), (.bin .add (.idx (.var 0) (.cst (.int 1))) (.cst (.int 1)))]))] [],
  .iff (.cmp .isin (.var 3) (.lst [(.cst (.str "lead")), (.cst (.str "apart"))])) [.iff (.or (.cmp .ne (.app .len [(.var 1)]) (.cst (.int 4))) (.or (.not (.isi (.idx (.var 1) (.cst (.int 1))) [.str])) (.cmp .notin (.idx (.var 1) (.cst (.int 1))) (.lst [(.cst (.str "flip")), (.cst (.str "swap")), (.cst (.str "join"))])))) [.ret (.cst (.bl false))] [], .ret (.and (.call 34 [(.var 0), (.idx (.var 1) (.cst (.int 2)))]) (.call 34 [(.var 0), (.idx (.var 1) (.cst (.int 3)))]))] [],
  .iff (.or (.cmp .notin (.var 3) (.lst [(.cst (.str "together")), (.cst (.str "parted")), (.cst (.str "both")), (.cst (.str "no pair"))])) (.cmp .ne (.app .len [(.var 1)]) (.cst (.int 3)))) [.ret (.cst (.bl false))] [],
  .ret (.and (.call 27 [(.slc true false (.var 1) (.cst (.int 1)) (.cst .non)), (.var 2)]) (.cmp .lt (.idx (.var 1) (.cst (.int 1))) (.idx (.var 1) (.cst (.int 2)))))]⟩
/-- _law_asked(claim, names, kind, pair) -/
def c187 : Fd := ⟨1, 4, [.asg (.slot 1) (.lst [(.tup [(.cst (.str "no plan")), (.cst (.str "plan"))]), (.tup [(.cst (.str "no ties")), (.cst (.str "ties"))]), (.tup [(.cst (.str "not seats")), (.cst (.str "seats"))]), (.tup [(.cst (.str "apart")), (.cst (.str "lead"))])]),
  .asg (.slot 1) (.bin .add (.var 1) (.lst [(.tup [(.cst (.str "together")), (.cst (.str "pair"))]), (.tup [(.cst (.str "parted")), (.cst (.str "pair"))]), (.tup [(.cst (.str "both")), (.cst (.str "pair"))]), (.tup [(.cst (.str "no pair")), (.cst (.str "pair"))])])),
  .asg (.slot 2) (.idx (.bin .add (.comp [3] (.slot 3) (.seq true (.var 1)) (.cmp .eq (.idx (.var 3) (.cst (.int 0))) (.idx (.var 0) (.cst (.int 0)))) (.idx (.var 3) (.cst (.int 1)))) (.lst [(.idx (.var 0) (.cst (.int 0)))])) (.cst (.int 0))),
  .ret (.bin .add (.tup [(.var 2)]) (.ife (.cmp .notin (.var 2) (.lst [(.cst (.str "plan")), (.cst (.str "ties"))])) (.slc true false (.var 0) (.cst (.int 1)) (.cst .non)) (.tup [])))]⟩
/-- _law_is_question(draft, value) -/
def c188 : Fd := ⟨2, 2, [.iff (.or (.not (.isi (.var 1) [.tuple])) (.or (.cmp .eq (.var 1) (.tup [])) (.not (.isi (.idx (.var 1) (.cst (.int 0))) [.str])))) [.ret (.cst (.bl false))] [],
  .iff (.cmp .isin (.idx (.var 1) (.cst (.int 0))) (.lst [(.cst (.str "plan")), (.cst (.str "ties"))])) [.ret (.cmp .eq (.app .len [(.var 1)]) (.cst (.int 1)))] [],
  .iff (.cmp .eq (.idx (.var 1) (.cst (.int 0))) (.cst (.str "pair"))) [.ret (.call 186 [(.var 0), (.bin .add (.tup [(.cst (.str "both"))]) (.slc true false (.var 1) (.cst (.int 1)) (.cst .non)))])] [],
  .ret (.and (.cmp .isin (.idx (.var 1) (.cst (.int 0))) (.lst [(.cst (.str "seats")), (.cst (.str "lead"))])) (.call 186 [(.var 0), (.var 1)]))]⟩
/-- _law_is_question(draft, value) -/
def c188_1 : Fd := ⟨2, 2, [.iff (.cmp .isin (.idx (.var 1) (.cst (.int 0))) (.lst [(.cst (.str "plan")), (.cst (.str "ties"))])) [.ret (.cst (.bl true))] [],
  .iff (.cmp .eq (.idx (.var 1) (.cst (.int 0))) (.cst (.str "pair"))) [.ret (.call 186 [(.var 0), (.bin .add (.tup [(.cst (.str "both"))]) (.slc true false (.var 1) (.cst (.int 1)) (.cst .non)))])] [],
  .ret (.call 186 [(.var 0), (.var 1)])]⟩
/-- same_value(one, other, at) -/
def c194 : Fd := ⟨2, 3, [.iff (.isi (.var 0) [.list, .tuple]) [.iff (.or (.cmp .ne (.isi (.var 0) [.list]) (.isi (.var 1) [.list])) (.cmp .ne (.isi (.var 0) [.tuple]) (.isi (.var 1) [.tuple]))) [.ret (.cst (.bl false))] [], .ret (.and (.cmp .eq (.app .len [(.var 0)]) (.app .len [(.var 1)])) (.app .all [(.comp [2] (.slot 2) (.rng1 (.app .len [(.var 0)])) (.cst (.bl true)) (.call 194 [(.idx (.var 0) (.var 2)), (.idx (.var 1) (.var 2))]))]))] [],
  .ret (.and (.cmp .eq (.isi (.var 0) [.bool]) (.isi (.var 1) [.bool])) (.cmp .eq (.var 0) (.var 1)))]⟩
/-- ties_hold(draft, many, paper) -/
def c195 : Fd := ⟨3, 3, [.iff (.or (.not (.call 109 [(.var 2), (.cst (.int 2))])) (.not (.call 165 [(.var 0), (.idx (.var 2) (.cst (.int 0))), (.idx (.var 2) (.cst (.int 1)))]))) [.ret (.cst (.bl false))] [],
  .ret (.cmp .eq (.call 53 [(.var 0), (.idx (.var 2) (.cst (.int 0)))]) (.var 1))]⟩
/-- lead_holds(draft, claim, paper) -/
def c196 : Fd := ⟨3, 3, [.ret (.and (.call 84 [(.var 0), (.idx (.var 1) (.cst (.int 1))), (.var 2)]) (.and (.cmp .eq (.idx (.var 2) (.cst (.int 0))) (.idx (.var 1) (.cst (.int 2)))) (.cmp .eq (.idx (.var 2) (.neg (.cst (.int 1)))) (.idx (.var 1) (.cst (.int 3))))))]⟩
/-- apart_holds(draft, claim, paper) -/
def c197 : Fd := ⟨3, 3, [.ret (.and (.call 86 [(.var 0), (.idx (.var 1) (.cst (.int 1))), (.var 2)]) (.and (.cmp .isin (.idx (.var 1) (.cst (.int 2))) (.var 2)) (.cmp .notin (.idx (.var 1) (.cst (.int 3))) (.var 2))))]⟩
/-- all_hold(draft, claim, paper, plan) -/
def c198 : Fd := ⟨3, 4, [.iff (.or (.not (.call 194 [(.call 19 [(.var 0)]), (.var 2)])) (.cmp .eq (.app .len [(.var 2)]) (.cst (.int 0)))) [.ret (.cst (.bl false))] [],
  .ret (.app .all [(.comp [3] (.slot 3) (.seq true (.var 2)) (.cst (.bl true)) (.cmp .eq (.call 183 [(.var 3), (.idx (.var 1) (.cst (.int 1))), (.idx (.var 1) (.cst (.int 2)))]) (.cmp .eq (.idx (.var 1) (.cst (.int 0))) (.cst (.str "together")))))])]⟩
/-- both_hold(draft, claim, paper, plan) -/
def c199 : Fd := ⟨3, 4, [.iff (.or (.not (.call 109 [(.var 2), (.cst (.int 2))])) (.not (.app .all [(.comp [3] (.slot 3) (.seq true (.var 2)) (.cst (.bl true)) (.call 40 [(.var 0), (.var 3)]))]))) [.ret (.cst (.bl false))] [],
  .ret (.and (.call 183 [(.idx (.var 2) (.cst (.int 0))), (.idx (.var 1) (.cst (.int 1))), (.idx (.var 1) (.cst (.int 2)))]) (.not (.call 183 [(.idx (.var 2) (.cst (.int 1))), (.idx (.var 1) (.cst (.int 1))), (.idx (.var 1) (.cst (.int 2)))])))]⟩
/-- claim_holds(draft, claim, paper, word) -/
def c200 : Fd := ⟨3, 4, [.iff (.cmp .is (.call 178 [(.var 0), (.var 1)]) (.cst .non)) [.ret (.cst (.bl false))] [],
  .asg (.slot 3) (.idx (.var 1) (.cst (.int 0))),
  .iff (.cmp .eq (.var 3) (.cst (.str "plan"))) [.ret (.call 40 [(.var 0), (.var 2)])] [],
  .iff (.cmp .isin (.var 3) (.tup [(.cst (.str "no plan")), (.cst (.str "no ties")), (.cst (.str "no pair"))])) [.ret (.call 148 [(.var 0), (.var 2)])] [],
  .iff (.cmp .eq (.var 3) (.cst (.str "ties"))) [.ret (.call 195 [(.var 0), (.idx (.var 1) (.cst (.int 1))), (.var 2)])] [],
  .iff (.cmp .eq (.var 3) (.cst (.str "seats"))) [.ret (.and (.call 40 [(.var 0), (.var 2)]) (.cmp .eq (.call 49 [(.var 0), (.var 2)]) (.idx (.var 1) (.cst (.int 1)))))] [],
  .iff (.cmp .eq (.var 3) (.cst (.str "not seats"))) [.ret (.call 153 [(.var 0), (.idx (.var 1) (.cst (.int 1))), (.var 2)])] [],
  .iff (.cmp .eq (.var 3) (.cst (.str "lead"))) [.ret (.call 196 [(.var 0), (.var 1), (.var 2)])] [],
  .iff (.cmp .eq (.var 3) (.cst (.str "apart"))) [.ret (.call 197 [(.var 0), (.var 1), (.var 2)])] [],
  .iff (.cmp .eq (.var 3) (.cst (.str "both"))) [.ret (.call 199 [(.var 0), (.var 1), (.var 2)])] [],
  .ret (.call 198 [(.var 0), (.var 1), (.var 2)])]⟩
/-- _law_claim(draft, every, claim, paper, kind, a, b, one) -/
def c201 : Fd := ⟨4, 8, [.iff (.not (.call 186 [(.var 0), (.var 2)])) [.ret (.cst (.bl false))] [],
  .asg (.slot 4) (.idx (.var 2) (.cst (.int 0))),
  .iff (.cmp .eq (.var 4) (.cst (.str "plan"))) [.ret (.call 34 [(.var 0), (.var 3)])] [],
  .iff (.cmp .isin (.var 4) (.lst [(.cst (.str "no plan")), (.cst (.str "no ties")), (.cst (.str "no pair"))])) [.ret (.call 150 [(.var 0), (.cst .non), (.var 3)])] [],
  .iff (.cmp .eq (.var 4) (.cst (.str "seats"))) [.ret (.and (.call 34 [(.var 0), (.var 3)]) (.cmp .eq (.call 58 [(.var 0), (.var 3)]) (.idx (.var 2) (.cst (.int 1)))))] [],
  .iff (.cmp .eq (.var 4) (.cst (.str "not seats"))) [.ret (.call 150 [(.var 0), (.idx (.var 2) (.cst (.int 1))), (.var 3)])] [],
  .iff (.cmp .eq (.var 4) (.cst (.str "lead"))) [.ret (.and (.call 91 [(.call 76 [(.var 1), (.idx (.var 2) (.cst (.int 1)))]), (.var 3)]) (.and (.cmp .eq (.idx (.var 3) (.cst (.int 0))) (.idx (.var 2) (.cst (.int 2)))) (.cmp .eq (.idx (.var 3) (.neg (.cst (.int 1)))) (.idx (.var 2) (.cst (.int 3))))))] [],
  .iff (.cmp .eq (.var 4) (.cst (.str "apart"))) [.ret (.and (.call 93 [(.call 76 [(.var 1), (.idx (.var 2) (.cst (.int 1)))]), (.var 3)]) (.and (.cmp .isin (.idx (.var 2) (.cst (.int 2))) (.var 3)) (.cmp .notin (.idx (.var 2) (.cst (.int 3))) (.var 3))))] [],
  .iff (.cmp .isin (.var 4) (.lst [(.cst (.str "together")), (.cst (.str "parted"))])) [.asg (.tup [(.slot 5), (.slot 6)]) (.slc true false (.var 2) (.cst (.int 1)) (.cst .non)), .iff (.or (.not (.isi (.var 3) [.tuple])) (.or (.cmp .eq (.var 3) (.tup [])) (.or (.cmp .ne (.comp [7] (.slot 7) (.seq true (.var 3)) (.not (.call 34 [(.var 0), (.var 7)])) (.var 7)) (.lst [])) (.cmp .ne (.app .list [(.var 3)]) (.var 1))))) [.ret (.cst (.bl false))] [], .ret (.cmp .eq (.comp [7] (.slot 7) (.seq true (.var 3)) (.cmp .ne (.cmp .eq (.idx (.var 7) (.var 5)) (.idx (.var 7) (.var 6))) (.cmp .eq (.var 4) (.cst (.str "together")))) (.var 7)) (.lst []))] [],
  .iff (.or (.not (.isi (.var 3) [.tuple])) (.cmp .ne (.app .len [(.var 3)]) (.cst (.int 2)))) [.ret (.cst (.bl false))] [],
  .iff (.cmp .eq (.var 4) (.cst (.str "ties"))) [.ret (.and (.call 168 [(.var 0), (.idx (.var 3) (.cst (.int 0))), (.idx (.var 3) (.cst (.int 1)))]) (.cmp .eq (.call 166 [(.var 0), (.idx (.var 3) (.cst (.int 0)))]) (.idx (.var 2) (.cst (.int 1)))))] [],
  .asg (.tup [(.slot 5), (.slot 6)]) (.slc true false (.var 2) (.cst (.int 1)) (.cst .non)),
  .iff (.or (.not (.call 34 [(.var 0), (.idx (.var 3) (.cst (.int 0)))])) (.not (.call 34 [(.var 0), (.idx (.var 3) (.cst (.int 1)))]))) [.ret (.cst (.bl false))] [],
  .ret (.and (.cmp .eq (.idx (.idx (.var 3) (.cst (.int 0))) (.var 5)) (.idx (.idx (.var 3) (.cst (.int 0))) (.var 6))) (.cmp .ne (.idx (.idx (.var 3) (.cst (.int 1))) (.var 5)) (.idx (.idx (.var 3) (.cst (.int 1))) (.var 6))))]⟩
/-- _law_question(box, draft, every, n, kind, b) -/
def c202 : Fd := ⟨3, 6, [.asg (.slot 3) (.app .len [(.idx (.idx (.var 1) (.cst (.int 0))) (.cst (.int 0)))]),
  .asg (.slot 4) (.call 25 [(.var 0), (.lst [(.cst (.str "plan")), (.cst (.str "ties")), (.cst (.str "seats")), (.cst (.str "seats")), (.cst (.str "lead")), (.cst (.str "lead")), (.cst (.str "pair")), (.cst (.str "pair"))])]),
  .iff (.cmp .eq (.var 4) (.cst (.str "seats"))) [.ret (.tup [(.var 4), (.call 24 [(.var 0), (.bin .add (.idx (.var 1) (.cst (.int 1))) (.cst (.int 1)))])])] [],
  .iff (.and (.cmp .eq (.var 4) (.cst (.str "lead"))) (.cmp .ne (.var 2) (.lst []))) [.ret (.tup [(.var 4), (.call 25 [(.var 0), (.lst [(.cst (.str "flip")), (.cst (.str "swap")), (.cst (.str "join"))])]), (.call 25 [(.var 0), (.var 2)]), (.call 25 [(.var 0), (.var 2)])])] [],
  .iff (.and (.cmp .eq (.var 4) (.cst (.str "pair"))) (.cmp .gt (.var 3) (.cst (.int 1)))) [.asg (.slot 5) (.bin .add (.cst (.int 1)) (.call 24 [(.var 0), (.bin .sub (.var 3) (.cst (.int 1)))])), .ret (.tup [(.var 4), (.call 24 [(.var 0), (.var 5)]), (.var 5)])] [],
  .ret (.ife (.cmp .ne (.var 4) (.cst (.str "ties"))) (.tup [(.cst (.str "plan"))]) (.tup [(.var 4)]))]⟩
/-- _law_others(claim, groups, found, group, one, kind) -/
def c203 : Fd := ⟨1, 6, [.asg (.slot 1) (.lst [(.lst [(.cst (.str "plan")), (.cst (.str "no plan"))]), (.lst [(.cst (.str "seats")), (.cst (.str "not seats"))]), (.lst [(.cst (.str "lead")), (.cst (.str "apart"))]), (.lst [(.cst (.str "together")), (.cst (.str "parted")), (.cst (.str "both")), (.cst (.str "no pair"))])]),
  .asg (.slot 2) (.lst []),
  .for_ (.slot 3) (.seq false (.var 1)) [.iff (.cmp .isin (.idx (.var 0) (.cst (.int 0))) (.var 3)) [.asg (.slot 2) (.bin .add (.var 2) (.comp [5] (.slot 5) (.seq true (.var 3)) (.cst (.bl true)) (.bin .add (.tup [(.var 5)]) (.slc true false (.var 0) (.cst (.int 1)) (.cst .non)))))] []],
  .iff (.cmp .eq (.idx (.var 0) (.cst (.int 0))) (.cst (.str "ties"))) [.asg (.slot 2) (.lst [(.tup [(.cst (.str "no ties"))]), (.tup [(.cst (.str "ties")), (.bin .add (.idx (.var 0) (.cst (.int 1))) (.cst (.int 1)))]), (.tup [(.cst (.str "ties")), (.app .max2 [(.cst (.int 0)), (.bin .sub (.idx (.var 0) (.cst (.int 1))) (.cst (.int 1)))])])])] [],
  .iff (.cmp .eq (.idx (.var 0) (.cst (.int 0))) (.cst (.str "no ties"))) [.asg (.slot 2) (.lst [(.tup [(.cst (.str "ties")), (.cst (.int 0))])])] [],
  .ret (.comp [4] (.slot 4) (.seq true (.var 2)) (.cmp .ne (.var 4) (.var 0)) (.var 4))]⟩
/-- law(script, box, draft, made, every, turn, question, claim, paper, other) -/
def c204 : Fd := ⟨1, 10, [.asg (.slot 1) (.call 23 [(.var 0), (.cst (.int 4))]),
  .asg (.slot 2) (.call 78 [(.var 0), (.cst (.int 8)), (.idx (.lst [(.cst (.int 120)), (.cst (.int 120)), (.cst (.int 4000))]) (.call 24 [(.var 1), (.cst (.int 3))]))]),
  .asg (.slot 3) (.call 36 [(.var 2)]),
  .iff (.cmp .eq (.call 24 [(.var 1), (.cst (.int 3))]) (.cst (.int 0))) [.asg (.slot 2) (.call 77 [(.var 0), (.cst (.int 8)), (.cst (.int 120))]), .asg (.slot 3) (.call 36 [(.var 2)])] [],
  .asg (.slot 4) (.call 35 [(.var 2)]),
  .for_ (.slot 5) (.rng1 (.ife (.cmp .lt (.app .len [(.var 4)]) (.cst (.int 200))) (.cst (.int 4)) (.cst (.int 2)))) [.asg (.slot 6) (.call 202 [(.var 1), (.var 2), (.var 4)]), .asg (.slot 7) (.call 181 [(.var 3), (.var 6)]), .iff (.or (.not (.call 186 [(.var 2), (.var 7)])) (.or (.cmp .ne (.call 187 [(.var 7)]) (.var 6)) (.cmp .ne (.call 182 [(.var 3), (.var 7)]) (.var 6)))) [.ret (.cst (.bl false))] [], .asg (.slot 8) (.call 185 [(.var 3), (.var 6)]), .iff (.or (.not (.call 201 [(.var 2), (.var 4), (.var 7), (.var 8)])) (.cmp .isnot (.call 200 [(.var 3), (.var 7), (.var 8)]) (.cst (.bl true)))) [.ret (.cst (.bl false))] [], .for_ (.slot 9) (.seq false (.call 203 [(.var 7)])) [.iff (.cmp .isnot (.call 200 [(.var 3), (.var 9), (.var 8)]) (.cst (.bl false))) [.ret (.cst (.bl false))] []]],
  .ret (.cst (.bl true))]⟩
/-- is_integer_kinds(value) -/
def c206 : Fd := ⟨1, 1, [.ret (.and (.isi (.var 0) [.int]) (.not (.isi (.var 0) [.bool])))]⟩
/-- looked_at(draft, question, kept, found) -/
def c207 : Fd := ⟨3, 4, [.iff (.not (.call 177 [(.var 0), (.var 1)])) [.ret (.tup [(.tup [(.var 1), (.cst .non), (.cst .non)]), (.ife (.cmp .is (.var 2) (.cst .non)) (.cst (.str "new")) (.cst (.str "none")))])] [],
  .iff (.and (.cmp .isnot (.var 2) (.cst .non)) (.and (.cmp .isnot (.idx (.var 2) (.cst (.int 1))) (.cst .non)) (.call 200 [(.var 0), (.idx (.var 2) (.cst (.int 1))), (.idx (.var 2) (.cst (.int 2)))]))) [.ret (.tup [(.var 2), (.cst (.str "kept"))])] [],
  .asg (.slot 3) (.tup [(.var 1), (.call 181 [(.var 0), (.var 1)]), (.call 185 [(.var 0), (.var 1)])]),
  .iff (.cmp .is (.var 2) (.cst .non)) [.ret (.tup [(.var 3), (.cst (.str "new"))])] [],
  .ret (.tup [(.var 3), (.ife (.call 194 [(.idx (.var 3) (.cst (.int 1))), (.idx (.var 2) (.cst (.int 1)))]) (.cst (.str "renewed")) (.cst (.str "changed")))])]⟩
/-- Desk.__init__(self, draft) -/
def c208 : Fd := ⟨2, 2, [.fset (.var 0) 11 (.var 1),
  .fset (.var 0) 12 (.tup []),
  .fset (.var 0) 5 (.cst (.int 0)),
  .fset (.var 0) 13 (.tup []),
  .fset (.var 0) 14 (.tup []),
  .fset (.var 0) 15 (.cell []),
  .fset (.var 0) 16 (.cell [])]⟩
/-- Desk._entry(self, question, entry) -/
def c209 : Fd := ⟨2, 3, [.for_ (.slot 2) (.seq false (.fld (.var 0) 13)) [.iff (.call 194 [(.idx (.var 2) (.cst (.int 0))), (.var 1)]) [.ret (.var 2)] []],
  .ret (.cst .non)]⟩
/-- Desk.settle(self, unit, people) -/
def c213 : Fd := ⟨3, 3, [.ex (.call 62 [(.cst (.int 0))])]⟩
/-- Desk.lean(self, unit, lead) -/
def c214 : Fd := ⟨3, 3, [.ex (.call 62 [(.cst (.int 1))])]⟩
/-- Desk.untie(self, a, b) -/
def c216 : Fd := ⟨3, 3, [.ex (.call 62 [(.cst (.int 2))])]⟩
/-- Desk.untie(self, a, b) -/
def c216_1 : Fd := ⟨3, 3, [.ex (.call 62 [(.cst (.int 0))])]⟩
/-- Desk.watch(self, question) -/
def c218 : Fd := ⟨2, 2, [.ex (.call 62 [(.cst (.int 3))])]⟩
/-- Desk.watch(self, question) -/
def c218_1 : Fd := ⟨2, 2, [.ex (.call 62 [(.cst (.int 0))])]⟩
/-- Desk.leave(self, question) -/
def c219 : Fd := ⟨2, 2, [.ex (.call 62 [(.cst (.int 4))])]⟩
/-- Desk.leave(self, question) -/
def c219_1 : Fd := ⟨2, 2, [.ex (.call 62 [(.cst (.int 1))])]⟩
/-- Desk.undo(self) -/
def c220 : Fd := ⟨1, 1, [.ex (.call 62 [(.cst (.int 5))])]⟩
/-- Desk.undo(self) -/
def c220_1 : Fd := ⟨1, 1, [.ex (.call 62 [(.cst (.int 1))])]⟩
/-- Desk.redo(self) -/
def c221 : Fd := ⟨1, 1, [.ex (.call 62 [(.cst (.int 6))])]⟩
/-- Desk.redo(self) -/
def c221_1 : Fd := ⟨1, 1, [.ex (.call 62 [(.cst (.int 2))])]⟩
/-- Desk.report(self) -/
def c224 : Fd := ⟨1, 1, [.ex (.call 62 [(.cst (.int 7))])]⟩
/-- Desk.report(self) -/
def c224_1 : Fd := ⟨1, 1, [.ex (.call 62 [(.cst (.int 3))])]⟩
/-- Desk.report(self) -/
def c224_2 : Fd := ⟨1, 1, [.ret (.fld (.var 0) 14)]⟩
/-- Desk.state(self) -/
def c225 : Fd := ⟨1, 1, [.ret (.tup [(.fld (.var 0) 11), (.fld (.var 0) 13), (.app .len [(.fld (.var 0) 15)]), (.app .len [(.fld (.var 0) 16)])])]⟩
/-- _law_are_ties(value, n, k) -/
def c227 : Fd := ⟨2, 3, [.iff (.or (.not (.isi (.var 0) [.tuple])) (.cmp .gt (.app .len [(.var 0)]) (.cst (.int 16)))) [.ret (.cst (.bl false))] [],
  .for_ (.slot 2) (.rng1 (.app .len [(.var 0)])) [.iff (.or (.not (.call 27 [(.idx (.var 0) (.var 2)), (.var 1)])) (.or (.cmp .ne (.app .len [(.idx (.var 0) (.var 2))]) (.cst (.int 2))) (.or (.cmp .ge (.idx (.idx (.var 0) (.var 2)) (.cst (.int 0))) (.idx (.idx (.var 0) (.var 2)) (.cst (.int 1)))) (.and (.cmp .gt (.var 2) (.cst (.int 0))) (.cmp .ge (.idx (.var 0) (.bin .sub (.var 2) (.cst (.int 1)))) (.idx (.var 0) (.var 2))))))) [.ret (.cst (.bl false))] []],
  .ret (.cst (.bl true))]⟩
/-- _law_are_leads(value, n, one) -/
def c228 : Fd := ⟨2, 3, [.iff (.or (.not (.isi (.var 0) [.tuple])) (.cmp .ne (.app .len [(.var 0)]) (.var 1))) [.ret (.cst (.bl false))] [],
  .ret (.cmp .eq (.comp [2] (.slot 2) (.seq true (.var 0)) (.or (.not (.call 26 [(.var 2)])) (.or (.cmp .lt (.var 2) (.neg (.cst (.int 99)))) (.cmp .gt (.var 2) (.cst (.int 99))))) (.var 2)) (.lst []))]⟩
/-- _law_due(people, leads, ties) -/
def c229 : Fd := ⟨3, 3, [.iff (.or (.not (.call 27 [(.var 0), (.cst (.int 100))])) (.or (.cmp .lt (.app .len [(.var 0)]) (.cst (.int 1))) (.cmp .gt (.app .len [(.var 0)]) (.cst (.int 8))))) [.ret (.tup [(.cst (.str "people")), (.var 0)])] [],
  .iff (.not (.call 228 [(.var 1), (.app .len [(.var 0)])])) [.ret (.tup [(.cst (.str "leads")), (.var 1)])] [],
  .ret (.ife (.call 227 [(.var 2), (.app .len [(.var 0)])]) (.tup [(.cst (.str "kept")), (.var 0), (.var 1), (.var 2)]) (.tup [(.cst (.str "ties")), (.var 2)]))]⟩
/-- _law_all_pairs(n, found, a, b) -/
def c230 : Fd := ⟨1, 4, [.asg (.slot 1) (.tup []),
  .for_ (.slot 2) (.rng1 (.var 0)) [.asg (.slot 1) (.bin .add (.var 1) (.app .tuple [(.comp [3] (.slot 3) (.rng2 (.bin .add (.var 2) (.cst (.int 1))) (.var 0)) (.cst (.bl true)) (.tup [(.var 2), (.var 3)]))]))],
  .ret (.var 1)]⟩
/-- law(script, box, n, made, other, every, cases, k, one, row, odd, people, leads, ties, units, order, left, path, long, plain, led, unit) -/
def c231 : Fd := ⟨1, 22, [.asg (.slot 1) (.call 23 [(.var 0), (.cst (.int 0))]),
  .asg (.tup [(.slot 11), (.slot 12), (.slot 13)]) (.call 30 [(.call 23 [(.var 0), (.cst (.int 1))]), (.cst (.int 8))]),
  .asg (.slot 2) (.app .len [(.var 11)]),
  .asg (.slot 3) (.mk 0 [(.var 11), (.var 12), (.var 13)]),
  .iff (.or (.cmp .ne (.app .len [(.var 3)]) (.var 2)) (.or (.not (.oeq false 0 10 (.var 3) (.mk 0 [(.var 11), (.var 12), (.var 13)]))) (.oeq false 0 10 (.var 3) (.tup [(.var 11), (.var 12), (.var 13)])))) [.ret (.cst (.bl false))] [],
  .for_ (.slot 4) (.seq false (.lst [(.mk 0 [(.rev (.var 11)), (.var 12), (.var 13)]), (.mk 0 [(.var 11), (.rev (.var 12)), (.var 13)]), (.mk 0 [(.var 11), (.var 12), (.slc true false (.var 13) (.cst (.int 1)) (.cst .non))])])) [.iff (.not (.call 43 [(.oeq false 0 10 (.var 3) (.var 4)), (.cmp .eq (.tup [(.fld (.var 4) 0), (.fld (.var 4) 1), (.fld (.var 4) 2)]) (.tup [(.var 11), (.var 12), (.var 13)]))])) [.ret (.cst (.bl false))] []],
  .asg (.slot 5) (.call 230 [(.var 2)]),
  .asg (.slot 6) (.lst [(.tup [(.var 11), (.var 12), (.var 13)]), (.tup [(.app .list [(.var 11)]), (.var 12), (.var 13)]), (.tup [(.bin .add (.var 11) (.tup [(.cst (.int 1))])), (.var 12), (.var 13)]), (.tup [(.bin .mul (.tup [(.cst (.int 1))]) (.cst (.int 9))), (.bin .mul (.tup [(.cst (.int 0))]) (.cst (.int 9))), (.tup [])]), (.tup [(.tup []), (.tup []), (.tup [])]), (.tup [(.cst .non), (.var 12), (.var 13)])]),
  .asg (.slot 6) (.bin .add (.var 6) (.lst [(.tup [(.bin .add (.tup [(.cst (.int 100))]) (.slc true false (.var 11) (.cst (.int 1)) (.cst .non))), (.var 12), (.var 13)]), (.tup [(.bin .add (.tup [(.neg (.cst (.int 1)))]) (.slc true false (.var 11) (.cst (.int 1)) (.cst .non))), (.var 12), (.var 13)]), (.tup [(.bin .add (.tup [(.cst (.bl true))]) (.slc true false (.var 11) (.cst (.int 1)) (.cst .non))), (.var 12), (.var 13)]), (.tup [(.bin .mul (.tup [(.cst (.int 99))]) (.var 2)), (.var 12), (.var 13)])])),
  .asg (.slot 6) (.bin .add (.var 6) (.lst [(.tup [(.var 11), (.slc true false (.var 12) (.cst (.int 1)) (.cst .non)), (.var 13)]), (.tup [(.var 11), (.app .list [(.var 12)]), (.var 13)]), (.tup [(.var 11), (.bin .add (.tup [(.cst (.int 100))]) (.slc true false (.var 12) (.cst (.int 1)) (.cst .non))), (.var 13)]), (.tup [(.var 11), (.bin .add (.tup [(.neg (.cst (.int 100)))]) (.slc true false (.var 12) (.cst (.int 1)) (.cst .non))), (.var 13)])])),
  .asg (.slot 6) (.bin .add (.var 6) (.lst [(.tup [(.var 11), (.bin .mul (.tup [(.neg (.cst (.int 99)))]) (.var 2)), (.var 13)]), (.tup [(.var 11), (.bin .add (.tup [(.cst (.bl false))]) (.slc true false (.var 12) (.cst (.int 1)) (.cst .non))), (.var 13)]), (.tup [(.var 11), (.var 12), (.app .list [(.var 13)])]), (.tup [(.var 11), (.var 12), (.rev (.var 13))])])),
  .asg (.slot 6) (.bin .add (.var 6) (.lst [(.tup [(.var 11), (.var 12), (.bin .add (.var 13) (.tup [(.tup [(.bin .sub (.var 2) (.cst (.int 1))), (.var 2)])]))]), (.tup [(.var 11), (.var 12), (.tup [(.tup [(.cst (.int 0)), (.cst (.int 0))])])]), (.tup [(.var 11), (.var 12), (.bin .add (.var 13) (.slc true false (.var 13) (.neg (.cst (.int 1))) (.cst .non)))]), (.tup [(.var 11), (.var 12), (.cst .non)])])),
  .asg (.slot 6) (.bin .add (.var 6) (.lst [(.tup [(.var 11), (.var 12), (.slc false true (.var 5) (.cst .non) (.cst (.int 16)))]), (.tup [(.var 11), (.var 12), (.slc false true (.var 5) (.cst .non) (.cst (.int 17)))]), (.tup [(.var 11), (.var 12), (.tup [(.tup [(.cst (.int 1)), (.cst (.int 0))])])]), (.tup [(.var 11), (.var 12), (.tup [(.tup [(.cst (.int 0))])])])])),
  .for_ (.slot 7) (.rng1 (.cst (.int 4))) [.asg (.slot 6) (.bin .add (.var 6) (.lst [(.tup [(.var 11), (.var 12), (.call 44 [(.var 1), (.var 13), (.cst (.int 2))])]), (.tup [(.call 44 [(.var 1), (.var 11), (.cst (.int 1))]), (.var 12), (.var 13)])]))],
  .for_ (.slot 8) (.seq false (.var 6)) [.iff (.cmp .ne (.call 37 [(.idx (.var 8) (.cst (.int 0))), (.idx (.var 8) (.cst (.int 1))), (.idx (.var 8) (.cst (.int 2)))]) (.call 229 [(.idx (.var 8) (.cst (.int 0))), (.idx (.var 8) (.cst (.int 1))), (.idx (.var 8) (.cst (.int 2)))])) [.ret (.cst (.bl false))] []],
  .for_ (.slot 7) (.rng1 (.cst (.int 16))) [.asg (.slot 14) (.app .tuple [(.comp [21] (.slot 21) (.rng1 (.var 2)) (.cmp .eq (.call 24 [(.var 1), (.cst (.int 2))]) (.cst (.int 0))) (.var 21))]), .iff (.not (.call 43 [(.call 97 [(.var 3), (.var 14)]), (.call 32 [(.var 13), (.var 14)])])) [.ret (.cst (.bl false))] []],
  .par [15, 16] [(.lst []), (.app .lrange [(.cst (.int 7))])],
  .for_ (.slot 7) (.rng1 (.cst (.int 7))) [.asg (.slot 8) (.call 25 [(.var 1), (.var 16)]), .par [15, 16] [(.bin .add (.var 15) (.lst [(.var 8)])), (.comp [4] (.slot 4) (.seq true (.var 16)) (.cmp .ne (.var 4) (.var 8)) (.var 4))]],
  .for_ (.slot 9) (.seq false (.lst [(.var 15), (.lst [(.cst (.int 0)), (.cst (.int 6)), (.cst (.int 5)), (.cst (.int 4)), (.cst (.int 3)), (.cst (.int 2)), (.cst (.int 1))])])) [.asg (.slot 17) (.app .tuple [(.app .sorted [(.comp [7] (.slot 7) (.rng1 (.cst (.int 6))) (.cst (.bl true)) (.tup [(.app .min2 [(.idx (.var 9) (.var 7)), (.idx (.var 9) (.bin .add (.var 7) (.cst (.int 1))))]), (.app .max2 [(.idx (.var 9) (.var 7)), (.idx (.var 9) (.bin .add (.var 7) (.cst (.int 1))))])]))])]), .asg (.slot 18) (.mk 0 [(.bin .mul (.tup [(.cst (.int 1))]) (.cst (.int 7))), (.bin .mul (.tup [(.cst (.int 0))]) (.cst (.int 7))), (.var 17)]), .iff (.or (.cmp .isnot (.call 97 [(.var 18), (.tup [(.cst (.int 0)), (.cst (.int 1)), (.cst (.int 2)), (.cst (.int 3)), (.cst (.int 4)), (.cst (.int 5)), (.cst (.int 6))])]) (.cst (.bl true))) (.or (.cmp .ne (.call 41 [(.mk 1 [(.var 18), (.cst (.int 1)), (.cst (.int 0)), (.cst (.int 99))])]) (.cst (.int 1))) (.cmp .isnot (.call 97 [(.var 18), (.app .tuple [(.app .sorted [(.bin .add (.slc false true (.var 9) (.cst .non) (.cst (.int 3))) (.slc true false (.var 9) (.cst (.int 4)) (.cst .non)))])])]) (.cst (.bl false))))) [.ret (.cst (.bl false))] []],
  .par [19, 20] [(.mk 0 [(.tup [(.cst (.int 1)), (.cst (.int 1))]), (.tup [(.cst (.int 0)), (.cst (.int 0))]), (.tup [(.tup [(.cst (.int 0)), (.cst (.int 1))])])]), (.mk 0 [(.tup [(.cst (.int 1)), (.cst (.int 1))]), (.tup [(.cst (.int 5)), (.cst (.int 0))]), (.tup [(.tup [(.cst (.int 0)), (.cst (.int 1))])])])],
  .iff (.or (.not (.call 43 [(.oeq false 1 14 (.mk 1 [(.var 19), (.cst (.int 2)), (.cst (.int 0)), (.cst (.int 9))]) (.mk 1 [(.var 20), (.cst (.int 2)), (.cst (.int 0)), (.cst (.int 9))])), (.cst (.bl false))])) (.not (.call 43 [(.call 226 [(.mk 3 [(.mk 1 [(.var 19), (.cst (.int 2)), (.cst (.int 0)), (.cst (.int 9))])]), (.mk 3 [(.mk 1 [(.var 20), (.cst (.int 2)), (.cst (.int 0)), (.cst (.int 9))])])]), (.cst (.bl false))]))) [.ret (.cst (.bl false))] [],
  .for_ (.slot 10) (.seq false (.lst [(.lst [(.cst (.int 0))]), (.tup [(.var 2)]), (.tup [(.cst (.int 0)), (.cst (.int 0))]), (.tup [(.cst (.int 1)), (.cst (.int 0))]), (.tup [(.neg (.cst (.int 1)))]), (.tup [(.cst (.bl true))]), (.cst .non), (.cst (.int 0)), (.tup [])])) [.iff (.cmp .isnot (.call 97 [(.var 3), (.var 10)]) (.cst (.bl false))) [.ret (.cst (.bl false))] []],
  .ret (.cmp .is (.call 97 [(.var 3), (.tup [(.cst (.int 0))])]) (.cst (.bl true)))]⟩
/-- _law_asked_of(made, draft, every, wins, n, pairs, a, few, plan, won, b, row) -/
def c233 : Fd := ⟨2, 12, [.asg (.slot 2) (.call 35 [(.var 1)]),
  .iff (.or (.cmp .ne (.call 19 [(.var 0)]) (.app .tuple [(.var 2)])) (.or (.cmp .ne (.call 41 [(.var 0)]) (.app .len [(.var 2)])) (.cmp .ne (.call 136 [(.var 0)]) (.app .tuple [(.comp [11] (.slot 11) (.seq true (.call 139 [(.var 1)])) (.cst (.bl true)) (.app .tuple [(.var 11)]))])))) [.ret (.cst (.bl false))] [],
  .asg (.slot 3) (.comp [8] (.slot 8) (.seq true (.var 2)) (.cst (.bl true)) (.call 58 [(.var 1), (.var 8)])),
  .iff (.cmp .ne (.call 50 [(.var 0)]) (.app .tuple [(.comp [9] (.slot 9) (.rng1 (.bin .add (.idx (.var 1) (.cst (.int 1))) (.cst (.int 1)))) (.cmp .isin (.var 9) (.var 3)) (.var 9))])) [.ret (.cst (.bl false))] [],
  .asg (.slot 4) (.app .len [(.idx (.idx (.var 1) (.cst (.int 0))) (.cst (.int 0)))]),
  .iff (.not (.call 43 [(.call 98 [(.fld (.var 0) 4)]), (.and (.cmp .eq (.app .len [(.idx (.idx (.var 1) (.cst (.int 0))) (.cst (.int 2)))]) (.bin .sub (.var 4) (.cst (.int 1)))) (.call 32 [(.idx (.idx (.var 1) (.cst (.int 0))) (.cst (.int 2))), (.app .lrange [(.var 4)])]))])) [.ret (.cst (.bl false))] [],
  .iff (.cmp .eq (.var 2) (.lst [])) [.ret (.cst (.bl true))] [],
  .iff (.cmp .ne (.call 56 [(.var 0)]) (.app .minl [(.comp [8] (.slot 8) (.seq true (.var 2)) (.cst (.bl true)) (.call 59 [(.var 1), (.var 8)]))])) [.ret (.cst (.bl false))] [],
  .iff (.cmp .ne (.call 51 [(.var 0)]) (.idx (.app .minl [(.comp [9] (.slot 9) (.seq true (.var 3)) (.cst (.bl true)) (.tup [(.app .max2 [(.bin .sub (.app .maxl [(.var 3)]) (.var 9)), (.bin .sub (.var 9) (.app .minl [(.var 3)]))]), (.var 9)]))]) (.cst (.int 1)))) [.ret (.cst (.bl false))] [],
  .iff (.cmp .ne (.call 173 [(.var 0), (.idx (.var 3) (.cst (.int 0)))]) (.idx (.var 2) (.cst (.int 0)))) [.ret (.cst (.bl false))] [],
  .asg (.slot 5) (.lst []),
  .for_ (.slot 6) (.rng1 (.var 4)) [.asg (.slot 5) (.bin .add (.var 5) (.comp [10] (.slot 10) (.rng2 (.bin .add (.var 6) (.cst (.int 1))) (.var 4)) (.cmp .eq (.comp [8] (.slot 8) (.seq true (.var 2)) (.cmp .ne (.idx (.var 8) (.var 6)) (.idx (.var 8) (.var 10))) (.var 8)) (.lst [])) (.tup [(.var 6), (.var 10)])))],
  .iff (.cmp .ne (.call 21 [(.var 0)]) (.app .tuple [(.var 5)])) [.ret (.cst (.bl false))] [],
  .asg (.slot 7) (.app .minl [(.comp [8] (.slot 8) (.seq true (.var 2)) (.cst (.bl true)) (.call 166 [(.var 1), (.var 8)]))]),
  .iff (.cmp .ne (.call 158 [(.var 0)]) (.idx (.comp [8] (.slot 8) (.seq true (.var 2)) (.cmp .eq (.call 166 [(.var 1), (.var 8)]) (.var 7)) (.var 8)) (.cst (.int 0)))) [.ret (.cst (.bl false))] [],
  .ret (.cmp .eq (.call 72 [(.var 0), (.idx (.var 2) (.cst (.int 0))), (.cst (.str "flip"))]) (.app .tuple [(.idx (.call 76 [(.var 2), (.cst (.str "flip"))]) (.idx (.var 2) (.cst (.int 0))))]))]⟩
/-- law(script, first, second, others, one, two, made, draft, land, many, low, high, lead) -/
def c235 : Fd := ⟨1, 13, [.asg (.slot 1) (.call 78 [(.var 0), (.cst (.int 7)), (.cst (.int 60))]),
  .asg (.slot 2) (.call 78 [(.bin .add (.rev (.var 0)) (.lst [(.cst (.int 7))])), (.cst (.int 7)), (.cst (.int 60))]),
  .par [4, 5] [(.call 36 [(.var 1)]), (.call 36 [(.var 2)])],
  .for_ (.tup [(.slot 6), (.slot 7)]) (.seq false (.lst [(.tup [(.var 4), (.var 1)]), (.tup [(.var 5), (.var 2)]), (.tup [(.var 4), (.var 1)])])) [.iff (.not (.call 233 [(.var 6), (.var 7)])) [.ret (.cst (.bl false))] []],
  .iff (.or (.not (.call 43 [(.cmp .eq (.var 4) (.var 5)), (.cmp .eq (.var 1) (.var 2))])) (.not (.call 43 [(.oeq false 0 10 (.fld (.var 4) 4) (.fld (.var 5) 4)), (.cmp .eq (.idx (.var 1) (.cst (.int 0))) (.idx (.var 2) (.cst (.int 0))))]))) [.ret (.cst (.bl false))] [],
  .asg (.tup [(.slot 8), (.slot 9), (.slot 10), (.slot 11)]) (.var 1),
  .own 3 (.lst [(.mk 1 [(.fld (.var 4) 4), (.bin .add (.bin .mod (.app .int [(.var 9)]) (.cst (.int 4))) (.cst (.int 1))), (.var 10), (.var 11)]), (.mk 1 [(.fld (.var 4) 4), (.var 9), (.var 10), (.ife (.cmp .lt (.var 11) (.cst (.int 999))) (.bin .add (.var 11) (.cst (.int 1))) (.var 10))])]),
  .iff (.cmp .gt (.var 10) (.cst (.int 0))) [.push 3 (.mk 1 [(.fld (.var 4) 4), (.var 9), (.bin .sub (.var 10) (.cst (.int 1))), (.var 11)])] [],
  .iff (.and (.cmp .ne (.comp [6] (.slot 6) (.seq true (.peek 3)) (.cmp .eq (.var 6) (.var 4)) (.var 6)) (.lst [])) (.cmp .lt (.var 11) (.cst (.int 999)))) [.ret (.cst (.bl false))] [],
  .iff (.and (.oeq false 0 10 (.fld (.var 4) 4) (.mk 0 [(.idx (.var 8) (.cst (.int 0))), (.app .tuple [(.comp [12] (.slot 12) (.seq true (.idx (.var 8) (.cst (.int 1)))) (.cst (.bl true)) (.bin .sub (.cst (.int 1)) (.app .int [(.cmp .gt (.var 12) (.cst (.int 0)))])))]), (.idx (.var 8) (.cst (.int 2)))])) (.cmp .ne (.idx (.var 8) (.cst (.int 1))) (.app .tuple [(.comp [12] (.slot 12) (.seq true (.idx (.var 8) (.cst (.int 1)))) (.cst (.bl true)) (.bin .sub (.cst (.int 1)) (.app .int [(.cmp .gt (.var 12) (.cst (.int 0)))])))]))) [.ret (.cst (.bl false))] [],
  .ret (.call 234 [(.var 4), (.var 1)])]⟩
/-- _law_edit(box, draft, n, kind, even, land, many, low, high) -/
def c236 : Fd := ⟨2, 9, [.asg (.tup [(.slot 5), (.slot 6), (.slot 7), (.slot 8)]) (.var 1),
  .asg (.slot 2) (.app .len [(.idx (.var 5) (.cst (.int 0)))]),
  .asg (.slot 3) (.call 25 [(.var 0), (.lst [(.cst (.str "settle")), (.cst (.str "settle")), (.cst (.str "lean")), (.cst (.str "tie")), (.cst (.str "untie")), (.cst (.str "tie")), (.cst (.str "untie")), (.cst (.str "bounds"))])]),
  .iff (.cmp .eq (.var 3) (.cst (.str "settle"))) [.ret (.tup [(.var 3), (.tup [(.call 24 [(.var 0), (.var 2)]), (.call 25 [(.var 0), (.lst [(.cst (.int 0)), (.cst (.int 1)), (.cst (.int 2)), (.cst (.int 5)), (.cst (.int 99)), (.call 24 [(.var 0), (.cst (.int 101))])])])])])] [],
  .iff (.cmp .eq (.var 3) (.cst (.str "lean"))) [.ret (.tup [(.var 3), (.tup [(.call 24 [(.var 0), (.var 2)]), (.call 25 [(.var 0), (.lst [(.cst (.int 0)), (.cst (.int 1)), (.neg (.cst (.int 1))), (.cst (.int 99)), (.neg (.cst (.int 99))), (.bin .sub (.call 24 [(.var 0), (.cst (.int 202))]) (.cst (.int 101)))])])])])] [],
  .iff (.and (.cmp .eq (.var 3) (.cst (.str "untie"))) (.and (.cmp .ne (.idx (.var 5) (.cst (.int 2))) (.tup [])) (.cmp .gt (.call 24 [(.var 0), (.cst (.int 6))]) (.cst (.int 0))))) [.ret (.tup [(.var 3), (.call 25 [(.var 0), (.idx (.var 5) (.cst (.int 2)))])])] [],
  .iff (.cmp .ne (.var 3) (.cst (.str "bounds"))) [.ret (.tup [(.var 3), (.tup [(.call 24 [(.var 0), (.var 2)]), (.call 24 [(.var 0), (.bin .add (.var 2) (.cst (.int 1)))])])])] [],
  .asg (.slot 4) (.bin .fdiv (.app .sum [(.idx (.var 5) (.cst (.int 0)))]) (.var 6)),
  .ret (.tup [(.var 3), (.tup [(.call 25 [(.var 0), (.lst [(.var 6), (.var 6), (.cst (.int 1)), (.cst (.int 2)), (.cst (.int 3)), (.cst (.int 4)), (.cst (.int 5))])]), (.app .max2 [(.cst (.int 0)), (.bin .sub (.var 4) (.call 24 [(.var 0), (.cst (.int 9))]))]), (.bin .add (.var 4) (.call 24 [(.var 0), (.cst (.int 9))]))])])]⟩
/-- _law_edited(draft, edit, n, k, land, many, low, high, people, leads, ties, kind, given, unit, size, lead, pair) -/
def c237 : Fd := ⟨2, 17, [.asg (.tup [(.slot 4), (.slot 5), (.slot 6), (.slot 7)]) (.var 0),
  .asg (.tup [(.slot 8), (.slot 9), (.slot 10)]) (.var 4),
  .asg (.slot 2) (.app .len [(.var 8)]),
  .asg (.tup [(.slot 11), (.slot 12)]) (.var 1),
  .iff (.cmp .eq (.var 11) (.cst (.str "settle"))) [.asg (.tup [(.slot 13), (.slot 14)]) (.var 12), .iff (.cmp .gt (.var 14) (.cst (.int 99))) [.ret (.tup [(.cst (.str "number")), (.var 14)])] [], .ret (.tup [(.cst (.str "kept")), (.tup [(.tup [(.bin .add (.bin .add (.slc false true (.var 8) (.cst .non) (.var 13)) (.tup [(.var 14)])) (.slc true false (.var 8) (.bin .add (.var 13) (.cst (.int 1))) (.cst .non))), (.var 9), (.var 10)]), (.var 5), (.var 6), (.var 7)])])] [],
  .iff (.cmp .eq (.var 11) (.cst (.str "lean"))) [.asg (.tup [(.slot 13), (.slot 15)]) (.var 12), .iff (.or (.cmp .gt (.var 15) (.cst (.int 99))) (.cmp .lt (.var 15) (.neg (.cst (.int 99))))) [.ret (.tup [(.cst (.str "number")), (.var 15)])] [], .ret (.tup [(.cst (.str "kept")), (.tup [(.tup [(.var 8), (.bin .add (.bin .add (.slc false true (.var 9) (.cst .non) (.var 13)) (.tup [(.var 15)])) (.slc true false (.var 9) (.bin .add (.var 13) (.cst (.int 1))) (.cst .non))), (.var 10)]), (.var 5), (.var 6), (.var 7)])])] [],
  .iff (.cmp .eq (.var 11) (.cst (.str "tie"))) [.iff (.or (.cmp .ge (.idx (.var 12) (.cst (.int 0))) (.idx (.var 12) (.cst (.int 1)))) (.or (.cmp .ge (.idx (.var 12) (.cst (.int 1))) (.var 2)) (.or (.cmp .isin (.var 12) (.var 10)) (.cmp .eq (.app .len [(.var 10)]) (.cst (.int 16)))))) [.ret (.tup [(.cst (.str "tie")), (.var 12)])] [], .ret (.tup [(.cst (.str "kept")), (.tup [(.tup [(.var 8), (.var 9), (.app .tuple [(.app .sorted [(.bin .add (.var 10) (.tup [(.var 12)]))])])]), (.var 5), (.var 6), (.var 7)])])] [],
  .iff (.cmp .eq (.var 11) (.cst (.str "untie"))) [.iff (.cmp .notin (.var 12) (.var 10)) [.ret (.tup [(.cst (.str "tie")), (.var 12)])] [], .ret (.tup [(.cst (.str "kept")), (.tup [(.tup [(.var 8), (.var 9), (.app .tuple [(.comp [16] (.slot 16) (.seq true (.var 10)) (.cmp .ne (.var 16) (.var 12)) (.var 16))])]), (.var 5), (.var 6), (.var 7)])])] [],
  .for_ (.slot 3) (.rng1 (.cst (.int 3))) [.iff (.cmp .gt (.idx (.var 12) (.var 3)) (.idx (.lst [(.cst (.int 4)), (.cst (.int 999)), (.cst (.int 999))]) (.var 3))) [.ret (.tup [(.cst (.str "number")), (.idx (.var 12) (.var 3))])] []],
  .ret (.tup [(.cst (.str "kept")), (.bin .add (.tup [(.var 4)]) (.var 12))])]⟩
/-- _law_now(desk, made) -/
def c239 : Fd := ⟨1, 2, [.asg (.slot 1) (.fld (.var 0) 11),
  .ret (.tup [(.tup [(.fld (.fld (.var 1) 4) 0), (.fld (.fld (.var 1) 4) 1), (.fld (.fld (.var 1) 4) 2)]), (.fld (.var 1) 5), (.fld (.var 1) 6), (.fld (.var 1) 7)])]⟩
/-- _law_are_refused(desk, n, odd, edit) -/
def c241 : Fd := ⟨2, 4, [.for_ (.slot 2) (.seq false (.lst [(.neg (.cst (.int 1))), (.var 1), (.cst .non), (.cst (.bl true)), (.cst (.str "0")), (.tup [(.cst (.int 0))])])) [.for_ (.slot 3) (.seq false (.lst [(.tup [(.cst (.str "settle")), (.tup [(.var 2), (.cst .non)])]), (.tup [(.cst (.str "lean")), (.tup [(.var 2), (.cst .non)])])])) [.iff (.cmp .ne (.call 240 [(.var 0), (.var 3)]) (.tup [(.cst (.str "number")), (.var 2)])) [.ret (.cst (.bl false))] []], .for_ (.slot 3) (.seq false (.lst [(.tup [(.cst (.str "tie")), (.tup [(.var 2), (.cst (.int 0))])]), (.tup [(.cst (.str "tie")), (.tup [(.cst (.int 0)), (.var 2)])]), (.tup [(.cst (.str "untie")), (.tup [(.var 2), (.cst (.int 0))])]), (.tup [(.cst (.str "untie")), (.tup [(.cst (.int 0)), (.var 2)])])])) [.iff (.cmp .ne (.call 240 [(.var 0), (.var 3)]) (.tup [(.cst (.str "tie")), (.idx (.var 3) (.cst (.int 1)))])) [.ret (.cst (.bl false))] []]],
  .for_ (.slot 2) (.seq false (.lst [(.neg (.cst (.int 1))), (.cst (.int 100)), (.cst .non), (.cst (.bl true)), (.cst (.str "0")), (.tup [(.cst (.int 0))])])) [.iff (.cmp .ne (.call 240 [(.var 0), (.tup [(.cst (.str "settle")), (.tup [(.cst (.int 0)), (.var 2)])])]) (.tup [(.cst (.str "number")), (.var 2)])) [.ret (.cst (.bl false))] []],
  .for_ (.slot 2) (.seq false (.lst [(.neg (.cst (.int 100))), (.cst (.int 100)), (.cst .non), (.cst (.bl false)), (.cst (.str "0")), (.tup [(.cst (.int 0))])])) [.iff (.cmp .ne (.call 240 [(.var 0), (.tup [(.cst (.str "lean")), (.tup [(.cst (.int 0)), (.var 2)])])]) (.tup [(.cst (.str "number")), (.var 2)])) [.ret (.cst (.bl false))] []],
  .for_ (.slot 2) (.seq false (.lst [(.cst (.int 0)), (.cst (.int 5)), (.neg (.cst (.int 1))), (.cst .non), (.cst (.bl true)), (.cst (.str "1"))])) [.iff (.cmp .ne (.call 240 [(.var 0), (.tup [(.cst (.str "bounds")), (.tup [(.var 2), (.cst .non), (.cst .non)])])]) (.tup [(.cst (.str "number")), (.var 2)])) [.ret (.cst (.bl false))] []],
  .for_ (.slot 2) (.seq false (.lst [(.neg (.cst (.int 1))), (.cst (.int 1000)), (.cst .non), (.cst (.bl true)), (.cst (.str "1"))])) [.iff (.or (.cmp .ne (.call 240 [(.var 0), (.tup [(.cst (.str "bounds")), (.tup [(.cst (.int 1)), (.var 2), (.cst .non)])])]) (.tup [(.cst (.str "number")), (.var 2)])) (.cmp .ne (.call 240 [(.var 0), (.tup [(.cst (.str "bounds")), (.tup [(.cst (.int 1)), (.cst (.int 0)), (.var 2)])])]) (.tup [(.cst (.str "number")), (.var 2)]))) [.ret (.cst (.bl false))] []],
  .ret (.cmp .eq (.call 240 [(.var 0), (.tup [(.cst (.str "bounds")), (.tup [(.cst (.int 1)), (.cst (.int 7)), (.cst (.int 6))])])]) (.tup [(.cst (.str "number")), (.cst (.int 6))]))]⟩
/-- _law_is_unwatched(desk, question, some) -/
def c250 : Fd := ⟨2, 3, [.ret (.cmp .eq (.comp [2] (.slot 2) (.seq true (.lst [(.cst (.str "leave")), (.cst (.str "claim")), (.cst (.str "paper"))])) (.cmp .ne (.call 245 [(.var 0), (.var 2), (.var 1)]) (.tup [(.cst (.str "undefined")), (.cst (.str "watched"))])) (.var 2)) (.lst []))]⟩
/-- _law_holds(made, draft, every, claim, paper, kind, a, b, one) -/
def c252 : Fd := ⟨5, 9, [.iff (.not (.call 186 [(.var 1), (.var 3)])) [.ret (.cst (.bl false))] [],
  .asg (.slot 5) (.idx (.var 3) (.cst (.int 0))),
  .iff (.cmp .eq (.var 5) (.cst (.str "plan"))) [.ret (.call 34 [(.var 1), (.var 4)])] [],
  .iff (.cmp .eq (.var 5) (.cst (.str "seats"))) [.ret (.and (.call 34 [(.var 1), (.var 4)]) (.cmp .eq (.call 58 [(.var 1), (.var 4)]) (.idx (.var 3) (.cst (.int 1)))))] [],
  .iff (.cmp .eq (.var 5) (.cst (.str "lead"))) [.ret (.and (.call 91 [(.call 76 [(.var 2), (.idx (.var 3) (.cst (.int 1)))]), (.var 4)]) (.and (.cmp .eq (.idx (.var 4) (.cst (.int 0))) (.idx (.var 3) (.cst (.int 2)))) (.cmp .eq (.idx (.var 4) (.neg (.cst (.int 1)))) (.idx (.var 3) (.cst (.int 3))))))] [],
  .iff (.cmp .isin (.var 5) (.lst [(.cst (.str "together")), (.cst (.str "parted"))])) [.asg (.tup [(.slot 6), (.slot 7)]) (.slc true false (.var 3) (.cst (.int 1)) (.cst .non)), .iff (.or (.not (.isi (.var 4) [.tuple])) (.or (.cmp .ne (.comp [8] (.slot 8) (.seq true (.var 4)) (.not (.call 34 [(.var 1), (.var 8)])) (.var 8)) (.lst [])) (.cmp .ne (.app .list [(.var 4)]) (.var 2)))) [.ret (.cst (.bl false))] [], .ret (.and (.cmp .ne (.var 4) (.tup [])) (.cmp .eq (.comp [8] (.slot 8) (.seq true (.var 4)) (.cmp .ne (.cmp .eq (.idx (.var 8) (.var 6)) (.idx (.var 8) (.var 7))) (.cmp .eq (.var 5) (.cst (.str "together")))) (.var 8)) (.lst [])))] [],
  .ret (.call 200 [(.var 0), (.var 3), (.var 4)])]⟩
end Bp
set_option Elab.async false
set_option linter.all false
set_option maxRecDepth 100000
/-! BpEq: the interpreter's equations, for simp (printed by gen_eveq.py). -/
namespace Bp.Q
open PySem
@[simp] theorem e_var {cf : Cf} {i : Nat} {m : Mode} {env : Env} {st : Store} : evE cf (.var i) m env st = (fin m (varR env i st)) := rfl
@[simp] theorem e_peek {cf : Cf} {i : Nat} {m : Mode} {env : Env} {st : Store} : evE cf (.peek i) m env st = (fin m (peekR m env i st)) := rfl
@[simp] theorem e_cst {cf : Cf} {d : D} {m : Mode} {env : Env} {st : Store} : evE cf (.cst d) m env st = (fin m (.ok d st)) := rfl
@[simp] theorem e_glo {cf : Cf} {k : Nat} {m : Mode} {env : Env} {st : Store} : evE cf (.glo k) m env st = (fin m (Res.of (cf.con k) st)) := rfl
@[simp] theorem e_tup {cf : Cf} {es : List E} {m : Mode} {env : Env} {st : Store} : evE cf (.tup es) m env st = (fin m ((evEs cf es env st).bind fun ds st => if fits ds.length then .ok (.tup ds) st else .bad)) := rfl
@[simp] theorem e_lst {cf : Cf} {es : List E} {m : Mode} {env : Env} {st : Store} : evE cf (.lst es) m env st = (fin m ((evEs cf es env st).bind fun ds st => if fits ds.length then .ok (.lst ds) st else .bad)) := rfl
@[simp] theorem e_cell {cf : Cf} {es : List E} {m : Mode} {env : Env} {st : Store} : evE cf (.cell es) m env st = (fin m ((evEs cf es env st).bind fun ds st => if fits ds.length then .ok (.ref st.length) (st ++ [.lst ds]) else .bad)) := rfl
@[simp] theorem e_bin {cf : Cf} {o : Op2} {a b : E} {m : Mode} {env : Env} {st : Store} : evE cf (.bin o a b) m env st = (fin m ((evE cf a .brw env st).bind fun x st => (evE cf b .brw env st).bind fun y st => Res.of (opD o x y) st)) := rfl
@[simp] theorem e_neg {cf : Cf} {a : E} {m : Mode} {env : Env} {st : Store} : evE cf (.neg a) m env st = (fin m ((evE cf a .brw env st).bind fun x st => Res.of (negD x) st)) := rfl
@[simp] theorem e_cmp {cf : Cf} {o : Cm} {a b : E} {m : Mode} {env : Env} {st : Store} : evE cf (.cmp o a b) m env st = (fin m ((evE cf a .brw env st).bind fun x st => (evE cf b .brw env st).bind fun y st => Res.of ((cmD o x y).map .bl) st)) := rfl
@[simp] theorem e_chain {cf : Cf} {o o' : Cm} {a b c : E} {m : Mode} {env : Env} {st : Store} : evE cf (.chain o o' a b c) m env st = (fin m ((evE cf a .brw env st).bind fun x st => (evE cf b .brw env st).bind fun y st => (Res.of (cmD o x y) st).bind fun k st =>
      if k then (evE cf c .brw env st).bind fun z st => Res.of ((cmD o' y z).map .bl) st else .ok (.bl false) st)) := rfl
@[simp] theorem e_ife {cf : Cf} {t a b : E} {m : Mode} {env : Env} {st : Store} : evE cf (.ife t a b) m env st = (fin m (asBl (evE cf t .tst env st) fun k st => if k then evE cf a .frz env st else evE cf b .frz env st)) := rfl
@[simp] theorem e_call {cf : Cf} {f : Nat} {es : List E} {m : Mode} {env : Env} {st : Store} : evE cf (.call f es) m env st = (fin m ((evEs cf es env st).bind fun ds st => cf.cl f ds st)) := rfl
@[simp] theorem e_meth {cf : Cf} {c f : Nat} {a : E} {es : List E} {m : Mode} {env : Env} {st : Store} : evE cf (.meth c f a es) m env st = (fin m ((evE cf a .frz env st).bind fun x st => if isC st x c then (evEs cf es env st).bind fun ds st => cf.cl f (x :: ds) st else .bad)) := rfl
@[simp] theorem e_mk {cf : Cf} {c : Nat} {es : List E} {m : Mode} {env : Env} {st : Store} : evE cf (.mk c es) m env st = (fin m ((evEs cf es env st).bind fun ds st => mkR cf c ds st)) := rfl
@[simp] theorem e_mkm {cf : Cf} {c : Nat} {es : List E} {m : Mode} {env : Env} {st : Store} : evE cf (.mkm c es) m env st = (fin m ((evEs cf es env st).bind fun ds st => mkmR cf c ds st)) := rfl
@[simp] theorem e_app {cf : Cf} {b : Bi} {es : List E} {m : Mode} {env : Env} {st : Store} : evE cf (.app b es) m env st = (fin m ((evAs cf es env st).bind fun ds st => Res.of (biD b ds) st)) := rfl
@[simp] theorem e_isi {cf : Cf} {a : E} {ts : List Ty} {m : Mode} {env : Env} {st : Store} : evE cf (.isi a ts) m env st = (fin m ((evE cf a .brw env st).bind fun d st => if isD cf.nc d then .ok (.bl (ts.any fun t => t.has d)) st else .bad)) := rfl
@[simp] theorem e_fld {cf : Cf} {a : E} {k : Nat} {m : Mode} {env : Env} {st : Store} : evE cf (.fld a k) m env st = (fin m ((evE cf a .frz env st).bind fun d st => Res.of (fldD cf st d k) st)) := rfl
@[simp] theorem e_idx {cf : Cf} {a b : E} {m : Mode} {env : Env} {st : Store} : evE cf (.idx a b) m env st = (fin m ((evE cf a .brw env st).bind fun x st => (evE cf b .frz env st).bind fun y st => Res.of (idxD st x y) st)) := rfl
@[simp] theorem e_slc {cf : Cf} {bl bh : Bool} {a lo hi : E} {m : Mode} {env : Env} {st : Store} : evE cf (.slc bl bh a lo hi) m env st = (fin m ((evE cf a .brw env st).bind fun x st => (if bl then partR (evE cf lo .frz env st) else .ok none st).bind fun l st => (if bh then partR (evE cf hi .frz env st) else .ok none st).bind fun h st => Res.of (slcD x l h) st)) := rfl
@[simp] theorem e_rev {cf : Cf} {a : E} {m : Mode} {env : Env} {st : Store} : evE cf (.rev a) m env st = (fin m ((evE cf a .brw env st).bind fun x st => Res.of (revD x) st)) := rfl
@[simp] theorem e_oeq {cf : Cf} {ne : Bool} {c f : Nat} {a b : E} {m : Mode} {env : Env} {st : Store} : evE cf (.oeq ne c f a b) m env st = (fin m ((evE cf a .frz env st).bind fun x st => (evE cf b .frz env st).bind fun y st => if isO x c && isO y c then eqR ne (cf.cl f [x, y] st) else .bad)) := rfl
@[simp] theorem e_and_frz {cf : Cf} {a b : E} {env : Env} {st : Store} : evE cf (.and a b) .frz env st = (asBl (evE cf a .frz env st) fun k st => if k then evE cf b .frz env st else .ok (.bl false) st) := rfl
@[simp] theorem e_and_brw {cf : Cf} {a b : E} {env : Env} {st : Store} : evE cf (.and a b) .brw env st = (asBl (evE cf a .frz env st) fun k st => if k then evE cf b .frz env st else .ok (.bl false) st) := rfl
@[simp] theorem e_and_tst {cf : Cf} {a b : E} {env : Env} {st : Store} : evE cf (.and a b) .tst env st = (asBl (evE cf a .tst env st) fun k st => if k then evE cf b .tst env st else .ok (.bl false) st) := rfl
@[simp] theorem e_or_frz {cf : Cf} {a b : E} {env : Env} {st : Store} : evE cf (.or a b) .frz env st = (asBl (evE cf a .frz env st) fun k st => if k then .ok (.bl true) st else evE cf b .frz env st) := rfl
@[simp] theorem e_or_brw {cf : Cf} {a b : E} {env : Env} {st : Store} : evE cf (.or a b) .brw env st = (asBl (evE cf a .frz env st) fun k st => if k then .ok (.bl true) st else evE cf b .frz env st) := rfl
@[simp] theorem e_or_tst {cf : Cf} {a b : E} {env : Env} {st : Store} : evE cf (.or a b) .tst env st = (asBl (evE cf a .tst env st) fun k st => if k then .ok (.bl true) st else evE cf b .tst env st) := rfl
@[simp] theorem e_not_frz {cf : Cf} {a : E} {env : Env} {st : Store} : evE cf (.not a) .frz env st = (asBl (evE cf a .frz env st) fun k st => .ok (.bl (!k)) st) := rfl
@[simp] theorem e_not_brw {cf : Cf} {a : E} {env : Env} {st : Store} : evE cf (.not a) .brw env st = (asBl (evE cf a .frz env st) fun k st => .ok (.bl (!k)) st) := rfl
@[simp] theorem e_not_tst {cf : Cf} {a : E} {env : Env} {st : Store} : evE cf (.not a) .tst env st = (asBl (evE cf a .tst env st) fun k st => .ok (.bl (!k)) st) := rfl
@[simp] theorem evEs_nil {cf : Cf}  {env : Env} {st : Store} : evEs cf ([]) env st = (.ok [] st) := rfl
@[simp] theorem evEs_cons {cf : Cf} {e : E} {es : List E} {env : Env} {st : Store} : evEs cf (e :: es) env st = ((evE cf e .frz env st).bind fun d st => (evEs cf es env st).bind fun ds st => .ok (d :: ds) st) := rfl
@[simp] theorem evAs_nil {cf : Cf}  {env : Env} {st : Store} : evAs cf ([]) env st = (.ok [] st) := rfl
@[simp] theorem evAs_cons {cf : Cf} {e : E} {es : List E} {env : Env} {st : Store} : evAs cf (e :: es) env st = ((evE cf e .brw env st).bind fun d st => (evAs cf es env st).bind fun ds st => .ok (d :: ds) st) := rfl
@[simp] theorem i_seq {cf : Cf} {b : Bool} {e : E} {env : Env} {st : Store} : evI cf (.seq b e) env st = ((evE cf e (if b then .brw else .frz) env st).bind fun d st => Res.of d.items st) := rfl
@[simp] theorem i_rng1 {cf : Cf} {e : E} {env : Env} {st : Store} : evI cf (.rng1 e) env st = ((evE cf e .frz env st).bind fun d st => Res.of (rng1D d) st) := rfl
@[simp] theorem i_rng2 {cf : Cf} {a b : E} {env : Env} {st : Store} : evI cf (.rng2 a b) env st = ((evE cf a .frz env st).bind fun x st => (evE cf b .frz env st).bind fun y st => Res.of (rng2D x y) st) := rfl
@[simp] theorem i_enum {cf : Cf} {b : Bool} {e : E} {env : Env} {st : Store} : evI cf (.enum b e) env st = ((evE cf e (if b then .brw else .frz) env st).bind fun d st => Res.of (d.items.map (enumD 0)) st) := rfl
@[simp] theorem i_zip {cf : Cf} {a b : E} {env : Env} {st : Store} : evI cf (.zip a b) env st = ((evE cf a .frz env st).bind fun x st => (evE cf b .frz env st).bind fun y st => Res.of (zipI x y) st) := rfl
@[simp] theorem t_asg {cf : Cf} {t : Tg} {e : E} {env : Env} {st : Store} : evS cf (.asg t e) env st = ((evE cf e .frz env st).bind fun d st => wr (bindT t d env) st) := rfl
@[simp] theorem t_own {cf : Cf} {i : Nat} {e : E} {env : Env} {st : Store} : evS cf (.own i e) env st = ((evE cf e .frz env st).bind fun d st => wr ((one? d).bind fun ds => env.put i (.own (.lst ds))) st) := rfl
@[simp] theorem t_push {cf : Cf} {i : Nat} {e : E} {env : Env} {st : Store} : evS cf (.push i e) env st = (if hasOwn env i then (evE cf e .frz env st).bind fun d st => wr (pushE env i d) st else .bad) := rfl
@[simp] theorem t_ext {cf : Cf} {i : Nat} {e : E} {env : Env} {st : Store} : evS cf (.ext i e) env st = (if hasOwn env i then (evE cf e .frz env st).bind fun d st => wr (extE env i d) st else .bad) := rfl
@[simp] theorem t_ins {cf : Cf} {i : Nat} {k e : E} {env : Env} {st : Store} : evS cf (.ins i k e) env st = (if hasOwn env i then (evE cf k .frz env st).bind fun x st => (evE cf e .frz env st).bind fun d st => wr (insE env i x d) st else .bad) := rfl
@[simp] theorem t_seti {cf : Cf} {i : Nat} {k e : E} {env : Env} {st : Store} : evS cf (.seti i k e) env st = ((evE cf e .frz env st).bind fun d st => if hasOwn env i then (evE cf k .frz env st).bind fun x st => wr (setE env i x d) st else .bad) := rfl
@[simp] theorem t_cset {cf : Cf} {o k e : E} {env : Env} {st : Store} : evS cf (.cset o k e) env st = ((evE cf e .frz env st).bind fun d st => (evE cf o .frz env st).bind fun r st => (evE cf k .frz env st).bind fun x st => wrS (csetS st r x d) env) := rfl
@[simp] theorem t_fset {cf : Cf} {o : E} {k : Nat} {e : E} {env : Env} {st : Store} : evS cf (.fset o k e) env st = ((evE cf e .frz env st).bind fun d st => (evE cf o .frz env st).bind fun r st => wrS (fsetS cf.nc st r k d) env) := rfl
@[simp] theorem t_cpush {cf : Cf} {o e : E} {env : Env} {st : Store} : evS cf (.cpush o e) env st = ((evE cf o .frz env st).bind fun r st => if isCell st r then (evE cf e .frz env st).bind fun d st => wrS (cpushS st r d) env else .bad) := rfl
@[simp] theorem t_ex {cf : Cf} {e : E} {env : Env} {st : Store} : evS cf (.ex e) env st = ((evE cf e .frz env st).bind fun _ st => .ok (.nxt env) st) := rfl
@[simp] theorem t_ret {cf : Cf} {e : E} {env : Env} {st : Store} : evS cf (.ret e) env st = ((evE cf e .frz env st).bind fun d st => .ok (.ret d) st) := rfl
@[simp] theorem t_retN {cf : Cf}  {env : Env} {st : Store} : evS cf (.retN) env st = (.ok (.ret .non) st) := rfl
@[simp] theorem t_brk {cf : Cf}  {env : Env} {st : Store} : evS cf (.brk) env st = (.ok (.brk env) st) := rfl
@[simp] theorem t_pas {cf : Cf}  {env : Env} {st : Store} : evS cf (.pas) env st = (.ok (.nxt env) st) := rfl
@[simp] theorem t_nev {cf : Cf}  {env : Env} {st : Store} : evS cf (.nev) env st = (.bad) := rfl
@[simp] theorem t_rais {cf : Cf} {c : Nat} {e : E} {env : Env} {st : Store} : evS cf (.rais c e) env st = ((evE cf e .frz env st).bind fun d st => .exc c d st) := rfl
@[simp] theorem t_frz {cf : Cf} {i : Nat} {env : Env} {st : Store} : evS cf (.frz i) env st = (wr (frzE env i) st) := rfl
@[simp] theorem t_par {cf : Cf} {is : List Nat} {es : List E} {env : Env} {st : Store} : evS cf (.par is es) env st = ((evEs cf es env st).bind fun ds st => wr (parE is ds env) st) := rfl
@[simp] theorem t_nil {cf : Cf} {env : Env} {st : Store} : evSs cf [] env st = .ok (.nxt env) st := rfl
/-- what follows -/
def next (cf : Cf) (ss : List S) : Out → Store → Res Out := fun o st => match o with
  | .nxt env => evSs cf ss env st
  | .brk env => .ok (.brk env) st
  | .ret d => .ok (.ret d) st
@[simp] theorem t_cons {cf : Cf} {s : S} {ss : List S} {env : Env} {st : Store} : evSs cf (s :: ss) env st = (evS cf s env st).bind (next cf ss) := rfl
@[simp] theorem next_nxt {cf : Cf} {ss : List S} {env : Env} {st : Store} : next cf ss (.nxt env) st = evSs cf ss env st := rfl
@[simp] theorem next_ret {cf : Cf} {ss : List S} {d : D} {st : Store} : next cf ss (.ret d) st = .ok (.ret d) st := rfl
@[simp] theorem next_brk {cf : Cf} {ss : List S} {env : Env} {st : Store} : next cf ss (.brk env) st = .ok (.brk env) st := rfl
end Bp.Q
set_option Elab.async false
set_option linter.all false
set_option maxRecDepth 100000
/-! BpSp0: how a small text is gone through: equations for simp, pure comprehensions, loops. -/
namespace Bp.Q
open PySem
theorem cl_step {p : Prog} {n f : Nat} {c : Fd} {ds : List D} {st : Store} (e : p.fd f = some c) (hl : ds.length = c.np) : p.cl (n + 1) f ds st = outD (evSs (p.cf n) c.body (c.env ds) st) := by
  show (match p.fd f with
    | some fd => if ds.length = fd.np then outD (evSs ⟨p.cl n, p.con, p.fs, p.ini, p.nc, p.xs⟩ fd.body (fd.env ds) st) else .bad
    | none => .bad) = _
  rw [e]
  show (if ds.length = c.np then _ else _) = _
  rw [if_pos hl]; rfl
@[simp] theorem rb_ok {α β : Type} (a : α) (st : Store) (k : α → Store → Res β) : (Res.ok a st).bind k = k a st := rfl
@[simp] theorem rb_exc {α β : Type} (c : Nat) (d : D) (st : Store) (k : α → Store → Res β) : (Res.exc c d st : Res α).bind k = .exc c d st := rfl
@[simp] theorem rb_bad {α β : Type} (k : α → Store → Res β) : (Res.bad : Res α).bind k = .bad := rfl
@[simp] theorem rof_some {α : Type} (a : α) (st : Store) : Res.of (some a) st = .ok a st := rfl
@[simp] theorem rfin_frz (r : Res D) : fin .frz r = r := rfl
@[simp] theorem rfin_brw (r : Res D) : fin .brw r = r := rfl
@[simp] theorem rfin_tst (d : D) (st : Store) : fin .tst (.ok d st) = Res.of ((truD d).map .bl) st := rfl
@[simp] theorem rfin_ite (m : Mode) (c : Prop) [Decidable c] (x y : Res D) : fin m (if c then x else y) = if c then fin m x else fin m y := by split <;> rfl
@[simp] theorem rasBl_ok (b : Bool) (st : Store) (k : Bool → Store → Res D) : asBl (.ok (.bl b) st) k = k b st := rfl
@[simp] theorem rasBl_ite (c : Prop) [Decidable c] (x y : Res D) (k : Bool → Store → Res D) : asBl (if c then x else y) k = if c then asBl x k else asBl y k := by split <;> rfl
@[simp] theorem rbind_ite {α β : Type} (c : Prop) [Decidable c] (x y : Res α) (k : α → Store → Res β) : (if c then x else y).bind k = if c then x.bind k else y.bind k := by split <;> rfl
@[simp] theorem rout_ret (d : D) (st : Store) : outD (.ok (.ret d) st) = .ok d st := rfl
@[simp] theorem rout_nxt (e : Env) (st : Store) : outD (.ok (.nxt e) st) = .ok .non st := rfl
@[simp] theorem rout_exc (c : Nat) (d : D) (st : Store) : outD (.exc c d st) = .exc c d st := rfl
@[simp] theorem rout_ite (c : Prop) [Decidable c] (x y : Res Out) : outD (if c then x else y) = if c then outD x else outD y := by split <;> rfl
@[simp] theorem rwr (e : Env) (st : Store) : wr (some e) st = .ok (.nxt e) st := rfl
@[simp] theorem rwrS (e : Env) (st : Store) : wrS (some st) e = .ok (.nxt e) st := rfl
@[simp] theorem rvar (env : Env) (i : Nat) (st : Store) : varR env i st = (match env[i]? with
  | some (some (.val d)) => .ok d st
  | _ => .bad) := rfl
@[simp] theorem rcf_cl (p : Prog) (n : Nat) : (p.cf n).cl = p.cl n := rfl
@[simp] theorem rcf_con (p : Prog) (n : Nat) : (p.cf n).con = p.con := rfl
@[simp] theorem rcf_fs (p : Prog) (n : Nat) : (p.cf n).fs = p.fs := rfl
@[simp] theorem rcf_ini (p : Prog) (n : Nat) : (p.cf n).ini = p.ini := rfl
@[simp] theorem rcf_nc (p : Prog) (n : Nat) : (p.cf n).nc = p.nc := rfl
@[simp] theorem rcf_xs (p : Prog) (n : Nat) : (p.cf n).xs = p.xs := rfl
@[simp] theorem renv (f : Fd) (ds : List D) : f.env ds = ds.map (fun d => some (.val d)) ++ List.replicate (f.ns - ds.length) none := rfl
/-- int operations -/
@[simp] theorem op_ii_add (i j : Int) : opD .add (.int i) (.int j) = some (.int (i + j)) := rfl
@[simp] theorem op_ii_sub (i j : Int) : opD .sub (.int i) (.int j) = some (.int (i - j)) := rfl
theorem dat_int (n : Nat) (i : Int) : D.dat n (.int i) = true := by simp [D.dat]
theorem lt_ii (i j : Int) : ltD (.int i) (.int j) = some (decide (i < j)) := by simp [ltD, D.data, D.dat, D.alike, D.isNon, D.lt]
@[simp] theorem cm_lt (i j : Int) : cmD .lt (.int i) (.int j) = some (decide (i < j)) := lt_ii i j
@[simp] theorem cm_gt (i j : Int) : cmD .gt (.int i) (.int j) = some (decide (j < i)) := lt_ii j i
@[simp] theorem cm_le (i j : Int) : cmD .le (.int i) (.int j) = some (decide (i ≤ j)) := by
  show (ltD (.int j) (.int i)).map _ = _
  rw [lt_ii]
  show some (!decide (j < i)) = some (decide (i ≤ j))
  congr 1
  by_cases h : j < i
  · rw [decide_eq_true h, decide_eq_false (by omega)]; rfl
  · rw [decide_eq_false h, decide_eq_true (by omega)]; rfl
@[simp] theorem cm_ge (i j : Int) : cmD .ge (.int i) (.int j) = some (decide (j ≤ i)) := by
  show (ltD (.int i) (.int j)).map _ = _
  rw [lt_ii]
  show some (!decide (i < j)) = some (decide (j ≤ i))
  congr 1
  by_cases h : i < j
  · rw [decide_eq_true h, decide_eq_false (by omega)]; rfl
  · rw [decide_eq_false h, decide_eq_true (by omega)]; rfl
@[simp] theorem cm_eq (i j : Int) : cmD .eq (.int i) (.int j) = some (decide (i = j)) := by
  by_cases h : i = j <;> simp [cmD, D.data, D.dat, D.eqv, h]
@[simp] theorem cm_ne (i j : Int) : cmD .ne (.int i) (.int j) = some (decide (i ≠ j)) := by
  by_cases h : i = j <;> simp [cmD, D.data, D.dat, D.eqv, h]
theorem op_mod' {i j : Int} (h : j ≠ 0) : opD .mod (.int i) (.int j) = some (.int (i.fmod j)) := by simp [opD, h]
theorem op_fdiv' {i j : Int} (h : j ≠ 0) (h2 : j.natAbs < 1073741824) : opD .fdiv (.int i) (.int j) = some (.int (i.fdiv j)) := by
  show (if j = 0 ∨ 1073741824 ≤ j.natAbs then none else some (D.int (i.fdiv j))) = _
  rw [if_neg (by omega)]
theorem op_mul' {i j : Int} (h : (big i || big j) = true) : opD .mul (.int i) (.int j) = some (.int (i * j)) := by
  show (if (big i || big j) = true then some (D.int (i * j)) else none) = _
  rw [if_pos h]
theorem cset' {st : Store} {r k : Nat} {ds : List D} {j : Int} {d : D} (h : st[r]? = some (.lst ds)) (hk : ixN ds.length j = some k) : csetS st (.ref r) (.int j) d = some (st.set r (.lst (ds.set k d))) := by
  unfold csetS cellAt
  simp [refD, intD, h, hk]
@[simp] theorem bi_int (i : Int) : biD .int [.int i] = some (.int i) := rfl
@[simp] theorem bi_abs (i : Int) : biD .abs [.int i] = some (.int (if i < 0 then -i else i)) := rfl
/-- a test's two ways -/
theorem iff_eq {cf : Cf} {t : E} {a b : List S} {env : Env} {st st' : Store} {q : Bool} (h : evE cf t .tst env st = .ok (.bl q) st') : evS cf (.iff t a b) env st = if q then evSs cf a env st' else evSs cf b env st' := by
  rw [evS, h]
  cases q <;> rfl
theorem comp_eq {cf : Cf} {vs : List Nat} {tg : Tg} {it : It} {c e : E} {env : Env} {st : Store} : evE cf (.comp vs tg it c e) .frz env st = (evI cf it env st).bind fun xs st => (mapGo (fun x st => match bindT tg x (wipeE env vs) with
      | some env2 => (asBl (evE cf c .tst env2 st) fun k st => if k then (evE cf e .frz env2 st).bind fun y st => .ok (.lst [y]) st else .ok (.lst []) st).calm.bind fun d st => Res.of (one? d) st
      | none => .bad) xs st).bind fun ys st => if fits ys.length then .ok (.lst ys) st else .bad := rfl
theorem mapGo_pure {f : D → Store → Res (List D)} {st : Store} {g : D → List D} : ∀ {xs : List D}, (∀ x ∈ xs, f x st = .ok (g x) st) → mapGo f xs st = .ok (xs.flatMap g) st
  | [], _ => rfl
  | x :: xs, h => by
    rw [mapGo, h x List.mem_cons_self, rb_ok, mapGo_pure fun y hy => h y (List.mem_cons_of_mem _ hy), rb_ok]
    rfl
section
variable {p : Prog} {n : Nat} {st : Store}
theorem sp_is_integer (h : p.fd 0 = some c0) (i : Int) : p.cl (n + 1) 0 [.int i] st = .ok (.bl true) st := by
  rw [cl_step h rfl]
  simp [c0, isD, Ty.has]
theorem sp_is_within (h0 : p.fd 0 = some c0) (h : p.fd 1 = some c1) (i lo hi : Int) : p.cl (n + 2) 1 [.int i, .int lo, .int hi] st = .ok (.bl (decide (lo ≤ i) && decide (i ≤ hi))) st := by
  rw [cl_step h rfl]
  by_cases q : lo ≤ i <;> simp [c1, sp_is_integer h0, q]
/-- a box of draws -/
def Box (st : Store) (r : Nat) : Prop := ∃ a b : Int, st[r]? = some (.lst [.int a, .int b])
theorem sp_take (h : p.fd 24 = some c24) {r : Nat} {a b m : Int} (hb : st[r]? = some (.lst [.int a, .int b])) (h1 : 1 ≤ m) (h2 : m < 1073741824) :
    ∃ v a' b', p.cl (n + 1) 24 [.ref r, .int m] st = .ok (.int v) (st.set r (.lst [.int a', .int b'])) ∧ 0 ≤ v ∧ v < m := by
  rw [cl_step h rfl]
  have hl : r < st.length := (List.getElem?_eq_some_iff.mp hb).1
  have g0 : ∀ x : D, (st.set r (.lst [x, .int b]))[r]? = some (.lst [x, .int b]) := fun x => by rw [List.getElem?_set_self hl]
  have hm : ¬ (m = 0 ∨ 1073741824 ≤ m.natAbs) := by omega
  have h3 : m ≠ 0 := by omega
  have h4 : m.natAbs < 1073741824 := by omega
  have x0 : ∀ y z : D, idxD st (.ref r) (.int 0) = some (.int a) := fun _ _ => by simp [idxD, hb, atI, ixN]
  have x0 : idxD st (.ref r) (.int 0) = some (.int a) := x0 .non .non
  have x1 : idxD st (.ref r) (.int 1) = some (.int b) := by simp [idxD, hb, atI, ixN]
  have c0' : ∀ d : D, csetS st (.ref r) (.int 0) d = some (st.set r (.lst [d, .int b])) := fun d => cset' (k := 0) hb rfl
  have c1' : ∀ d : D, csetS st (.ref r) (.int 1) d = some (st.set r (.lst [.int a, d])) := fun d => cset' (k := 1) hb rfl
  rw [show c24.body = [.iff (.cmp .gt (.idx (.var 0) (.cst (.int 0))) (.cst (.int 0))) [.asg (.slot 2) (.bin .mod (.app .int [(.idx (.var 0) (.cst (.int 0)))]) (.var 1)), .cset (.var 0) (.cst (.int 0)) (.bin .fdiv (.idx (.var 0) (.cst (.int 0))) (.var 1)), .ret (.var 2)] [], _, _] from rfl]
  rw [t_cons, iff_eq (q := decide (0 < a)) (st' := st) (by simp [c24, x0, truD])]
  by_cases hp : 0 < a
  · refine ⟨a.fmod m, a.fdiv m, b, ?_, Int.fmod_nonneg_of_pos _ (by omega), Int.fmod_lt_of_pos _ (by omega)⟩
    simp [hp, c24, x0, op_mod' h3, op_fdiv' h3 h4, bindT, c0']
  · have m1 : ∀ i : Int, opD .mul (.int i) (.int 39373) = some (.int (i * 39373)) := fun i => op_mul' (by rw [show big 39373 = true from by decide, Bool.or_true])
    refine ⟨(((b * 39373 + 69621).fmod 2147483647).fdiv 8191).fmod m, a, (b * 39373 + 69621).fmod 2147483647, ?_, Int.fmod_nonneg_of_pos _ (by omega), Int.fmod_lt_of_pos _ (by omega)⟩
    have x2 : ∀ d : D, idxD (st.set r (.lst [.int a, d])) (.ref r) (.int 1) = some d := fun d => by simp [idxD, hl, atI, ixN]
    simp [hp, c24, x1, op_mod' h3, op_mod' (show (2147483647 : Int) ≠ 0 by omega), op_fdiv' (show (8191 : Int) ≠ 0 by omega) (by decide), m1, c1', x2]
end
end Bp.Q
set_option Elab.async false
set_option linter.all false
set_option maxRecDepth 100000
/-! BpWp: what an answer meets; simp walks a small text and stops at what it cannot tell. -/
namespace Bp.Q
open PySem
/-- a token: what it names is not looked into by simp -/
structure Tok {α : Sort u} (P : α) : Type where
/-- the answer is told and meets P -/
inductive SatT {α : Type} : (r : Res α) → (P : α → Store → Prop) → Tok P → Prop
  | mk {a : α} {st : Store} {P : α → Store → Prop} {u : Tok P} (h : P a st) : SatT (.ok a st) P u
def Sat {α : Type} (r : Res α) (P : α → Store → Prop) : Prop := SatT r P ⟨⟩
@[simp ↓] theorem sat_def {α : Type} {r : Res α} {P : α → Store → Prop} : Sat r P = SatT r P ⟨⟩ := rfl
@[simp] theorem sat_ok {α : Type} {a : α} {st : Store} {P : α → Store → Prop} {u : Tok P} : SatT (.ok a st) P u = P a st := propext ⟨fun h => by cases h; assumption, .mk⟩
theorem sat_exc {α : Type} {c : Nat} {d : D} {st : Store} {P : α → Store → Prop} {u : Tok P} : SatT (.exc c d st : Res α) P u = False := propext ⟨(by cases ·), False.elim⟩
theorem sat_bad {α : Type} {P : α → Store → Prop} {u : Tok P} : SatT (.bad : Res α) P u = False := propext ⟨(by cases ·), False.elim⟩
theorem sat_okS {α : Type} {a : α} {st : Store} {P : α → Store → Prop} : Sat (.ok a st) P = P a st := sat_ok
@[simp] theorem sat_bind {α β : Type} {r : Res α} {k : α → Store → Res β} {P : β → Store → Prop} {u : Tok P} : SatT (r.bind k) P u = Sat r (fun a st => Sat (k a st) P) := by
  cases r with
  | ok a st => rw [rb_ok, sat_okS]; rfl
  | exc c d st => rw [rb_exc, sat_exc, sat_def, sat_exc]
  | bad => rw [rb_bad, sat_bad, sat_def, sat_bad]
theorem sat_bd {α β : Type} {r : Res α} {k : α → Store → Res β} {P : β → Store → Prop} : Sat (r.bind k) P = Sat r (fun a st => Sat (k a st) P) := sat_bind
theorem Sat.mono {α : Type} {r : Res α} {P Q : α → Store → Prop} (h : Sat r P) (k : ∀ a st, P a st → Q a st) : Sat r Q := by
  cases h with
  | mk h => exact .mk (k _ _ h)
theorem Sat.ex {α : Type} {r : Res α} {P : α → Store → Prop} (h : Sat r P) : ∃ a st, r = .ok a st ∧ P a st := by
  cases h with
  | mk h => exact ⟨_, _, rfl, h⟩
theorem Sat.of_eq {α : Type} {r : Res α} {P : α → Store → Prop} {a : α} {st : Store} (e : r = .ok a st) (h : P a st) : Sat r P := by rw [e]; exact .mk h
/-- two ways: the ways themselves are left alone -/
def BrT (q : Bool) (A B : Prop) (_ : Tok A) (_ : Tok B) : Prop := if q = true then A else B
def Br (q : Bool) (A B : Prop) : Prop := BrT q A B ⟨⟩ ⟨⟩
@[simp ↓] theorem br_def {q : Bool} {A B : Prop} : Br q A B = BrT q A B ⟨⟩ ⟨⟩ := rfl
@[simp] theorem br_true {A B : Prop} {u : Tok A} {v : Tok B} : BrT true A B u v = A := rfl
@[simp] theorem br_false {A B : Prop} {u : Tok A} {v : Tok B} : BrT false A B u v = B := rfl
theorem br_of {q : Bool} {A B : Prop} (h1 : q = true → A) (h2 : q = false → B) : Br q A B := by
  cases q
  · exact h2 rfl
  · exact h1 rfl
@[simp] theorem sat_ite {α : Type} {c : Prop} [Decidable c] {x y : Res α} {P : α → Store → Prop} {u : Tok P} : SatT (if c then x else y) P u = Br (decide c) (Sat x P) (Sat y P) := by
  by_cases h : c <;> simp [h]
@[simp] theorem ok_ite {c : Prop} [Decidable c] {x y : D} {st : Store} : (if c then Res.ok x st else Res.ok y st) = Res.ok (if c then x else y) st := by split <;> rfl
@[simp] theorem bl_ite {c : Prop} [Decidable c] {x y : Bool} : (if c then D.bl x else D.bl y) = D.bl (if c then x else y) := by split <;> rfl
/-- a flag is asked for -/
def FlT (d : D) (k : Bool → Prop) (_ : Tok k) : Prop := match d with
  | .bl b => k b
  | _ => False
def Fl (d : D) (k : Bool → Prop) : Prop := FlT d k ⟨⟩
@[simp ↓] theorem fl_def {d : D} {k : Bool → Prop} : Fl d k = FlT d k ⟨⟩ := rfl
@[simp] theorem fl_bl {b : Bool} {k : Bool → Prop} {u : Tok k} : FlT (.bl b) k u = k b := rfl
@[simp] theorem sat_asBl {r : Res D} {k : Bool → Store → Res D} {P : D → Store → Prop} {u : Tok P} : SatT (asBl r k) P u = Sat r (fun d st => Fl d fun b => Sat (k b st) P) := by
  show Sat (Res.bind _ _) P = Sat _ _
  rw [sat_bd]
  congr 1
  funext d st
  cases d with
  | bl b => rfl
  | _ => exact sat_bad
theorem sat_tst {r : Res D} {P : D → Store → Prop} {u : Tok P} : SatT (fin .tst r) P u = Sat r (fun d st => Sat (Res.of ((truD d).map D.bl) st) P) := by
  show Sat (r.bind _) P = _
  rw [sat_bd]
@[simp] theorem sat_iff {cf : Cf} {t : E} {a b : List S} {env : Env} {st : Store} {P : Out → Store → Prop} {u : Tok P} : SatT (evS cf (.iff t a b) env st) P u = Sat (evE cf t .tst env st) (fun d st => Fl d fun q => Br q (Sat (evSs cf a env st) P) (Sat (evSs cf b env st) P)) := by
  show Sat (Res.bind _ _) P = Sat _ _
  rw [sat_bd]
  congr 1
  funext d st
  cases d with
  | bl q => cases q <;> rfl
  | _ => exact sat_bad
/-- what a def's body must give -/
def outP (P : D → Store → Prop) (o : Out) (st : Store) : Prop := match o with
  | .ret d => P d st
  | .nxt _ => P .non st
  | .brk _ => False
@[simp ↓] theorem outP_ret {P : D → Store → Prop} {d : D} {st : Store} : outP P (.ret d) st = P d st := rfl
@[simp ↓] theorem outP_nxt {P : D → Store → Prop} {e : Env} {st : Store} : outP P (.nxt e) st = P .non st := rfl
theorem sat_cl {p : Prog} {n f : Nat} {c : Fd} {ds : List D} {st : Store} {P : D → Store → Prop} (e : p.fd f = some c) (hl : ds.length = c.np) (h : Sat (evSs (p.cf n) c.body (c.env ds) st) (outP P)) : Sat (p.cl (n + 1) f ds st) P := by
  rw [cl_step e hl]
  obtain ⟨o, st', e2, h2⟩ := h.ex
  rw [e2]
  cases o with
  | ret d => exact .mk h2
  | nxt d => exact .mk h2
  | brk d => exact h2.elim
@[simp] theorem rpeek_brw {env : Env} {i : Nat} {st : Store} : peekR .brw env i st = (match env[i]? with
    | some (some (.own (.lst ds))) => .ok (.lst ds) st
    | _ => .bad) := rfl
@[simp] theorem rpeek_tst {env : Env} {i : Nat} {st : Store} : peekR .tst env i st = (match env[i]? with
    | some (some (.own (.lst ds))) => .ok (.lst ds) st
    | _ => .bad) := rfl
@[simp] theorem own_at {env : Env} {i : Nat} : ownAt env i = (match env[i]? with
  | some (some (.own (.lst ds))) => some ds
  | _ => none) := rfl
@[simp] theorem own_has {env : Env} {i : Nat} : hasOwn env i = (ownAt env i).isSome := rfl
@[simp] theorem own_put {env : Env} {i : Nat} {s : Slot} : Env.put env i s = if i < env.length then some (env.set i (some s)) else none := rfl
@[simp] theorem own_push {env : Env} {i : Nat} {d : D} : pushE env i d = (ownAt env i).bind fun ds => if ds.length < 16777216 then env.put i (.own (.lst (ds ++ [d]))) else none := rfl
@[simp] theorem own_frz {env : Env} {i : Nat} : frzE env i = (ownAt env i).bind fun ds => env.put i (.val (.lst ds)) := rfl
@[simp] theorem own_ins {env : Env} {i : Nat} {x d : D} : insE env i x d = (ownAt env i).bind fun ds => (intD x).bind fun j => if range62 j && decide (0 ≤ j) && decide (ds.length < 16777216) then env.put i (.own (.lst (insAt ds j.toNat d))) else none := rfl
@[simp] theorem int_int {i : Int} : intD (.int i) = some i := rfl
@[simp] theorem one_lst {ds : List D} : one? (.lst ds) = some ds := rfl
@[simp] theorem items_lst {ds : List D} : D.items (.lst ds) = some ds := rfl
@[simp] theorem items_tup {ds : List D} : D.items (.tup ds) = some ds := rfl
@[simp] theorem bind_slot {i : Nat} {d : D} {env : Env} : bindT (.slot i) d env = if i < env.length then some (env.set i (some (.val d))) else none := rfl
@[simp] theorem bi_tuple_lst {ds : List D} : biD .tuple [.lst ds] = some (.tup ds) := rfl
@[simp] theorem bi_list_lst {ds : List D} : biD .list [.lst ds] = some (.lst ds) := rfl
@[simp] theorem bi_list_tup {ds : List D} : biD .list [.tup ds] = some (.lst ds) := rfl
@[simp] theorem tru_bl {b : Bool} : truD (.bl b) = some b := rfl
/-- what simp leaves alone -/
def HidT (p : Prop) (_ : Tok p) : Prop := p
def Hid (p : Prop) : Prop := HidT p ⟨⟩
@[simp ↓] theorem hid_def {p : Prop} : Hid p = HidT p ⟨⟩ := rfl
theorem hid {p : Prop} {u : Tok p} (h : p) : HidT p u := h
/-- what a first part of a body must give -/
def midP (Q : Env → Store → Prop) (P : Out → Store → Prop) (o : Out) (st : Store) : Prop := match o with
  | .nxt env => Q env st
  | .ret d => P (.ret d) st
  | .brk env => P (.brk env) st
@[simp ↓] theorem midP_nxt {Q : Env → Store → Prop} {P : Out → Store → Prop} {env : Env} {st : Store} : midP Q P (.nxt env) st = Hid (Q env st) := rfl
@[simp ↓] theorem midP_ret {Q : Env → Store → Prop} {P : Out → Store → Prop} {d : D} {st : Store} : midP Q P (.ret d) st = P (.ret d) st := rfl
@[simp ↓] theorem midP_brk {Q : Env → Store → Prop} {P : Out → Store → Prop} {env : Env} {st : Store} : midP Q P (.brk env) st = P (.brk env) st := rfl
theorem sat_app {cf : Cf} {a b : List S} {env : Env} {st : Store} {P : Out → Store → Prop} {Q : Env → Store → Prop} (h1 : Sat (evSs cf a env st) (midP Q P)) (h2 : ∀ env st, Q env st → Sat (evSs cf b env st) P) : Sat (evSs cf (a ++ b) env st) P := by
  induction a generalizing env st with
  | nil =>
    rw [t_nil, sat_okS] at h1
    exact h2 env st h1
  | cons s a ih =>
    rw [List.cons_append, t_cons, sat_bd]
    rw [t_cons, sat_bd] at h1
    refine h1.mono fun o st h => ?_
    cases o with
    | nxt env => exact ih h
    | ret d => rw [next_ret, sat_okS] at h; exact .mk h
    | brk env => rw [next_brk, sat_okS] at h; exact .mk h
theorem sat_cut {cf : Cf} {ss : List S} {env : Env} {st : Store} {P : Out → Store → Prop} (k : Nat) (Q : Env → Store → Prop) (h1 : Sat (evSs cf (ss.take k) env st) (midP Q P)) (h2 : ∀ env st, Q env st → Sat (evSs cf (ss.drop k) env st) P) : Sat (evSs cf ss env st) P := by
  rw [← List.take_append_drop k ss]
  exact sat_app h1 h2
/-- a loop, told by what stands before each turn: so many are done -/
theorem for_sat {cf : Cf} {tg : Tg} {it : It} {b : List S} {env : Env} {st : Store} {P : Out → Store → Prop} (I : List D → List D → Env → Store → Prop)
    (hI : Sat (evI cf it env st) fun xs st => Hid (I [] xs env st))
    (hs : ∀ d x r env st, I d (x :: r) env st → ∃ env', bindT tg x env = some env' ∧ Sat (evSs cf b env' st) fun o st => match o with
      | .nxt env => Hid (I (d ++ [x]) r env st)
      | .brk env => P (.nxt env) st
      | .ret d => P (.ret d) st)
    (he : ∀ d env st, I d [] env st → P (.nxt env) st) : Sat (evS cf (.for_ tg it b) env st) P := by
  have go : ∀ r d env st, I d r env st → Sat (forGo (fun x env st => match bindT tg x env with
    | some env => evSs cf b env st
    | none => .bad) r env st) P := by
    intro r
    induction r with
    | nil => intro d env st h; exact .mk (he d env st h)
    | cons x r ih =>
      intro d env st h
      obtain ⟨env', e, h2⟩ := hs d x r env st h
      rw [forGo, sat_bd]
      simp only [e]
      refine h2.mono fun o st ho => ?_
      cases o with
      | nxt env => exact ih _ _ _ ho
      | brk env => exact .mk ho
      | ret d => exact .mk ho
  show Sat (Res.bind _ _) P
  rw [sat_bd]
  exact hI.mono fun xs st h => go xs [] env st h
/-- a comprehension: what each item gives -/
theorem comp_sat {cf : Cf} {vs : List Nat} {tg : Tg} {it : It} {c e : E} {env : Env} {st : Store} {P : D → Store → Prop} (I : List D → List D → List D → Store → Prop)
    (hI : Sat (evI cf it env st) fun xs st => Hid (I [] xs [] st))
    (hs : ∀ d x r ys st, I d (x :: r) ys st → ∃ env', bindT tg x (wipeE env vs) = some env' ∧ Sat (evE cf c .tst env' st) fun q st => Fl q fun q => Br q (Sat (evE cf e .frz env' st) fun y st => Hid (I (d ++ [x]) r (ys ++ [y]) st)) (Hid (I (d ++ [x]) r ys st)))
    (he : ∀ d ys st, I d [] ys st → fits ys.length = true ∧ P (.lst ys) st) : Sat (evE cf (.comp vs tg it c e) .frz env st) P := by
  have go : ∀ r d ys st, I d r ys st → Sat (mapGo (fun x st => match bindT tg x (wipeE env vs) with
      | some env2 => (asBl (evE cf c .tst env2 st) fun k st => if k then (evE cf e .frz env2 st).bind fun y st => .ok (.lst [y]) st else .ok (.lst []) st).calm.bind fun d st => Res.of (one? d) st
      | none => .bad) r st) (fun zs st => fits (ys ++ zs).length = true ∧ P (.lst (ys ++ zs)) st) := by
    intro r
    induction r with
    | nil =>
      intro d ys st h
      have := he d ys st h
      rw [mapGo, sat_okS, List.append_nil]
      exact this
    | cons x r ih =>
      intro d ys st h
      obtain ⟨env', e', h2⟩ := hs d x r ys st h
      obtain ⟨q, st1, e1, h3⟩ := h2.ex
      rw [mapGo, sat_bd]
      simp only [e', e1]
      cases q with
      | bl q =>
        cases q with
        | false =>
          rw [show (Res.calm (asBl (.ok (.bl false) st1) fun k st => if k = true then (evE cf e .frz env' st).bind fun y st => Res.ok (D.lst [y]) st else Res.ok (D.lst []) st)).bind (fun d st => Res.of (one? d) st) = .ok [] st1 from rfl, sat_okS]
          show Sat (Res.bind (mapGo _ r st1) fun zs st2 => Res.ok ([] ++ zs) st2) _
          rw [sat_bd]
          exact (ih _ _ _ h3).mono fun zs st h => .mk h
        | true =>
          obtain ⟨y, st2, e2, h4⟩ := Sat.ex (show Sat (evE cf e .frz env' st1) fun y st => I (d ++ [x]) r (ys ++ [y]) st from h3)
          simp only [rasBl_ok, if_true, e2, rb_ok]
          rw [show (Res.calm (.ok (.lst [y]) st2)).bind (fun d st => Res.of (one? d) st) = .ok [y] st2 from rfl, sat_okS]
          show Sat (Res.bind (mapGo _ r st2) fun zs st2 => Res.ok ([y] ++ zs) st2) _
          rw [sat_bd]
          refine (ih _ _ _ h4).mono fun zs st h => .mk ?_
          simpa using h
      | _ => exact h3.elim
  rw [comp_eq, sat_bd]
  refine hI.mono fun xs st h => ?_
  rw [sat_bd]
  refine (go xs [] [] st h).mono fun zs st h => ?_
  have h1 : fits zs.length = true := h.1
  have h2 : P (.lst zs) st := h.2
  rw [if_pos h1]
  exact .mk h2
end Bp.Q
set_option Elab.async false
set_option linter.all false
set_option maxRecDepth 100000
/-! BpSp1: the law's own draws: what they may give. -/
namespace Bp.Q
open PySem
theorem op_mul_l {i j : Int} (h : big i = true) : opD .mul (.int i) (.int j) = some (.int (i * j)) := op_mul' (by rw [h]; rfl)
theorem op_mul_r {i j : Int} (h : big j = true) : opD .mul (.int i) (.int j) = some (.int (i * j)) := op_mul' (by rw [h, Bool.or_true])
@[simp] theorem bi_len_scr (ns : List Int) : biD .len [.scr ns] = some (.int ns.length) := rfl
@[simp] theorem bi_len_tup (ds : List D) : biD .len [.tup ds] = some (.int ds.length) := rfl
@[simp] theorem bi_len_lst (ds : List D) : biD .len [.lst ds] = some (.int ds.length) := rfl
@[simp] theorem bi_int_bl (b : Bool) : biD .int [.bl b] = some (.int (if b then 1 else 0)) := rfl
@[simp] theorem bi_min2 (i j : Int) : biD .min2 [.int i, .int j] = some (.int (if j < i then j else i)) := rfl
@[simp] theorem bi_max2 (i j : Int) : biD .max2 [.int i, .int j] = some (.int (if j > i then j else i)) := rfl
theorem ixN_nat {n i : Nat} (h : i < n) : ixN n (i : Int) = some i := by
  unfold ixN
  rw [if_pos (by omega), if_pos (by omega)]; simp
theorem idx_scr {st : Store} {ns : List Int} {i : Int} (h0 : 0 ≤ i) (h1 : i < ns.length) : ∃ v, idxD st (.scr ns) (.int i) = some (.int v) := by
  obtain ⟨j, rfl⟩ : ∃ j : Nat, i = j := ⟨i.toNat, by omega⟩
  have h2 : j < ns.length := by omega
  refine ⟨ns[j], ?_⟩
  show (atI ns j).map D.int = _
  unfold atI
  rw [ixN_nat h2]
  show (ns[j]?).map D.int = _
  rw [List.getElem?_eq_getElem h2]; rfl
theorem atI_nat {α : Type} {ds : List α} {i : Nat} {d : α} (h : ds[i]? = some d) : atI ds (i : Int) = some d := by
  unfold atI
  rw [ixN_nat (List.getElem?_eq_some_iff.mp h).1]; exact h
theorem idx_tup {st : Store} {ds : List D} {i : Nat} {d : D} (h : ds[i]? = some d) : idxD st (.tup ds) (.int i) = some d := atI_nat h
theorem idx_lst {st : Store} {ds : List D} {i : Nat} {d : D} (h : ds[i]? = some d) : idxD st (.lst ds) (.int i) = some d := atI_nat h
/-- only the box r is other than before -/
structure Upd (st st' : Store) (r : Nat) : Prop where
  len : st'.length = st.length
  box : Box st' r
  oth : ∀ k, k ≠ r → st'[k]? = st[k]?
theorem Upd.trans {a b c : Store} {r : Nat} (h : Upd a b r) (k : Upd b c r) : Upd a c r := ⟨k.len.trans h.len, k.box, fun i hi => (k.oth i hi).trans (h.oth i hi)⟩
theorem Upd.rfl' {a : Store} {r : Nat} (h : Box a r) : Upd a a r := ⟨rfl, h, fun _ _ => rfl⟩
/-- a draw below m -/
def Drawn (st : Store) (r : Nat) (m : Int) (d : D) (st' : Store) : Prop := ∃ v : Int, d = .int v ∧ 0 ≤ v ∧ v < m ∧ Upd st st' r
/-- the defs of the law's draws -/
structure Dr (p : Prog) : Prop where
  f23 : p.fd 23 = some c23
  f24 : p.fd 24 = some c24
  f25 : p.fd 25 = some c25
  f28 : p.fd 28 = some c28
  f29 : p.fd 29 = some c29
  f30 : p.fd 30 = some c30
  f31 : p.fd 31 = some c31
section
variable {p : Prog} (H : Dr p) {n : Nat} {st : Store}
include H
theorem dr_take {r : Nat} {m : Int} (hb : Box st r) (h1 : 1 ≤ m) (h2 : m < 1073741824) : Sat (p.cl (n + 1) 24 [.ref r, .int m] st) (Drawn st r m) := by
  obtain ⟨a, b, hb⟩ := hb
  obtain ⟨v, a', b', e, h3, h4⟩ := sp_take (n := n) H.f24 hb h1 h2
  refine Sat.of_eq e ⟨v, rfl, h3, h4, ?_, ⟨a', b', ?_⟩, ?_⟩
  · simp
  · rw [List.getElem?_set_self (List.getElem?_eq_some_iff.mp hb).1]
  · intro k hk; rw [List.getElem?_set_ne (Ne.symm hk)]
theorem dr_pick {r : Nat} {ds : List D} (hb : Box st r) (h1 : ds ≠ []) (h2 : ds.length < 1073741824) : Sat (p.cl (n + 2) 25 [.ref r, .lst ds] st) (fun d st' => d ∈ ds ∧ Upd st st' r) := by
  refine sat_cl H.f25 rfl ?_
  simp [c25]
  have : 0 < ds.length := List.length_pos_iff.mpr h1
  refine (dr_take H hb (by omega) (by omega)).mono ?_
  rintro _ st1 ⟨v, rfl, h3, h4, u⟩
  obtain ⟨j, rfl⟩ : ∃ j : Nat, v = j := ⟨v.toNat, by omega⟩
  have h5 : j < ds.length := by omega
  simp [idx_lst (List.getElem?_eq_getElem h5), u]
theorem dr_box (ns : List Int) (hns : ns.length ≤ 63) (k : Int) (hk : 0 ≤ k) : Sat (p.cl (n + 1) 23 [.scr ns, .int k] st) (fun d st' => d = .ref st.length ∧ ∃ a b : Int, st' = st ++ [.lst [.int a, .int b]]) := by
  refine sat_cl H.f23 rfl ?_
  have m1 : ∀ i : Int, opD .mul (.int 7919) (.int i) = some (.int (7919 * i)) := fun i => op_mul_l (by decide)
  have m2 : ∀ i : Int, opD .mul (.int i) (.int 31) = some (.int (i * 31)) := fun i => op_mul_r (by decide)
  have m3 : ∀ i : Int, opD .mul (.int i) (.int 48271) = some (.int (i * 48271)) := fun i => op_mul_r (by decide)
  have m4 : ∀ i : Int, opD .mul (.int 613) (.int i) = some (.int (613 * i)) := fun i => op_mul_l (by decide)
  have m5 : ∀ i : Int, opD .mod (.int i) (.int 1000000007) = some (.int (i.fmod 1000000007)) := fun i => op_mod' (by decide)
  have m6 : ∀ i : Int, opD .mod (.int i) (.int 2147483647) = some (.int (i.fmod 2147483647)) := fun i => op_mod' (by decide)
  have w : opD .pow (.int 10) (.int 18) = some (.int 1000000000000000000) := rfl
  have f2 : fits 2 = true := rfl
  have i0 : ∀ (x : Int) (q : Prop) [Decidable q], idxD st (.lst [.int 0, .int x]) (.int (if q then 1 else 0)) = some (.int (if q then x else 0)) := fun x q _ => by by_cases h : q <;> simp only [h, if_true, if_false] <;> rfl
  by_cases h1 : k < ns.length
  · obtain ⟨v, hv⟩ := idx_scr (st := st) hk h1
    simp -dsimp [c23, w, f2, m1, m2, m3, m4, m5, m6, i0, bindT, h1, hv]
  · by_cases h2 : (0 : Int) < ns.length
    · have m7 : opD .mod (.int k) (.int ns.length) = some (.int (k.fmod ns.length)) := op_mod' (by omega)
      obtain ⟨v, hv⟩ := idx_scr (st := st) (ns := ns) (i := k.fmod ns.length) (Int.fmod_nonneg_of_pos _ h2) (Int.fmod_lt_of_pos _ h2)
      have h3 : 0 < ns.length := by omega
      simp -dsimp [c23, w, f2, m1, m2, m3, m4, m5, m6, i0, bindT, h1, h2, h3, m7, hv]
    · have h3 : ns.length = 0 := by omega
      have h4 : ¬ k < 0 := by omega
      simp -dsimp [c23, w, f2, m1, m2, m3, m4, m5, m6, i0, bindT, h3, h4]
theorem dr_shuffled {r : Nat} {ds : List D} (hb : Box st r) (h2 : ds.length < 100000) : Sat (p.cl (n + 2) 28 [.ref r, .lst ds] st) (fun d st' => ∃ es, d = .lst es ∧ es.length = ds.length ∧ (∀ e ∈ es, e ∈ ds) ∧ Upd st st' r) := by
  refine sat_cl H.f28 rfl ?_
  simp -dsimp [c28, fits]
  refine for_sat (fun d rest env st' => ∃ acc x3, env = [some (.val (.ref r)), some (.val (.lst ds)), some (.own (.lst acc)), x3] ∧ acc.length = d.length ∧ (∀ e ∈ acc, e ∈ d) ∧ Upd st st' r ∧ d ++ rest = ds) ?_ ?_ ?_
  · simp -dsimp
    exact hid ⟨_, _, rfl, rfl, by simp, Upd.rfl' hb, rfl⟩
  · rintro d x rest _ st1 ⟨acc, x3, rfl, h3, h4, u, rfl⟩
    refine ⟨_, rfl, ?_⟩
    have h5 : d.length < 100000 := by simp at h2; omega
    simp -dsimp
    refine (dr_take H u.box (by omega) (by omega)).mono ?_
    rintro _ st2 ⟨v, rfl, h6, h7, u2⟩
    have h8 : range62 v = true := by simp [range62]; omega
    have h9 : acc.length < 16777216 := by omega
    simp -dsimp [h8, h9, h6]
    refine hid ⟨_, _, rfl, ?_, ?_, u.trans u2, by simp⟩
    · simp [insAt]; omega
    · intro e he
      simp only [insAt, List.mem_append, List.mem_singleton] at he
      rcases he with (he | he) | he
      · exact List.mem_append_left _ (h4 e (List.mem_of_mem_take he))
      · exact List.mem_append_right _ (by simp [he])
      · exact List.mem_append_left _ (h4 e (List.mem_of_mem_drop he))
  · rintro d _ st1 ⟨acc, x3, rfl, h3, h4, u, h5⟩
    simp at h5
    subst h5
    simp -dsimp [h3, u]
    exact h4
end
end Bp.Q
set_option Elab.async false
set_option linter.all false
set_option maxRecDepth 100000
/-! BpSp2: drawn ties. -/
namespace Bp.Q
open PySem
def tieD (e : Nat × Nat) : D := .tup [.int e.1, .int e.2]
def lexB (a b : Nat × Nat) : Bool := decide (a.1 < b.1 ∨ a.1 = b.1 ∧ a.2 < b.2)
theorem mem_upto {d : D} : ∀ {n : Nat} {lo : Int}, d ∈ upto lo n ↔ ∃ k : Nat, k < n ∧ d = .int (lo + k)
  | 0, lo => by simp [upto]
  | n + 1, lo => by
    rw [upto, List.mem_cons, mem_upto]
    constructor
    · rintro (rfl | ⟨k, h, rfl⟩)
      · exact ⟨0, by omega, by simp⟩
      · exact ⟨k + 1, by omega, by congr 1; omega⟩
    · rintro ⟨k, h, rfl⟩
      cases k with
      | zero => left; simp
      | succ k => right; exact ⟨k, by omega, by congr 1; omega⟩
@[simp] theorem upto_len : ∀ (n : Nat) (lo : Int), (upto lo n).length = n
  | 0, _ => rfl
  | n + 1, lo => by simp [upto, upto_len n]
theorem upto_get : ∀ {n : Nat} {lo : Int} {k : Nat}, k < n → (upto lo n)[k]? = some (.int (lo + k))
  | n + 1, lo, 0, _ => by simp [upto]
  | n + 1, lo, k + 1, h => by
    rw [upto, List.getElem?_cons_succ, upto_get (by omega)]
    congr 2; omega
theorem tie_lt (a b : Nat × Nat) : D.lt (tieD a) (tieD b) = lexB a b := by
  obtain ⟨a1, a2⟩ := a
  obtain ⟨b1, b2⟩ := b
  simp only [tieD, D.lt, D.ltL, D.eqv, lexB]
  by_cases h1 : a1 = b1
  · subst h1
    by_cases h2 : a2 = b2
    · subst h2; simp
    · simp [Int.ofNat_inj, h2]
  · simp [Int.ofNat_inj, h1]
theorem tie_eqv (a b : Nat × Nat) : D.eqv (tieD a) (tieD b) = decide (a = b) := by
  obtain ⟨a1, a2⟩ := a
  obtain ⟨b1, b2⟩ := b
  rw [Bool.eq_iff_iff]
  simp [tieD, D.eqv, D.eqvL, Int.ofNat_inj, Prod.mk.injEq]
theorem tie_dat (n : Nat) (a : Nat × Nat) : D.dat (n + 1) (tieD a) = true := by simp [tieD, D.dat, D.datL]
theorem tie_datL (n : Nat) : ∀ xs : List (Nat × Nat), D.datL (n + 1) (xs.map tieD) = true
  | [] => by simp [D.datL]
  | x :: xs => by simp [D.datL, tie_dat, tie_datL n xs]
theorem tie_alike (a b : Nat × Nat) : D.alike (tieD a) (tieD b) = true := by simp [tieD, D.alike, D.alikeL]
theorem tie_in (a : Nat × Nat) (xs : List (Nat × Nat)) : inD (tieD a) (xs.map tieD) = some (decide (a ∈ xs)) := by
  unfold inD
  rw [show D.data (tieD a) = true from tie_dat 39 a, tie_datL 39]
  simp only [Bool.and_true, if_true, List.any_map]
  congr 1
  rw [Bool.eq_iff_iff, List.any_eq_true, decide_eq_true_eq]
  constructor
  · rintro ⟨x, hx, h⟩
    have h : D.eqv (tieD x) (tieD a) = true := h
    rw [tie_eqv, decide_eq_true_eq] at h
    exact h ▸ hx
  · intro h
    refine ⟨a, h, ?_⟩
    show D.eqv (tieD a) (tieD a) = true
    rw [tie_eqv]; simp
/-- ascending, all told -/
structure TiesOk (n : Nat) (ts : List (Nat × Nat)) : Prop where
  inn : ∀ e ∈ ts, e.1 < e.2 ∧ e.2 < n
  asc : ts.Pairwise fun a b => lexB a b = true
  len : ts.length ≤ 16
theorem tie_sorted {n : Nat} {xs : List (Nat × Nat)} (h1 : ∀ e ∈ xs, e.1 < e.2 ∧ e.2 < n) (h2 : xs.Nodup) (h3 : xs.length ≤ 16) : ∃ ts, biD .sorted [.lst (xs.map tieD)] = some (.lst (ts.map tieD)) ∧ TiesOk n ts := by
  let r : Nat × Nat → Nat × Nat → Bool := fun a b => !lexB b a
  have pm : (xs.mergeSort r).Perm xs := List.mergeSort_perm xs r
  refine ⟨xs.mergeSort r, ?_, fun e he => h1 e (pm.mem_iff.mp he), ?_, by rw [pm.length_eq]; exact h3⟩
  · have e1 : allAlike (xs.map tieD) = true := by
      unfold allAlike
      rw [tie_datL 39]
      simp [tie_alike]
    have e2 : sortable (xs.map tieD) = true := by
      unfold sortable
      rw [Bool.or_eq_true]; left
      simp [tieD]
    show (if (allAlike (xs.map tieD) && sortable (xs.map tieD)) = true then some (D.lst ((xs.map tieD).mergeSort leB)) else none) = _
    rw [e1, e2]
    simp only [Bool.and_true, if_true]
    rw [List.map_mergeSort]
    intro a _ b _
    show (!lexB b a) = !D.lt (tieD b) (tieD a)
    rw [tie_lt]
  · have s1 : (xs.mergeSort r).Pairwise fun a b => r a b = true := by
      refine List.pairwise_mergeSort ?_ ?_ xs
      · intro a b c
        simp only [r, lexB, Bool.not_eq_true', decide_eq_false_iff_not]
        omega
      · intro a b
        simp only [r, lexB, Bool.or_eq_true, Bool.not_eq_true', decide_eq_false_iff_not]
        omega
    have s2 : (xs.mergeSort r).Nodup := pm.nodup_iff.mpr h2
    refine (s1.and s2).imp ?_
    rintro ⟨a1, a2⟩ ⟨b1, b2⟩ ⟨h, h'⟩
    simp only [r, lexB, Bool.not_eq_true', decide_eq_false_iff_not, ne_eq, Prod.mk.injEq, decide_eq_true_eq] at h h' ⊢
    omega
def PairIn (n : Nat) (d : D) : Prop := ∃ a b : Nat, a < n ∧ b < n ∧ d = tieD (a, b)
theorem tie_min (a b : Nat) : biD .minl [tieD (a, b)] = some (.int (min a b : Nat)) := by
  have e : minD (.int (a : Int)) [.int (b : Int)] = .int (min a b : Nat) := by
    show (if D.lt (.int (b : Int)) (.int (a : Int)) = true then D.int (b : Int) else D.int (a : Int)) = _
    simp only [D.lt, decide_eq_true_eq]
    split <;> (congr 1; omega)
  simp only [biD, tieD, D.items, e]
  simp [allAlike, D.datL, D.dat, D.alike, D.isNon]
theorem tie_max (a b : Nat) : biD .maxl [tieD (a, b)] = some (.int (max a b : Nat)) := by
  have e : maxD (.int (a : Int)) [.int (b : Int)] = .int (max a b : Nat) := by
    show (if D.lt (.int (a : Int)) (.int (b : Int)) = true then D.int (b : Int) else D.int (a : Int)) = _
    simp only [D.lt, decide_eq_true_eq]
    split <;> (congr 1; omega)
  simp only [biD, tieD, D.items, e]
  simp [allAlike, D.datL, D.dat, D.alike, D.isNon]
theorem tie_mk {a b : Int} {m : Nat} (h1 : 0 ≤ a) (h2 : a < m) (h3 : 0 ≤ b) (h4 : b < m) : PairIn m (.tup [.int a, .int b]) := by
  refine ⟨a.toNat, b.toNat, by omega, by omega, ?_⟩
  simp only [tieD]
  rw [show ((a.toNat : Nat) : Int) = a by omega, show ((b.toNat : Nat) : Int) = b by omega]
theorem ord_get {es : List D} {m : Nat} (hl : es.length = m) (he : ∀ e ∈ es, e ∈ upto 0 m) {i : Int} (h0 : 0 ≤ i) (h1 : i < m) (st : Store) : ∃ v : Int, idxD st (.lst es) (.int i) = some (.int v) ∧ 0 ≤ v ∧ v < m := by
  obtain ⟨k, rfl⟩ : ∃ k : Nat, i = k := ⟨i.toNat, by omega⟩
  have hk : k < es.length := by omega
  obtain ⟨j, hj, e⟩ := mem_upto.mp (he es[k] (List.getElem_mem hk))
  refine ⟨j, ?_, by omega, by omega⟩
  rw [idx_lst (List.getElem?_eq_getElem hk), e, Int.zero_add]
section
variable {p : Prog} (H : Dr p) {n : Nat} {st : Store}
include H
/-- the end of the ties: distinct pairs, sorted -/
theorem dr_ties_end {x0 x1 x2 x3 x5 x6 : Option Slot} {fs : List D} {m : Nat} (hf : ∀ d ∈ fs, PairIn m d) : Sat (evSs (p.cf n) (c29.body.drop 6) [x0, x1, x2, x3, some (.own (.lst fs)), x5, x6, none, none, none] st) (outP fun d st' => st' = st ∧ ∃ ts, d = .tup (ts.map tieD) ∧ TiesOk m ts) := by
  simp -dsimp [c29, fits]
  refine for_sat (fun d rest env st' => st' = st ∧ d ++ rest = fs ∧ ∃ (ps : List (Nat × Nat)) (x8 x9 : Option Slot), env = [x0, x1, x2, x3, some (.val (.lst fs)), x5, x6, some (.own (.lst (ps.map tieD))), x8, x9] ∧ (∀ e ∈ ps, e.1 < e.2 ∧ e.2 < m) ∧ ps.Nodup ∧ ps.length ≤ 16) ?_ ?_ ?_
  · simp -dsimp
    exact hid ⟨rfl, rfl, [], _, _, rfl, by simp, by simp, by simp⟩
  · rintro d x rest _ st1 ⟨rfl, h1, ps, x8, x9, rfl, h2, h3, h4⟩
    refine ⟨_, rfl, ?_⟩
    obtain ⟨a, b, ha, hb, rfl⟩ := hf x (by rw [← h1]; simp)
    have t1 : (D.tup [.int (min a b : Nat), .int (max a b : Nat)]) = tieD (min a b, max a b) := rfl
    have t2 : idxD st1 (tieD (min a b, max a b)) (.int 0) = some (.int (min a b : Nat)) := rfl
    have t3 : idxD st1 (tieD (min a b, max a b)) (.int 1) = some (.int (max a b : Nat)) := rfl
    have t4 : ∀ e, cmD .notin (tieD e) (.lst (ps.map tieD)) = some (!decide (e ∈ ps)) := fun e => by
      show (inD (tieD e) (ps.map tieD)).map _ = _
      rw [tie_in]; rfl
    simp -dsimp [fits, tie_min, tie_max, t1, t2, t3, t4]
    refine br_of (fun q => ?_) (fun q => ?_)
    · simp only [Bool.and_eq_true, decide_eq_true_eq, Bool.not_eq_true', decide_eq_false_iff_not] at q
      have h5 : ps.length < 16777216 := by omega
      simp -dsimp [h5]
      refine hid ⟨rfl, by simpa using h1, ps ++ [(min a b, max a b)], _, _, by rw [List.map_append]; rfl, ?_, ?_, ?_⟩
      · intro e he
        rw [List.mem_append, List.mem_singleton] at he
        rcases he with he | rfl
        · exact h2 e he
        · exact ⟨q.1, by show max a b < m; omega⟩
      · rw [List.nodup_append]
        refine ⟨h3, by simp, ?_⟩
        intro x hx y hy
        rw [List.mem_singleton] at hy
        subst hy
        exact fun h => q.2.1 (h ▸ hx)
      · simp; omega
    · simp -dsimp
      exact hid ⟨rfl, by simpa using h1, ps, _, _, rfl, h2, h3, h4⟩
  · rintro d _ st1 ⟨rfl, h1, ps, x8, x9, rfl, h2, h3, h4⟩
    obtain ⟨ts, e, h5⟩ := tie_sorted h2 h3 h4
    simp -dsimp [e]
    exact ⟨ts, rfl, h5⟩
/-- more pairs -/
theorem dr_ties_more {r m : Nat} {x2 x3 x6 : Option Slot} {fs : List D} (hm : 1 ≤ m) (hm2 : m < 100000) (hb : Box st r) (hf : ∀ d ∈ fs, PairIn m d) (hl : fs.length < 100000) : Sat (evSs (p.cf (n + 2)) (c29.body.drop 4) [some (.val (.ref r)), some (.val (.int m)), x2, x3, some (.own (.lst fs)), none, x6, none, none, none] st) (outP fun d st' => Upd st st' r ∧ ∃ ts, d = .tup (ts.map tieD) ∧ TiesOk m ts) := by
  refine sat_cut 2 (fun env st' => Upd st st' r ∧ ∃ fs x5 x6, env = [some (.val (.ref r)), some (.val (.int m)), x2, x3, some (.own (.lst fs)), x5, x6, none, none, none] ∧ ∀ d ∈ fs, PairIn m d) ?_ ?_
  · simp -dsimp [c29, fits]
    refine (dr_pick H hb (by simp) (by simp)).mono ?_
    rintro k st1 ⟨hk, u⟩
    have hk : ∃ i : Int, k = .int i ∧ 0 ≤ i ∧ i ≤ 16 := by
      simp only [List.mem_cons, List.not_mem_nil, or_false] at hk
      rcases hk with rfl | rfl | rfl | rfl | rfl | rfl <;> exact ⟨_, rfl, by omega, by omega⟩
    obtain ⟨i, rfl, h1, h2⟩ := hk
    have h3 : range62 i = true := by simp [range62]; omega
    simp -dsimp
    refine for_sat (fun d rest env st' => Upd st st' r ∧ d.length + rest.length ≤ 16 ∧ ∃ fs' x6, env = [some (.val (.ref r)), some (.val (.int m)), x2, x3, some (.own (.lst fs')), some (.val (.int i)), x6, none, none, none] ∧ (∀ d ∈ fs', PairIn m d) ∧ fs'.length < 100000 + d.length) ?_ ?_ ?_
    · simp -dsimp [h3, rng1D]
      exact hid ⟨u, by simp; omega, _, _, rfl, hf, hl⟩
    · rintro d x rest _ st1 ⟨u1, h4, fs', x6, rfl, h5, h6⟩
      refine ⟨_, rfl, ?_⟩
      simp at h4
      simp -dsimp [fits]
      refine (dr_take H u1.box (by omega) (by omega)).mono ?_
      rintro _ st2 ⟨v, rfl, v1, v2, u2⟩
      simp -dsimp
      refine (dr_take H u2.box (by omega) (by omega)).mono ?_
      rintro _ st3 ⟨w, rfl, w1, w2, u3⟩
      have h7 : fs'.length < 16777216 := by omega
      simp -dsimp [h7]
      refine hid ⟨(u1.trans u2).trans u3, by simp; omega, _, _, rfl, ?_, by simp; omega⟩
      intro e he
      rw [List.mem_append, List.mem_singleton] at he
      rcases he with he | rfl
      · exact h5 e he
      · exact tie_mk v1 v2 w1 w2
    · rintro d _ st1 ⟨u1, h4, fs', x6, rfl, h5, h6⟩
      simp -dsimp
      exact hid ⟨u1, _, _, _, rfl, h5⟩
  · rintro _ st1 ⟨u, fs', x5, x6, rfl, h⟩
    refine (dr_ties_end H h).mono ?_
    rintro o st2 ho
    cases o with
    | ret d => exact ⟨ho.1 ▸ u, ho.2⟩
    | nxt e => exact ⟨ho.1 ▸ u, ho.2⟩
    | brk e => exact ho.elim
end
end Bp.Q
set_option Elab.async false
set_option linter.all false
/-! BpM1: plain mathematics: what hangs together, numberings, plans. -/
namespace Bp.Q
theorem nodup_len {α : Type} [DecidableEq α] : ∀ {a b : List α}, a.Nodup → (∀ x ∈ a, x ∈ b) → a.length ≤ b.length
  | [], b, _, _ => Nat.zero_le _
  | x :: a, b, hn, hs => by
    rw [List.nodup_cons] at hn
    have h1 : x ∈ b := hs x List.mem_cons_self
    have h2 : a.length ≤ (b.erase x).length := nodup_len hn.2 fun y hy => by
      have hne : y ≠ x := fun e => hn.1 (e ▸ hy)
      exact (List.mem_erase_of_ne hne).mpr (hs y (List.mem_cons_of_mem _ hy))
    have h3 := List.length_erase_of_mem h1
    have h4 : 0 < b.length := List.length_pos_of_mem h1
    simp only [List.length_cons]; omega
theorem nodup_sub {α : Type} [DecidableEq α] {a b : List α} (hn : a.Nodup) (hs : ∀ x ∈ a, x ∈ b) (hl : b.length ≤ a.length) : ∀ y ∈ b, y ∈ a := by
  intro y hy
  by_cases h : y ∈ a
  · exact h
  · have := nodup_len (a := y :: a) (b := b) (List.nodup_cons.mpr ⟨h, hn⟩) fun x hx => by
      rcases List.mem_cons.mp hx with rfl | hx
      · exact hy
      · exact hs x hx
    simp at this; omega
/-- walks within us -/
inductive Rch (t : Nat → Nat → Bool) (us : List Nat) (a : Nat) : Nat → Prop
  | refl : Rch t us a a
  | step {b c : Nat} : Rch t us a b → c ∈ us → t b c = true → Rch t us a c
def Conn (t : Nat → Nat → Bool) (us : List Nat) : Prop := ∃ a r, us = a :: r ∧ ∀ u ∈ us, Rch t us a u
open Classical in
noncomputable def connB (t : Nat → Nat → Bool) (us : List Nat) : Bool := decide (Conn t us)
theorem connB_iff {t : Nat → Nat → Bool} {us : List Nat} : connB t us = true ↔ Conn t us := by simp [connB]
theorem connB_nil {t : Nat → Nat → Bool} : connB t [] = false := by
  rw [← Bool.not_eq_true, connB_iff]
  rintro ⟨a, r, h, _⟩
  cases h
/-- what a search has found -/
structure Srch (t : Nat → Nat → Bool) (us : List Nat) (a : Nat) (found : List Nat) (at_ : Nat) : Prop where
  nd : found.Nodup
  hd : found[0]? = some a
  le : at_ ≤ found.length
  inn : ∀ x ∈ found, x ∈ us ∧ Rch t us a x
  cl : ∀ i x, i < at_ → found[i]? = some x → ∀ y ∈ us, t x y = true → y ∈ found
theorem Srch.init {t : Nat → Nat → Bool} {us r : List Nat} {a : Nat} (h : us = a :: r) : Srch t us a [a] 0 :=
  ⟨by simp, rfl, Nat.zero_le _, by rintro x hx; rw [List.mem_singleton] at hx; subst hx; exact ⟨h ▸ List.mem_cons_self, .refl⟩, by intro i x hi; omega⟩
theorem Srch.add {t : Nat → Nat → Bool} {us found : List Nat} {a k f y : Nat} (h : Srch t us a found k) (hf : f ∈ found) (hy : y ∈ us) (ht : t f y = true) (hn : y ∉ found) : Srch t us a (found ++ [y]) k := by
  have hl : 0 < found.length := List.length_pos_of_mem hf
  have hk := h.le
  refine ⟨?_, ?_, by simp; omega, ?_, ?_⟩
  · rw [List.nodup_append]
    refine ⟨h.nd, by simp, ?_⟩
    rintro x hx z hz rfl
    rw [List.mem_singleton] at hz
    exact hn (hz ▸ hx)
  · rw [List.getElem?_append_left hl]; exact h.hd
  · intro x hx
    rw [List.mem_append, List.mem_singleton] at hx
    rcases hx with hx | rfl
    · exact h.inn x hx
    · exact ⟨hy, .step (h.inn f hf).2 hy ht⟩
  · intro i x hi hx z hz htz
    rw [List.getElem?_append_left (by omega)] at hx
    exact List.mem_append_left _ (h.cl i x hi hx z hz htz)
theorem Srch.next {t : Nat → Nat → Bool} {us found : List Nat} {a k f : Nat} (h : Srch t us a found k) (hf : found[k]? = some f) (hc : ∀ y ∈ us, t f y = true → y ∈ found) : Srch t us a found (k + 1) := by
  refine ⟨h.nd, h.hd, (List.getElem?_eq_some_iff.mp hf).1, h.inn, ?_⟩
  intro i x hi hx y hy ht
  by_cases h1 : i = k
  · subst h1
    rw [hf] at hx
    cases hx
    exact hc y hy ht
  · exact h.cl i x (by omega) hx y hy ht
theorem Srch.len {t : Nat → Nat → Bool} {us found : List Nat} {a k : Nat} (h : Srch t us a found k) : found.length ≤ us.length := nodup_len h.nd fun x hx => (h.inn x hx).1
theorem Srch.fin {t : Nat → Nat → Bool} {us found r : List Nat} {a k : Nat} (hu : us = a :: r) (nd : us.Nodup) (h : Srch t us a found k) (hk : found.length ≤ k) : decide (found.length = us.length) = connB t us := by
  rw [Bool.eq_iff_iff, decide_eq_true_eq, connB_iff]
  have all : ∀ x, Rch t us a x → x ∈ found := by
    intro x hx
    induction hx with
    | refl => exact List.mem_of_getElem? h.hd
    | step hb hc ht ih =>
      obtain ⟨i, hi⟩ := List.mem_iff_getElem?.mp ih
      have := (List.getElem?_eq_some_iff.mp hi).1
      exact h.cl i _ (by omega) hi _ hc ht
  constructor
  · intro e
    exact ⟨a, r, hu, fun u hu => (h.inn u (nodup_sub h.nd (fun x hx => (h.inn x hx).1) (by omega) u hu)).2⟩
  · rintro ⟨a', r', hu', hc⟩
    rw [hu] at hu'
    cases hu'
    have := nodup_len nd fun x hx => all x (hc x hx)
    have := h.len
    omega

/-! ### numberings -/
/-- one more than the greatest number, 0 for none -/
def cnt (row : List Nat) : Nat := row.foldl (fun m x => max m (x + 1)) 0
theorem cnt_snoc (row : List Nat) (x : Nat) : cnt (row ++ [x]) = max (cnt row) (x + 1) := by simp [cnt]
theorem snoc_ind {α : Type} {P : List α → Prop} (h0 : P []) (hs : ∀ l x, P l → P (l ++ [x])) (l : List α) : P l := by
  have : ∀ n (l : List α), l.length = n → P l := by
    intro n
    induction n with
    | zero => intro l h; rw [List.length_eq_zero_iff] at h; exact h ▸ h0
    | succ n ih =>
      intro l h
      have hne : l ≠ [] := by intro e; simp [e] at h
      rw [← List.dropLast_concat_getLast hne]
      exact hs _ _ (ih _ (by simp; omega))
  exact this _ l rfl
theorem lt_cnt {row : List Nat} : ∀ {y : Nat}, y ∈ row → y < cnt row := by
  refine snoc_ind (P := fun row => ∀ {y : Nat}, y ∈ row → y < cnt row) ?_ ?_ row
  · intro y h; cases h
  · intro l x ih y h
    rw [cnt_snoc]
    rw [List.mem_append, List.mem_singleton] at h
    rcases h with h | rfl
    · have := ih h; omega
    · omega
theorem cnt_le {row : List Nat} {m : Nat} (h : ∀ y ∈ row, y < m) : cnt row ≤ m := by
  revert h
  refine snoc_ind (P := fun row => (∀ y ∈ row, y < m) → cnt row ≤ m) ?_ ?_ row
  · intro _; exact Nat.zero_le _
  · intro l x ih h
    rw [cnt_snoc]
    have h1 := ih fun y hy => h y (List.mem_append_left _ hy)
    have h2 := h x (by simp)
    omega
/-- the distinct ones, by first places -/
def fst (ns : List Nat) : List Nat := ns.foldl (fun acc k => if acc.any (· == k) then acc else acc ++ [k]) []
theorem fst_snoc (l : List Nat) (x : Nat) : fst (l ++ [x]) = if x ∈ fst l then fst l else fst l ++ [x] := by
  have e : fst (l ++ [x]) = if (fst l).any (· == x) then fst l else fst l ++ [x] := by
    unfold fst
    rw [List.foldl_append]; rfl
  rw [e]
  have e2 : ((fst l).any (· == x) = true) ↔ x ∈ fst l := by simp
  by_cases h : x ∈ fst l
  · rw [if_pos (e2.mpr h), if_pos h]
  · rw [if_neg (fun q => h (e2.mp q)), if_neg h]
theorem mem_fst {l : List Nat} : ∀ {y : Nat}, y ∈ fst l ↔ y ∈ l := by
  refine snoc_ind (P := fun l => ∀ {y : Nat}, y ∈ fst l ↔ y ∈ l) ?_ ?_ l
  · simp [fst]
  · intro l x ih y
    rw [fst_snoc, List.mem_append, List.mem_singleton]
    split
    · rename_i h
      rw [ih] at h
      constructor
      · intro hy; exact Or.inl (ih.mp hy)
      · rintro (hy | rfl)
        · exact ih.mpr hy
        · exact ih.mpr h
    · rw [List.mem_append, List.mem_singleton, ih]
/-- numbered by first places -/
def Rg (row : List Nat) : Prop := ∀ i x, row[i]? = some x → x ≤ cnt (row.take i)
theorem rg_nil : Rg [] := by intro i x h; simp at h
theorem rg_snoc {row : List Nat} {x : Nat} : Rg (row ++ [x]) ↔ Rg row ∧ x ≤ cnt row := by
  constructor
  · intro h
    refine ⟨fun i y hy => ?_, ?_⟩
    · have hi := (List.getElem?_eq_some_iff.mp hy).1
      have := h i y (by rw [List.getElem?_append_left hi]; exact hy)
      rwa [List.take_append_of_le_length (by omega)] at this
    · have := h row.length x (by simp)
      rwa [List.take_append_of_le_length (by omega), List.take_length] at this
  · rintro ⟨h1, h2⟩ i y hy
    by_cases hi : i < row.length
    · rw [List.getElem?_append_left hi] at hy
      rw [List.take_append_of_le_length (by omega)]
      exact h1 i y hy
    · by_cases he : i = row.length
      · subst he
        simp at hy
        subst hy
        rw [List.take_append_of_le_length (by omega), List.take_length]
        exact h2
      · rw [List.getElem?_eq_none (by simp; omega)] at hy
        cases hy
/-- the numbers of a numbering are all below -/
theorem rg_mem {row : List Nat} : Rg row → ∀ y, y ∈ row ↔ y < cnt row := by
  refine snoc_ind (P := fun row => Rg row → ∀ y, y ∈ row ↔ y < cnt row) ?_ ?_ row
  · intro _ y; simp [cnt]
  · intro l x ih h y
    obtain ⟨h1, h2⟩ := rg_snoc.mp h
    rw [cnt_snoc, List.mem_append, List.mem_singleton, ih h1 y]
    omega
theorem rg_fst {row : List Nat} : Rg row → (fst row).length = cnt row := by
  refine snoc_ind (P := fun row => Rg row → (fst row).length = cnt row) ?_ ?_ row
  · intro _; rfl
  · intro l x ih h
    obtain ⟨h1, h2⟩ := rg_snoc.mp h
    have h3 := ih h1
    have h4 := rg_mem h1 x
    rw [fst_snoc, cnt_snoc]
    split
    · rename_i hx
      rw [mem_fst, h4] at hx
      omega
    · rename_i hx
      rw [mem_fst, h4] at hx
      simp; omega
/-- all numberings with at most so many numbers -/
def rowsG (many : Nat) : Nat → List (List Nat)
  | 0 => [[]]
  | k + 1 => (rowsG many k).flatMap fun row => (List.range (min (cnt row + 1) many)).map fun c => row ++ [c]
theorem mem_rowsG {many : Nat} : ∀ {k : Nat} {row : List Nat}, row ∈ rowsG many k ↔ row.length = k ∧ Rg row ∧ ∀ y ∈ row, y < many
  | 0, row => by
    simp only [rowsG, List.mem_singleton, List.length_eq_zero_iff]
    constructor
    · rintro rfl; exact ⟨rfl, rg_nil, by simp⟩
    · exact fun h => h.1
  | k + 1, row => by
    simp only [rowsG, List.mem_flatMap, List.mem_map, List.mem_range, mem_rowsG]
    constructor
    · rintro ⟨r, ⟨h1, h2, h3⟩, c, hc, rfl⟩
      refine ⟨by simp; omega, rg_snoc.mpr ⟨h2, by omega⟩, ?_⟩
      intro y hy
      rw [List.mem_append, List.mem_singleton] at hy
      rcases hy with hy | rfl
      · exact h3 y hy
      · omega
    · rintro ⟨h1, h2, h3⟩
      have hne : row ≠ [] := by intro e; simp [e] at h1
      have e := (List.dropLast_concat_getLast hne).symm
      rw [e] at h2 h3
      obtain ⟨h4, h5⟩ := rg_snoc.mp h2
      refine ⟨row.dropLast, ⟨by simp; omega, h4, fun y hy => h3 y (List.mem_append_left _ hy)⟩, row.getLast hne, ?_, e.symm⟩
      have := h3 (row.getLast hne) (by simp)
      omega
theorem rowsG_len (many : Nat) : ∀ k, (rowsG many k).length ≤ many ^ k
  | 0 => by simp [rowsG]
  | k + 1 => by
    have go : ∀ l : List (List Nat), (l.flatMap fun row => (List.range (min (cnt row + 1) many)).map fun c => row ++ [c]).length ≤ l.length * many := by
      intro l
      induction l with
      | nil => simp
      | cons r l ih => simp only [List.flatMap_cons, List.length_append, List.length_map, List.length_range, List.length_cons, Nat.succ_mul]; omega
    rw [rowsG, Nat.pow_succ]
    exact Nat.le_trans (go _) (Nat.mul_le_mul_right _ (rowsG_len many k))
/-- the units of a district -/
def dist (row : List Nat) (k : Nat) : List Nat := (List.range row.length).filter fun u => row[u]? == some k
theorem mem_dist {row : List Nat} {k u : Nat} : u ∈ dist row k ↔ row[u]? = some k := by
  simp only [dist, List.mem_filter, List.mem_range, beq_iff_eq]
  constructor
  · exact fun h => h.2
  · exact fun h => ⟨(List.getElem?_eq_some_iff.mp h).1, h⟩
theorem dist_nodup (row : List Nat) (k : Nat) : (dist row k).Nodup := List.Nodup.sublist List.filter_sublist List.nodup_range
theorem dist_snoc (row : List Nat) (c k : Nat) : dist (row ++ [c]) k = if c = k then dist row k ++ [row.length] else dist row k := by
  have e1 : (List.range row.length).filter (fun u => (row ++ [c])[u]? == some k) = dist row k := by
    apply List.filter_congr
    intro u hu
    rw [List.mem_range] at hu
    rw [List.getElem?_append_left hu]
  simp only [dist] at e1 ⊢
  rw [List.length_append, List.length_singleton, List.range_succ, List.filter_append, e1]
  by_cases h : c = k <;> simp [h]
def psum (people : List Nat) (us : List Nat) : Nat := (us.map fun u => people.getD u 0).sum
theorem psum_snoc (people us : List Nat) (u : Nat) : psum people (us ++ [u]) = psum people us + people.getD u 0 := by simp [psum]
end Bp.Q
set_option Elab.async false
set_option linter.all false
/-! BpM2: plans: the program's list and the law's. -/
namespace Bp.Q
/-- a draft's numbers for plans: people, ties, many, low, high -/
structure Dn where
  people : List Nat
  ties : List (Nat × Nat)
  many : Nat
  low : Nat
  high : Nat
def tyd (ts : List (Nat × Nat)) (a b : Nat) : Bool := decide ((min a b, max a b) ∈ ts)
noncomputable def okDist (d : Dn) (row : List Nat) (k : Nat) : Bool := connB (tyd d.ties) (dist row k) && decide (d.low ≤ psum d.people (dist row k)) && decide (psum d.people (dist row k) ≤ d.high)
noncomputable def fairB (d : Dn) (row : List Nat) : Bool := (List.range d.many).all fun k => okDist d row k
/-- the program's plans -/
noncomputable def plansN (d : Dn) : List (List Nat) := (rowsG d.many d.people.length).filter fun row => decide (cnt row = d.many) && fairB d row
theorem fair_cnt {d : Dn} {row : List Nat} (h1 : ∀ y ∈ row, y < d.many) (h : fairB d row = true) : cnt row = d.many := by
  have h2 := cnt_le h1
  by_cases h3 : cnt row = d.many
  · exact h3
  · exfalso
    have h4 := List.all_eq_true.mp h (d.many - 1) (by rw [List.mem_range]; omega)
    have h5 : dist row (d.many - 1) = [] := by
      rw [List.eq_nil_iff_forall_not_mem]
      intro u hu
      have := lt_cnt (List.mem_of_getElem? (mem_dist.mp hu))
      omega
    simp [okDist, h5, connB_nil] at h4
theorem plansN_eq (d : Dn) : plansN d = (rowsG d.many d.people.length).filter fun row => fairB d row := by
  apply List.filter_congr
  intro row hr
  obtain ⟨h1, h2, h3⟩ := mem_rowsG.mp hr
  cases h : fairB d row with
  | false => simp
  | true => simp [fair_cnt h3 h]
/-- the law's beginnings -/
def rowsL (d : Dn) : Nat → List (List Nat)
  | 0 => [[]]
  | k + 1 => (rowsL d k).flatMap fun row => ((List.range (min d.many (cnt row + 1))).filter fun c => decide (d.people.getD k 0 + psum d.people (dist row c) ≤ d.high)).map fun c => row ++ [c]
def fitB (d : Dn) (row : List Nat) : Bool := (List.range d.many).all fun c => decide (psum d.people (dist row c) ≤ d.high)
theorem flatMap_filter {α β : Type} (f : α → List β) (q : α → Bool) (g : β → Bool) (h : ∀ a, q a = false → ∀ b ∈ f a, g b = false) : ∀ l : List α, ((l.filter q).flatMap fun a => (f a).filter g) = (l.flatMap f).filter g
  | [] => rfl
  | a :: l => by
    rw [List.flatMap_cons, List.filter_append, ← flatMap_filter f q g h l]
    cases hq : q a with
    | true => rw [List.filter_cons_of_pos hq, List.flatMap_cons]
    | false =>
      rw [List.filter_cons_of_neg (by simp [hq])]
      have : (f a).filter g = [] := by
        rw [List.filter_eq_nil_iff]
        intro b hb
        simp [h a hq b hb]
      rw [this]; rfl
theorem fit_snoc {d : Dn} {row : List Nat} {c : Nat} (hc : c < d.many) : fitB d (row ++ [c]) = (fitB d row && decide (d.people.getD row.length 0 + psum d.people (dist row c) ≤ d.high)) := by
  rw [Bool.eq_iff_iff, Bool.and_eq_true]
  simp only [fitB, List.all_eq_true, List.mem_range, decide_eq_true_eq]
  constructor
  · intro h
    have h1 := h c hc
    rw [dist_snoc, if_pos rfl, psum_snoc] at h1
    refine ⟨fun k hk => ?_, by omega⟩
    have h2 := h k hk
    rw [dist_snoc] at h2
    split at h2
    · rw [psum_snoc] at h2; omega
    · exact h2
  · rintro ⟨h1, h2⟩ k hk
    rw [dist_snoc]
    split
    · rename_i e
      subst e
      rw [psum_snoc]; omega
    · exact h1 k hk
theorem rowsL_eq (d : Dn) : ∀ k, rowsL d k = (rowsG d.many k).filter (fitB d)
  | 0 => by
    simp [rowsL, rowsG, fitB, dist, psum]
  | k + 1 => by
    have e : rowsL d (k + 1) = ((rowsG d.many k).filter (fitB d)).flatMap fun row => ((List.range (min (cnt row + 1) d.many)).map fun c => row ++ [c]).filter (fitB d) := by
      rw [rowsL, rowsL_eq d k]
      have go : ∀ l : List (List Nat), (∀ r ∈ l, r.length = k ∧ fitB d r = true) → (l.flatMap fun row => ((List.range (min d.many (cnt row + 1))).filter fun c => decide (d.people.getD k 0 + psum d.people (dist row c) ≤ d.high)).map fun c => row ++ [c]) = l.flatMap fun row => ((List.range (min (cnt row + 1) d.many)).map fun c => row ++ [c]).filter (fitB d) := by
        intro l
        induction l with
        | nil => intro _; rfl
        | cons r l ih =>
          intro h
          obtain ⟨h1, h2⟩ := h r List.mem_cons_self
          rw [List.flatMap_cons, List.flatMap_cons, ih fun x hx => h x (List.mem_cons_of_mem _ hx)]
          congr 1
          rw [List.filter_map, Nat.min_comm]
          congr 1
          apply List.filter_congr
          intro c hc
          rw [List.mem_range] at hc
          simp only [Function.comp]
          rw [fit_snoc (by omega), h2, h1]; rfl
      apply go
      intro r hr
      rw [List.mem_filter, mem_rowsG] at hr
      exact ⟨hr.1.1, hr.2⟩
    rw [e, rowsG]
    have key := flatMap_filter (fun row => if row.length = k then (List.range (min (cnt row + 1) d.many)).map fun c => row ++ [c] else []) (fitB d) (fitB d) ?_ (rowsG d.many k)
    · have h0 : ∀ l : List (List Nat), (∀ r ∈ l, r.length = k) → (l.flatMap fun row => if row.length = k then (List.range (min (cnt row + 1) d.many)).map fun c => row ++ [c] else []) = l.flatMap fun row => (List.range (min (cnt row + 1) d.many)).map fun c => row ++ [c] := by
        intro l
        induction l with
        | nil => intro _; rfl
        | cons r l ih =>
          intro h
          rw [List.flatMap_cons, List.flatMap_cons, ih fun x hx => h x (List.mem_cons_of_mem _ hx), if_pos (h r List.mem_cons_self)]
      have h1 : ∀ l : List (List Nat), (∀ r ∈ l, r.length = k) → (l.flatMap fun row => (if row.length = k then (List.range (min (cnt row + 1) d.many)).map fun c => row ++ [c] else []).filter (fitB d)) = l.flatMap fun row => ((List.range (min (cnt row + 1) d.many)).map fun c => row ++ [c]).filter (fitB d) := by
        intro l
        induction l with
        | nil => intro _; rfl
        | cons r l ih =>
          intro h
          rw [List.flatMap_cons, List.flatMap_cons, ih fun x hx => h x (List.mem_cons_of_mem _ hx), if_pos (h r List.mem_cons_self)]
      rw [h0 _ fun r hr => (mem_rowsG.mp hr).1, h1 _ fun r hr => (mem_rowsG.mp (List.mem_filter.mp hr).1).1] at key
      exact key
    · intro row hq b hb
      split at hb
      · obtain ⟨c, hc, rfl⟩ := List.mem_map.mp hb
        rw [List.mem_range] at hc
        rw [fit_snoc (by omega), hq]; rfl
      · cases hb
theorem fair_fit {d : Dn} {row : List Nat} (h : fairB d row = true) : fitB d row = true := by
  rw [fitB, List.all_eq_true]
  intro k hk
  have := List.all_eq_true.mp h k hk
  simp only [okDist, Bool.and_eq_true] at this
  exact this.2
/-- the law's plans are the program's -/
theorem plansL_eq (d : Dn) : (rowsL d d.people.length).filter (fairB d) = plansN d := by
  rw [rowsL_eq, plansN_eq, List.filter_filter]
  apply List.filter_congr
  intro row _
  cases h : fairB d row with
  | false => rfl
  | true => rw [fair_fit h]; rfl
theorem rowsL_len (d : Dn) (k : Nat) : (rowsL d k).length ≤ d.many ^ k := by
  rw [rowsL_eq]
  exact Nat.le_trans (List.length_filter_le _ _) (rowsG_len _ _)
/-! ### tuples, in order -/
def rlt : List Nat → List Nat → Bool
  | [], b => match b with | [] => false | _ :: _ => true
  | x :: xs, b => match b with | [] => false | y :: ys => if x = y then rlt xs ys else decide (x < y)
theorem rlt_irr : ∀ a : List Nat, rlt a a = false
  | [] => rfl
  | x :: xs => by simp [rlt, rlt_irr xs]
theorem rlt_trans : ∀ a b c : List Nat, rlt a b = true → rlt b c = true → rlt a c = true
  | [], [], c, h, _ => by simp [rlt] at h
  | [], y :: ys, [], _, h => by simp [rlt] at h
  | [], y :: ys, z :: zs, _, _ => by simp [rlt]
  | x :: xs, [], c, h, _ => by simp [rlt] at h
  | x :: xs, y :: ys, [], _, h => by simp [rlt] at h
  | x :: xs, y :: ys, z :: zs, h1, h2 => by
    simp only [rlt] at h1 h2 ⊢
    by_cases e1 : x = y
    · subst e1
      rw [if_pos rfl] at h1
      by_cases e2 : x = z
      · subst e2
        rw [if_pos rfl] at h2 ⊢
        exact rlt_trans xs ys zs h1 h2
      · rw [if_neg e2] at h2 ⊢; exact h2
    · rw [if_neg e1, decide_eq_true_eq] at h1
      by_cases e2 : y = z
      · subst e2
        rw [if_neg e1, decide_eq_true_eq]; exact h1
      · rw [if_neg e2, decide_eq_true_eq] at h2
        rw [if_neg (by omega), decide_eq_true_eq]; omega
theorem rlt_tot : ∀ a b : List Nat, a ≠ b → rlt a b = false → rlt b a = true
  | [], [], h, _ => absurd rfl h
  | [], y :: ys, _, h => by simp [rlt] at h
  | x :: xs, [], _, _ => by simp [rlt]
  | x :: xs, y :: ys, h, h1 => by
    simp only [rlt] at h1 ⊢
    by_cases e : x = y
    · subst e
      rw [if_pos rfl] at h1 ⊢
      exact rlt_tot xs ys (fun q => h (by rw [q])) h1
    · rw [if_neg e] at h1
      simp only [decide_eq_false_iff_not] at h1
      rw [if_neg (fun q => e q.symm), decide_eq_true_eq]; omega
theorem rlt_app : ∀ {a b : List Nat}, a.length = b.length → rlt a b = true → ∀ c d : List Nat, rlt (a ++ c) (b ++ d) = true
  | [], [], _, h, _, _ => by simp [rlt] at h
  | x :: xs, y :: ys, hl, h, c, d => by
    simp only [List.cons_append, rlt] at h ⊢
    by_cases e : x = y
    · rw [if_pos e] at h ⊢
      exact rlt_app (by simpa using hl) h c d
    · rw [if_neg e] at h ⊢; exact h
theorem rlt_pre : ∀ (a c d : List Nat), rlt (a ++ c) (a ++ d) = rlt c d
  | [], c, d => rfl
  | x :: xs, c, d => by simp [rlt, rlt_pre xs c d]
theorem rowsG_asc (many : Nat) : ∀ k, (rowsG many k).Pairwise fun a b => rlt a b = true
  | 0 => by simp [rowsG]
  | k + 1 => by
    rw [rowsG, List.pairwise_flatMap]
    refine ⟨fun row _ => ?_, ?_⟩
    · rw [List.pairwise_map]
      refine (List.pairwise_lt_range).imp ?_
      intro a b h
      rw [rlt_pre]
      simp only [rlt]
      rw [if_neg (by omega), decide_eq_true_eq]; exact h
    · refine List.Pairwise.imp_of_mem (R := fun a b => rlt a b = true) ?_ (rowsG_asc many k)
      intro a b ha hb h x hx y hy
      obtain ⟨c, _, rfl⟩ := List.mem_map.mp hx
      obtain ⟨d, _, rfl⟩ := List.mem_map.mp hy
      exact rlt_app (by rw [(mem_rowsG.mp ha).1, (mem_rowsG.mp hb).1]) h [c] [d]
theorem plansN_asc (d : Dn) : (plansN d).Pairwise fun a b => rlt a b = true := (rowsG_asc _ _).sublist List.filter_sublist
theorem asc_nodup {l : List (List Nat)} (h : l.Pairwise fun a b => rlt a b = true) : l.Nodup := h.imp fun q e => by
  rw [e, rlt_irr] at q; cases q
theorem mem_plansN {d : Dn} {row : List Nat} : row ∈ plansN d ↔ row.length = d.people.length ∧ Rg row ∧ (∀ y ∈ row, y < d.many) ∧ fairB d row = true := by
  rw [plansN_eq, List.mem_filter, mem_rowsG]
  constructor
  · rintro ⟨⟨a, b, c⟩, e⟩; exact ⟨a, b, c, e⟩
  · rintro ⟨a, b, c, e⟩; exact ⟨⟨a, b, c⟩, e⟩
end Bp.Q
set_option Elab.async false
set_option linter.all false
set_option maxRecDepth 100000
/-! BpKit: pure walks: comprehensions and loops over typed lists. -/
namespace Bp.Q
open PySem
theorem eq_of_sat {α : Type} {r : Res α} {a : α} {st : Store} (h : Sat r fun x s => x = a ∧ s = st) : r = .ok a st := by
  obtain ⟨x, s, e, rfl, rfl⟩ := h.ex
  exact e
theorem Sat.eqs {α : Type} {r : Res α} {P : α → Store → Prop} {a : α} {st : Store} (h : Sat r P) (k : ∀ x s, P x s → x = a ∧ s = st) : r = .ok a st := eq_of_sat (h.mono k)
@[simp] theorem rfin_tst_bind {α : Type} (r : Res α) (k : α → Store → Res D) : fin .tst (r.bind k) = r.bind fun a st => fin .tst (k a st) := by cases r <;> rfl
@[simp] theorem wipe_nil (env : Env) : wipeE env [] = env := rfl
@[simp] theorem wipe_cons (env : Env) (v : Nat) (vs : List Nat) : wipeE env (v :: vs) = (wipeE env vs).set v none := rfl
abbrev nD (n : Nat) : D := .int (n : Int)
def rowD (r : List Nat) : D := .tup (r.map nD)
theorem mapGo_typed {α : Type} {f : D → Store → Res (List D)} {st : Store} {enc : α → D} {g : α → List D} : ∀ {ys : List α}, (∀ y ∈ ys, f (enc y) st = .ok (g y) st) → mapGo f (ys.map enc) st = .ok (ys.flatMap g) st
  | [], _ => rfl
  | y :: ys, h => by
    rw [List.map_cons, mapGo, h y List.mem_cons_self, rb_ok, mapGo_typed fun z hz => h z (List.mem_cons_of_mem _ hz), rb_ok]
    rfl
/-- a comprehension over a typed list, nothing is written -/
theorem comp_map {α : Type} {cf : Cf} {vs : List Nat} {tg : Tg} {it : It} {c e : E} {env : Env} {st : Store} (ys : List α) (enc : α → D) (q : α → Bool) (g : α → D)
    (hI : evI cf it env st = .ok (ys.map enc) st)
    (hb : ∀ y ∈ ys, ∃ env', bindT tg (enc y) (wipeE env vs) = some env' ∧ evE cf c .tst env' st = .ok (.bl (q y)) st ∧ (q y = true → evE cf e .frz env' st = .ok (g y) st))
    (hl : ys.length ≤ 16777216) : evE cf (.comp vs tg it c e) .frz env st = .ok (.lst ((ys.filter q).map g)) st := by
  rw [comp_eq, hI, rb_ok, mapGo_typed (g := fun z => if q z then [g z] else [])]
  · have e6 : ∀ l : List α, (l.flatMap fun z => if q z then [g z] else []) = (l.filter q).map g := by
      intro l
      induction l with
      | nil => rfl
      | cons z l ih =>
        rw [List.flatMap_cons, ih]
        cases h : q z with
        | false => rw [List.filter_cons_of_neg (by simp [h])]; rfl
        | true => rw [List.filter_cons_of_pos h, List.map_cons]; rfl
    rw [e6, rb_ok, if_pos]
    simp only [fits, decide_eq_true_eq, List.length_map]
    exact Nat.le_trans (List.length_filter_le _ _) hl
  · intro z hz
    obtain ⟨env', e1, e2, e3⟩ := hb z hz
    simp only [e1, e2, rasBl_ok]
    cases h : q z with
    | false => rfl
    | true => simp only [if_true, e3 h, rb_ok]; rfl
/-- the same, no test -/
theorem comp_mapT {α : Type} {cf : Cf} {vs : List Nat} {tg : Tg} {it : It} {e : E} {env : Env} {st : Store} (ys : List α) (enc : α → D) (g : α → D)
    (hI : evI cf it env st = .ok (ys.map enc) st)
    (hb : ∀ y ∈ ys, ∃ env', bindT tg (enc y) (wipeE env vs) = some env' ∧ evE cf e .frz env' st = .ok (g y) st)
    (hl : ys.length ≤ 16777216) : evE cf (.comp vs tg it (.cst (.bl true)) e) .frz env st = .ok (.lst (ys.map g)) st := by
  rw [comp_map ys enc (fun _ => true) g hI ?_ hl]
  · rw [List.filter_eq_self.mpr (fun _ _ => rfl)]
  · intro y hy
    obtain ⟨env', e1, e2⟩ := hb y hy
    exact ⟨env', e1, rfl, fun _ => e2⟩
theorem comp_brw {cf : Cf} {vs : List Nat} {tg : Tg} {it : It} {c e : E} {env : Env} {st : Store} : evE cf (.comp vs tg it c e) .brw env st = evE cf (.comp vs tg it c e) .frz env st := rfl
theorem comp2_brw {cf : Cf} {vs : List Nat} {tg : Tg} {it : It} {c : E} {vs2 : List Nat} {tg2 : Tg} {it2 : It} {c2 e : E} {env : Env} {st : Store} : evE cf (.comp2 vs tg it c vs2 tg2 it2 c2 e) .brw env st = evE cf (.comp2 vs tg it c vs2 tg2 it2 c2 e) .frz env st := rfl
theorem comp2_eq {cf : Cf} {vs : List Nat} {tg : Tg} {it : It} {c : E} {vs2 : List Nat} {tg2 : Tg} {it2 : It} {c2 e : E} {env : Env} {st : Store} : evE cf (.comp2 vs tg it c vs2 tg2 it2 c2 e) .frz env st = (evI cf it env st).bind fun xs st => (mapGo (fun x st => match bindT tg x (wipeE env vs) with
      | some env2 => (asBl (evE cf c .tst env2 st) fun k st => if k then (evI cf it2 env2 st).bind fun xs2 st => (mapGo (fun x2 st => match bindT tg2 x2 (wipeE env2 vs2) with
          | some env3 => (asBl (evE cf c2 .tst env3 st) fun k st => if k then (evE cf e .frz env3 st).bind fun y st => .ok (.lst [y]) st else .ok (.lst []) st).calm.bind fun d st => Res.of (one? d) st
          | none => .bad) xs2 st).bind fun ys st => .ok (.lst ys) st else .ok (.lst []) st).calm.bind fun d st => Res.of (one? d) st
      | none => .bad) xs st).bind fun ys st => if fits ys.length then .ok (.lst ys) st else .bad := rfl
/-- two fors, nothing is written -/
theorem comp2_map {α β : Type} {cf : Cf} {vs : List Nat} {tg : Tg} {it : It} {c : E} {vs2 : List Nat} {tg2 : Tg} {it2 : It} {c2 e : E} {env : Env} {st : Store}
    (ys : List α) (enc : α → D) (q : α → Bool) (zs : α → List β) (enc2 : β → D) (q2 : α → β → Bool) (g : α → β → D)
    (hI : evI cf it env st = .ok (ys.map enc) st)
    (hb : ∀ y ∈ ys, ∃ env', bindT tg (enc y) (wipeE env vs) = some env' ∧ evE cf c .tst env' st = .ok (.bl (q y)) st ∧ (q y = true → evI cf it2 env' st = .ok ((zs y).map enc2) st ∧
      ∀ z ∈ zs y, ∃ env'', bindT tg2 (enc2 z) (wipeE env' vs2) = some env'' ∧ evE cf c2 .tst env'' st = .ok (.bl (q2 y z)) st ∧ (q2 y z = true → evE cf e .frz env'' st = .ok (g y z) st)))
    (hl : (ys.flatMap fun y => zs y).length ≤ 16777216) :
    evE cf (.comp2 vs tg it c vs2 tg2 it2 c2 e) .frz env st = .ok (.lst ((ys.filter q).flatMap fun y => ((zs y).filter (q2 y)).map (g y))) st := by
  rw [comp2_eq, hI, rb_ok]
  rw [mapGo_typed (g := fun y => if q y then ((zs y).filter (q2 y)).map (g y) else [])]
  · have e1 : ∀ l : List α, (l.flatMap fun y => if q y then ((zs y).filter (q2 y)).map (g y) else []) = (l.filter q).flatMap fun y => ((zs y).filter (q2 y)).map (g y) := by
      intro l
      induction l with
      | nil => rfl
      | cons y l ih =>
        rw [List.flatMap_cons, ih]
        cases h : q y with
        | false => rw [List.filter_cons_of_neg (by simp [h])]; rfl
        | true => rw [List.filter_cons_of_pos h, List.flatMap_cons]; rfl
    have e2 : ∀ l : List α, ((l.filter q).flatMap fun y => ((zs y).filter (q2 y)).map (g y)).length ≤ (l.flatMap fun y => zs y).length := by
      intro l
      induction l with
      | nil => simp
      | cons y l ih =>
        cases h : q y with
        | false => rw [List.filter_cons_of_neg (by simp [h])]; simp only [List.flatMap_cons, List.length_append]; omega
        | true =>
          rw [List.filter_cons_of_pos h]; simp only [List.flatMap_cons, List.length_append, List.length_map]
          have := List.length_filter_le (q2 y) (zs y)
          omega
    rw [rb_ok, e1, if_pos]
    simp only [fits, decide_eq_true_eq]
    exact Nat.le_trans (e2 ys) hl
  · intro y hy
    obtain ⟨env', e1, e2, e3⟩ := hb y hy
    simp only [e1, e2, rasBl_ok]
    cases h : q y with
    | false => rfl
    | true =>
      obtain ⟨e4, e5⟩ := e3 h
      simp only [if_true, e4, rb_ok]
      rw [mapGo_typed (g := fun z => if q2 y z then [g y z] else [])]
      · simp only [rb_ok]
        have e6 : ∀ l : List β, (l.flatMap fun z => if q2 y z then [g y z] else []) = (l.filter (q2 y)).map (g y) := by
          intro l
          induction l with
          | nil => rfl
          | cons z l ih =>
            rw [List.flatMap_cons, ih]
            cases h : q2 y z with
            | false => rw [List.filter_cons_of_neg (by simp [h])]; rfl
            | true => rw [List.filter_cons_of_pos h, List.map_cons]; rfl
        rw [e6]; rfl
      · intro z hz
        obtain ⟨env'', f1, f2, f3⟩ := e5 z hz
        simp only [f1, f2, rasBl_ok]
        cases h : q2 y z with
        | false => rfl
        | true => simp only [if_true, f3 h, rb_ok]; rfl
/-- a loop over a typed list -/
theorem for_typed {α : Type} {cf : Cf} {tg : Tg} {it : It} {b : List S} {env : Env} {st : Store} {P : Out → Store → Prop} (ys : List α) (enc : α → D) (I : List α → Env → Store → Prop)
    (hI : evI cf it env st = .ok (ys.map enc) st) (h0 : I [] env st)
    (hs : ∀ d x r env st, ys = d ++ x :: r → I d env st → ∃ env', bindT tg (enc x) env = some env' ∧ Sat (evSs cf b env' st) fun o st => match o with
      | .nxt env => Hid (I (d ++ [x]) env st)
      | .brk env => P (.nxt env) st
      | .ret d => P (.ret d) st)
    (he : ∀ env st, I ys env st → P (.nxt env) st) : Sat (evS cf (.for_ tg it b) env st) P := by
  refine for_sat (fun dn rest env st => ∃ d r, ys = d ++ r ∧ rest = r.map enc ∧ I d env st) ?_ ?_ ?_
  · rw [hI]
    exact .mk ⟨[], ys, rfl, rfl, h0⟩
  · rintro dn x rest env st ⟨d, r, h1, h2, h3⟩
    cases r with
    | nil => simp at h2
    | cons y r =>
      rw [List.map_cons, List.cons.injEq] at h2
      obtain ⟨rfl, rfl⟩ := h2
      obtain ⟨env', e, h4⟩ := hs d y r env st h1 h3
      refine ⟨env', e, h4.mono fun o st ho => ?_⟩
      cases o with
      | nxt env => exact ⟨d ++ [y], r, by rw [h1]; simp, rfl, ho⟩
      | brk env => exact ho
      | ret d => exact ho
  · rintro dn env st ⟨d, r, h1, h2, h3⟩
    have : r = [] := by cases r with
      | nil => rfl
      | cons y r => simp at h2
    subst this
    rw [List.append_nil] at h1
    exact he env st (h1 ▸ h3)
/-- a while loop: a measure that becomes less -/
theorem whl_sat {cf : Cf} {t : E} {b : List S} {env : Env} {st : Store} {P : Out → Store → Prop} (N : Nat) (hN : N < 1000000) (I : Nat → Env → Store → Prop)
    (h0 : I N env st)
    (hs : ∀ k env st, I k env st → Sat (evE cf t .tst env st) fun q st => Fl q fun q => Br q (0 < k ∧ Sat (evSs cf b env st) fun o st => match o with
      | .nxt env => Hid (∃ j, j < k ∧ I j env st)
      | .brk env => P (.nxt env) st
      | .ret d => P (.ret d) st) (P (.nxt env) st)) : Sat (evS cf (.whl t b) env st) P := by
  have go : ∀ n k env st, k < n → I k env st → Sat (whlGo (fun env st => evE cf t .tst env st) (fun env st => evSs cf b env st) n env st) P := by
    intro n
    induction n with
    | zero => intro k env st h; omega
    | succ n ih =>
      intro k env st hk h
      rw [whlGo, sat_bd]
      refine (hs k env st h).mono fun q st hq => ?_
      cases q with
      | bl q =>
        cases q with
        | false => exact .mk hq
        | true =>
          obtain ⟨hk0, hq⟩ : 0 < k ∧ _ := hq
          rw [sat_bd]
          refine hq.mono fun o st ho => ?_
          cases o with
          | nxt env =>
            obtain ⟨j, hj, hI⟩ : ∃ j, j < k ∧ I j env st := ho
            exact ih j env st (by omega) hI
          | brk env => exact .mk ho
          | ret d => exact .mk ho
      | _ => exact hq.elim
  show Sat (whlGo _ _ turns env st) P
  exact go turns N env st hN h0

/-! ### typed data -/
theorem dat_mono : ∀ (n : Nat), (∀ d, D.dat n d = true → D.dat (n + 1) d = true) ∧ ∀ ds, D.datL n ds = true → D.datL (n + 1) ds = true
  | 0 => by
    have h1 : ∀ d, D.dat 0 d = true → D.dat 1 d = true := by
      intro d h; cases d <;> simp [D.dat] at h ⊢
    refine ⟨h1, ?_⟩
    intro ds
    induction ds with
    | nil => simp [D.datL]
    | cons d ds ih =>
      intro h
      simp only [D.datL, Bool.and_eq_true] at h ⊢
      exact ⟨h1 _ h.1, ih h.2⟩
  | n + 1 => by
    obtain ⟨i1, i2⟩ := dat_mono n
    have h1 : ∀ d, D.dat (n + 1) d = true → D.dat (n + 2) d = true := by
      intro d h; cases d <;> simp [D.dat] at h ⊢ <;> exact i2 _ h
    refine ⟨h1, ?_⟩
    intro ds
    induction ds with
    | nil => simp [D.datL]
    | cons d ds ih =>
      intro h
      simp only [D.datL, Bool.and_eq_true] at h ⊢
      exact ⟨h1 _ h.1, ih h.2⟩
theorem dat_le {n m : Nat} (h : n ≤ m) {d : D} (e : D.dat n d = true) : D.dat m d = true := by
  induction h with
  | refl => exact e
  | step _ ih => exact (dat_mono _).1 _ ih
theorem datL_le {n m : Nat} (h : n ≤ m) {d : List D} (e : D.datL n d = true) : D.datL m d = true := by
  induction h with
  | refl => exact e
  | step _ ih => exact (dat_mono _).2 _ ih
theorem datL_map {α : Type} {n : Nat} {enc : α → D} (h : ∀ a, D.dat n (enc a) = true) : ∀ xs : List α, D.datL n (xs.map enc) = true
  | [] => rfl
  | x :: xs => by simp only [List.map_cons, D.datL, h x, datL_map h xs, Bool.and_self]
theorem row_dat (r : List Nat) : D.dat 1 (rowD r) = true := by
  simp only [rowD, D.dat]
  exact datL_map (fun a => by simp [D.dat]) r
@[simp] theorem row_data (r : List Nat) : D.data (rowD r) = true := dat_le (by decide) (row_dat r)
theorem rows_dat (rs : List (List Nat)) : D.datL 40 (rs.map rowD) = true := datL_map (fun r => dat_le (by decide) (row_dat r)) rs
theorem eqvL_map {α : Type} [DecidableEq α] {enc : α → D} (h : ∀ a b, D.eqv (enc a) (enc b) = decide (a = b)) : ∀ xs ys : List α, D.eqvL (xs.map enc) (ys.map enc) = decide (xs = ys)
  | [], [] => rfl
  | [], _ :: _ => rfl
  | _ :: _, [] => rfl
  | x :: xs, y :: ys => by
    simp only [List.map_cons, D.eqvL, h, eqvL_map h xs ys, List.cons.injEq]
    rw [Bool.eq_iff_iff]; simp
theorem int_eqv (a b : Int) : D.eqv (.int a) (.int b) = decide (a = b) := by
  rw [Bool.eq_iff_iff]; simp [D.eqv]
theorem n_eqv (a b : Nat) : D.eqv (nD a) (nD b) = decide (a = b) := by
  rw [Bool.eq_iff_iff]; simp [D.eqv]; omega
theorem row_eqv (a b : List Nat) : D.eqv (rowD a) (rowD b) = decide (a = b) := by
  simp only [rowD, D.eqv]; exact eqvL_map n_eqv a b
theorem row_inj {a b : List Nat} (h : rowD a = rowD b) : a = b := by
  have := row_eqv a b
  rw [h, row_eqv] at this
  simpa using this
@[simp] theorem row_cm_eq (a b : List Nat) : cmD .eq (rowD a) (rowD b) = some (decide (a = b)) := by
  show (if (D.data (rowD a) && D.data (rowD b)) = true then some (D.eqv (rowD a) (rowD b)) else none) = _
  rw [row_data, row_data, row_eqv]; rfl
theorem row_in (a : List Nat) (rs : List (List Nat)) : inD (rowD a) (rs.map rowD) = some (decide (a ∈ rs)) := by
  unfold inD
  rw [row_data, rows_dat]
  simp only [Bool.and_self, if_true, List.any_map]
  congr 1
  rw [Bool.eq_iff_iff, List.any_eq_true, decide_eq_true_eq]
  constructor
  · rintro ⟨x, hx, h⟩
    have h : D.eqv (rowD x) (rowD a) = true := h
    rw [row_eqv, decide_eq_true_eq] at h
    exact h ▸ hx
  · intro h
    exact ⟨a, h, by show D.eqv (rowD a) (rowD a) = true; rw [row_eqv]; simp⟩
theorem n_in (a : Nat) (rs : List Nat) : inD (nD a) (rs.map nD) = some (decide (a ∈ rs)) := by
  unfold inD
  rw [show D.data (nD a) = true by simp [D.data, D.dat], datL_map (fun a => by simp [D.dat])]
  simp only [Bool.and_self, if_true, List.any_map]
  congr 1
  rw [Bool.eq_iff_iff, List.any_eq_true, decide_eq_true_eq]
  constructor
  · rintro ⟨x, hx, h⟩
    have h : D.eqv (nD x) (nD a) = true := h
    rw [n_eqv, decide_eq_true_eq] at h
    exact h ▸ hx
  · intro h
    exact ⟨a, h, by show D.eqv (nD a) (nD a) = true; rw [n_eqv]; simp⟩
theorem bools_map {α : Type} (f : α → Bool) : ∀ ys : List α, boolsD (ys.map fun y => .bl (f y)) = some (ys.map f)
  | [] => rfl
  | y :: ys => by simp only [List.map_cons, boolsD, bools_map f ys, Option.map_some]
theorem ints_map {α : Type} (f : α → Int) : ∀ ys : List α, intsD (ys.map fun y => .int (f y)) = some (ys.map f)
  | [] => rfl
  | y :: ys => by simp only [List.map_cons, intsD, ints_map f ys, Option.map_some]
@[simp] theorem bi_all {α : Type} (f : α → Bool) (ys : List α) : biD .all [.lst (ys.map fun y => .bl (f y))] = some (.bl (ys.all f)) := by
  show (boolsD _).map _ = _
  rw [bools_map]; simp [List.all_map]
@[simp] theorem bi_any {α : Type} (f : α → Bool) (ys : List α) : biD .any [.lst (ys.map fun y => .bl (f y))] = some (.bl (ys.any f)) := by
  show (boolsD _).map _ = _
  rw [bools_map]; simp [List.any_map]
@[simp] theorem bi_sum {α : Type} (f : α → Int) (ys : List α) : biD .sum [.lst (ys.map fun y => .int (f y))] = some (.int (ys.map f).sum) := by
  show ((D.items (.lst _)).bind intsD).map _ = _
  show (intsD _).map _ = _
  rw [ints_map]; rfl
theorem rng1_nat {n : Nat} (h : n < 100000000) : rng1D (.int n) = some ((List.range n).map nD) := by
  have hr : range62 (n : Int) = true := by simp [range62]; omega
  have go : ∀ (n lo : Nat), upto (lo : Int) n = ((List.range' lo n).map nD) := by
    intro n
    induction n with
    | zero => intro lo; rfl
    | succ n ih =>
      intro lo
      rw [upto, List.range'_succ, List.map_cons, show ((lo : Int) + 1) = ((lo + 1 : Nat) : Int) by omega, ih]
  show (if range62 n = true then some (upto 0 (n : Int).toNat) else none) = _
  rw [hr, if_pos rfl, Int.toNat_natCast, show (0 : Int) = ((0 : Nat) : Int) from rfl, go, List.range_eq_range']
theorem rng2_nat {a b : Nat} (h : a < 100000000) (h2 : b < 100000000) : rng2D (.int a) (.int b) = some ((List.range' a (b - a)).map nD) := by
  have hr : range62 (a : Int) = true := by simp [range62]; omega
  have hr2 : range62 (b : Int) = true := by simp [range62]; omega
  have go : ∀ (n lo : Nat), upto (lo : Int) n = ((List.range' lo n).map nD) := by
    intro n
    induction n with
    | zero => intro lo; rfl
    | succ n ih =>
      intro lo
      rw [upto, List.range'_succ, List.map_cons, show ((lo : Int) + 1) = ((lo + 1 : Nat) : Int) by omega, ih]
  show (if (range62 a && range62 b) = true then some (upto a ((b : Int) - a).toNat) else none) = _
  rw [hr, hr2]
  simp only [Bool.and_self, if_true]
  rw [go, show ((b : Int) - (a : Int)).toNat = b - a by omega]
end Bp.Q
set_option Elab.async false
set_option linter.all false
set_option maxRecDepth 100000
/-! BpP1: the program's kinds, lands, drafts. -/
namespace Bp.Q
open PySem
/-- kinds -/
structure Kd (p : Prog) : Prop where
  f1 : (p.fd 1 = some c1 ∧ p.fd 0 = some c0) ∨ (p.fd 1 = some c1_1 ∧ p.fd 206 = some c206)
  f2 : p.fd 2 = some c2
  f3 : p.fd 3 = some c3
  f4 : p.fd 4 = some c4
  nc : 2 ≤ p.nc
  fs0 : p.fs 0 = [0, 1, 2, 3]
  fs1 : p.fs 1 = [4, 5, 6, 7]
def wiB (d : D) (lo hi : Int) : Bool := match d with
  | .int i => decide (lo ≤ i) && decide (i ≤ hi)
  | _ => false
def isIntB (d : D) : Bool := match d with
  | .int _ => true
  | _ => false
def tuB (d : D) (lo hi : Int) : Bool := match d with
  | .tup ds => decide (lo ≤ ds.length) && decide ((ds.length : Int) ≤ hi)
  | _ => false
def awB (d : D) (many lo hi : Int) : Bool := match d with
  | .tup ds => decide ((ds.length : Int) = many) && ds.all fun x => wiB x lo hi
  | _ => false
/-- data to look at: no cell, no script -/
def lookD (nc : Nat) (d : D) : Prop := isD nc d = true ∧ ∀ ds, d = .tup ds → ∀ x ∈ ds, isD nc x = true
section
variable {p : Prog} (H : Kd p) {n : Nat} {st : Store}
include H
theorem sp_within {d : D} (hd : isD p.nc d = true) (lo hi : Int) : p.cl (n + 2) 1 [d, .int lo, .int hi] st = .ok (.bl (wiB d lo hi)) st := by
  have key : ∀ i : Int, (if lo ≤ i then Res.ok (D.bl (decide (i ≤ hi))) st else Res.ok (D.bl false) st) = .ok (.bl (decide (lo ≤ i) && decide (i ≤ hi))) st := by
    intro i
    by_cases h : lo ≤ i <;> simp [h]
  rcases H.f1 with ⟨h1, h0⟩ | ⟨h1, h0⟩
  · have hI : p.cl (n + 1) 0 [d] st = .ok (.bl (isIntB d)) st := by
      rw [cl_step h0 rfl]
      cases d <;> simp [isD] at hd <;> simp [c0, isD, Ty.has, isIntB, hd]
    rw [cl_step h1 rfl]
    cases d <;> simp [c1, hI, isIntB, wiB, key]
  · have hI : p.cl (n + 1) 206 [d] st = .ok (.bl (isIntB d)) st := by
      rw [cl_step h0 rfl]
      cases d <;> simp [isD] at hd <;> simp [c206, isD, Ty.has, isIntB, hd]
    rw [cl_step h1 rfl]
    cases d <;> simp [c1_1, hI, isIntB, wiB, key]
theorem sp_tuple {d : D} (hd : isD p.nc d = true) (lo hi : Int) : p.cl (n + 1) 2 [d, .int lo, .int hi] st = .ok (.bl (tuB d lo hi)) st := by
  rw [cl_step H.f2 rfl]
  cases d with
  | tup ds => by_cases h : lo ≤ ds.length <;> simp [c2, isD, Ty.has, tuB, h]
  | _ => simp_all [c2, isD, Ty.has, tuB]
theorem sp_are_within {d : D} (hd : lookD p.nc d) (many lo hi : Int) (hm : many ≤ 16777216) : p.cl (n + 3) 3 [d, .int many, .int lo, .int hi] st = .ok (.bl (awB d many lo hi)) st := by
  rw [cl_step H.f3 rfl]
  simp [c3, sp_tuple H hd.1]
  cases d with
  | tup ds =>
    by_cases h : (ds.length : Int) = many
    · rw [comp_brw, comp_mapT ds id (fun x => .bl (wiB x lo hi)) (by simp) ?_ (by omega)]
      · simp [tuB, awB, h]
      · intro y hy
        exact ⟨_, rfl, by simp [sp_within H (hd.2 ds rfl y hy)]⟩
    · have h1 : tuB (.tup ds) many many = false := by simp [tuB]; omega
      simp [h1, awB, h]
  | _ => simp [tuB, awB]
end
end Bp.Q
set_option Elab.async false
set_option linter.all false
set_option maxRecDepth 100000


/-! BpP2: lands and drafts made. -/
namespace Bp.Q
open PySem
structure LandV where
  people : List Nat
  leads : List Int
  ties : List (Nat × Nat)
  deriving DecidableEq
def LandV.n (l : LandV) : Nat := l.people.length
structure LandV.Ok (l : LandV) : Prop where
  n1 : 1 ≤ l.people.length
  n8 : l.people.length ≤ 8
  pl : ∀ x ∈ l.people, x ≤ 99
  ll : l.leads.length = l.people.length
  lb : ∀ x ∈ l.leads, -99 ≤ x ∧ x ≤ 99
  ties : TiesOk l.people.length l.ties
def mates (n : Nat) (ts : List (Nat × Nat)) (u : Nat) : List Nat := (List.range n).filter fun o => tyd ts u o
def leadsD (ls : List Int) : D := .tup (ls.map .int)
def tiesD (ts : List (Nat × Nat)) : D := .tup (ts.map tieD)
def lstD (r : List Nat) : D := .lst (r.map nD)
def matesD (n : Nat) (ts : List (Nat × Nat)) : D := .lst ((List.range n).map fun u => lstD (mates n ts u))
def landD (l : LandV) : D := .obj 0 [rowD l.people, leadsD l.leads, tiesD l.ties, matesD l.people.length l.ties]
structure DraftV where
  land : LandV
  many : Nat
  low : Nat
  high : Nat
  deriving DecidableEq
structure DraftV.Ok (d : DraftV) : Prop where
  land : d.land.Ok
  m1 : 1 ≤ d.many
  m4 : d.many ≤ 4
  lh : d.low ≤ d.high
  hi : d.high ≤ 999
def draftD (d : DraftV) : D := .obj 1 [landD d.land, nD d.many, nD d.low, nD d.high]
/-- lands -/
structure Ld (p : Prog) : Prop extends Kd p where
  f5 : p.fd 5 = some c5
  f6 : p.fd 6 = some c6
  f7 : (p.fd 7 = some c7 ∧ p.con 1 = some (.int 16)) ∨ (p.fd 7 = some c7_1 ∧ p.con 8 = some (.int 16))
  f8 : (p.fd 8 = some c8 ∧ p.con 3 = some (.int 99)) ∨ (p.fd 8 = some c8_1 ∧ p.con 10 = some (.int 99))
  f11 : p.fd 11 = some c11
  f12 : p.fd 12 = some c12
  f13 : p.fd 13 = some c13
  g0 : p.con 0 = some (.int 8)
  g2 : p.con 2 = some (.int 99)
  g4 : p.con 4 = some (.int 4)
  g5 : p.con 5 = some (.int 999)
  i0 : p.ini 0 = some 8
  i1 : p.ini 1 = some 13
theorem look_row {nc : Nat} (r : List Nat) : lookD nc (rowD r) := ⟨rfl, by
  intro ds h x hx
  cases h
  obtain ⟨a, _, rfl⟩ := List.mem_map.mp hx
  rfl⟩
theorem look_leads {nc : Nat} (r : List Int) : lookD nc (leadsD r) := ⟨rfl, by
  intro ds h x hx
  cases h
  obtain ⟨a, _, rfl⟩ := List.mem_map.mp hx
  rfl⟩
theorem look_tie {nc : Nat} (t : Nat × Nat) : lookD nc (tieD t) := ⟨rfl, by
  intro ds h x hx
  cases h
  simp at hx
  rcases hx with rfl | rfl <;> rfl⟩
/-- ascending, by places -/
def ascB {α : Type} (lt : α → α → Bool) (l : List α) : Bool := (List.range' 1 (l.length - 1)).all fun i => match l[i - 1]?, l[i]? with
  | some a, some b => lt a b
  | _, _ => true
theorem ascB_iff {α : Type} {lt : α → α → Bool} {l : List α} : ascB lt l = true ↔ ∀ i (h : i + 1 < l.length), lt l[i] l[i + 1] = true := by
  simp only [ascB, List.all_eq_true, List.mem_range'_1]
  constructor
  · intro h i hi
    have := h (i + 1) (by omega)
    rw [show i + 1 - 1 = i by omega, List.getElem?_eq_getElem (by omega), List.getElem?_eq_getElem hi] at this
    exact this
  · intro h i hi
    obtain ⟨j, rfl⟩ : ∃ j, i = j + 1 := ⟨i - 1, by omega⟩
    rw [show j + 1 - 1 = j by omega, List.getElem?_eq_getElem (by omega), List.getElem?_eq_getElem (show j + 1 < l.length by omega)]
    exact h j (by omega)
theorem ascB_of {α : Type} {lt : α → α → Bool} {l : List α} (h : l.Pairwise fun a b => lt a b = true) : ascB lt l = true := by
  rw [ascB_iff]
  intro i hi
  exact List.pairwise_iff_getElem.mp h i (i + 1) (by omega) hi (by omega)
theorem ascB_pw {α : Type} {lt : α → α → Bool} (tr : ∀ a b c, lt a b = true → lt b c = true → lt a c = true) {l : List α} (h : ascB lt l = true) : l.Pairwise fun a b => lt a b = true := by
  rw [ascB_iff] at h
  rw [List.pairwise_iff_getElem]
  intro i j hi hj hij
  obtain ⟨k, rfl⟩ : ∃ k, j = i + 1 + k := ⟨j - i - 1, by omega⟩
  clear hij
  induction k with
  | zero => exact h i hj
  | succ k ih => exact tr _ _ _ (ih (by omega)) (h (i + 1 + k) hj)
theorem lt_data {a b : D} (h1 : a.data = true) (h2 : b.data = true) (h3 : D.alike a b = true) (h4 : a.isNon = false) : cmD .lt a b = some (D.lt a b) := by
  show (if (a.data && b.data && D.alike a b && !a.isNon) = true then some (D.lt a b) else none) = _
  rw [h1, h2, h3, h4]; rfl
@[simp] theorem tie_cm_lt (a b : Nat × Nat) : cmD .lt (tieD a) (tieD b) = some (lexB a b) := by
  rw [lt_data (tie_dat 39 a) (tie_dat 39 b) (tie_alike a b) rfl, tie_lt]
section
variable {p : Prog} {n : Nat} {st : Store}
theorem sp_ascending (H : Kd p) {α : Type} (enc : α → D) (lt : α → α → Bool) (h : ∀ a b, cmD .lt (enc a) (enc b) = some (lt a b)) (l : List α) (hl : l.length < 100000) : p.cl (n + 1) 4 [.tup (l.map enc)] st = .ok (.bl (ascB lt l)) st := by
  rw [cl_step H.f4 rfl]
  have h1 : rng2D (.int 1) (.int l.length) = some ((List.range' 1 (l.length - 1)).map nD) := rng2_nat (a := 1) (by decide) (by omega)
  simp [c4]
  rw [comp_brw, comp_mapT (List.range' 1 (l.length - 1)) nD (fun i => .bl (match l[i - 1]?, l[i]? with
    | some a, some b => lt a b
    | _, _ => true)) (by simp -dsimp -implicitDefEqProofs [h1]) ?_ (by rw [List.length_range']; omega)]
  · have e1 : biD .all [.lst ((List.range' 1 (l.length - 1)).map fun i => D.bl (match l[i - 1]?, l[i]? with
      | some a, some b => lt a b
      | _, _ => true))] = some (.bl (ascB lt l)) := bi_all _ _
    simp [e1]
  · intro i hi
    rw [List.mem_range'_1] at hi
    refine ⟨_, rfl, ?_⟩
    have a1 : (l.map enc)[i - 1]? = some (enc (l[i - 1]'(by omega))) := by rw [List.getElem?_map, List.getElem?_eq_getElem (by omega)]; rfl
    have a2 : (l.map enc)[i]? = some (enc (l[i]'(by omega))) := by rw [List.getElem?_map, List.getElem?_eq_getElem (by omega)]; rfl
    have b1 : idxD st (.tup (l.map enc)) (.int ((i : Int) - 1)) = some (enc (l[i - 1]'(by omega))) := by
      rw [show (i : Int) - 1 = ((i - 1 : Nat) : Int) by omega]; exact idx_tup a1
    have b2 : idxD st (.tup (l.map enc)) (.int i) = some (enc (l[i]'(by omega))) := idx_tup a2
    have b3 : (match l[i - 1]?, l[i]? with
      | some a, some b => lt a b
      | _, _ => true) = lt (l[i - 1]'(by omega)) (l[i]'(by omega)) := by
      rw [List.getElem?_eq_getElem (show i - 1 < l.length by omega), List.getElem?_eq_getElem (show i < l.length by omega)]
    rw [b3]
    simp -dsimp -implicitDefEqProofs [b1, b2, h]
theorem sp_are_people (H : Ld p) {l : List Nat} (h1 : 1 ≤ l.length) (h8 : l.length ≤ 8) (hp : ∀ x ∈ l, x ≤ 99) : p.cl (n + 3) 5 [rowD l] st = .ok (.bl true) st := by
  rw [cl_step H.f5 rfl]
  have e1 : tuB (rowD l) 1 8 = true := by simp [tuB, rowD]; omega
  simp [c5, sp_tuple H.toKd (look_row l).1, H.g0, e1]
  rw [comp_brw, comp_mapT l nD (fun x => .bl true) (by simp [rowD]) ?_ (by omega)]
  · simp
  · intro x hx
    have := hp x hx
    have e2 : wiB (.int (x : Int)) 0 99 = true := by simp [wiB]; omega
    refine ⟨_, rfl, ?_⟩
    simp [wipeE, H.g2, sp_within H.toKd (d := .int (x : Int)) rfl, e2]
theorem sp_are_leads (H : Ld p) {l : List Int} {k : Nat} (hk : l.length = k) (h8 : k ≤ 8) (hp : ∀ x ∈ l, -99 ≤ x ∧ x ≤ 99) : p.cl (n + 3) 3 [leadsD l, .int k, .int (-99), .int 99] st = .ok (.bl true) st := by
  rw [sp_are_within H.toKd (look_leads l) _ _ _ (by omega)]
  have : awB (leadsD l) k (-99) 99 = true := by
    simp [awB, leadsD, hk, wiB]
    exact hp
  rw [this]
theorem sp_is_pair (H : Ld p) {t : Nat × Nat} {k : Nat} (h1 : t.1 < t.2) (h2 : t.2 < k) : p.cl (n + 4) 6 [tieD t, .int k] st = .ok (.bl true) st := by
  rw [cl_step H.f6 rfl]
  have e1 : awB (tieD t) 2 0 ((k : Int) - 1) = true := by simp [awB, tieD, wiB]; omega
  have e2 : idxD st (tieD t) (.int 0) = some (nD t.1) := rfl
  have e3 : idxD st (tieD t) (.int 1) = some (nD t.2) := rfl
  simp [c6, sp_are_within H.toKd (look_tie t) _ _ _ (show (2 : Int) ≤ 16777216 by decide), e1, e2, e3, h1]
theorem sp_are_ties (H : Ld p) {l : List (Nat × Nat)} {k : Nat} (h : TiesOk k l) : p.cl (n + 6) 7 [tiesD l, .int k] st = .ok (.bl true) st := by
  have hl := h.len
  have e1 : tuB (tiesD l) 0 16 = true := by simp [tuB, tiesD]; omega
  have e2 : ∀ n, p.cl (n + 1) 4 [tiesD l] st = .ok (.bl true) st := fun n => by
    rw [show tiesD l = .tup (l.map tieD) from rfl, sp_ascending H.toKd tieD lexB tie_cm_lt l (by omega), ascB_of h.asc]
  rcases H.f7 with ⟨h1, h0⟩ | ⟨h1, h0⟩
  · rw [cl_step h1 rfl]
    simp [c7, sp_tuple H.toKd (d := tiesD l) rfl, h0, e1]
    rw [comp_brw, comp_mapT l tieD (fun x => .bl true) (by simp [tiesD]) ?_ (by omega)]
    · have e3 : biD .all [.lst (l.map fun x => D.bl true)] = some (.bl (l.all fun _ => true)) := bi_all _ _
      simp [e3, e2]
    · intro t ht
      exact ⟨_, rfl, by simp [wipeE, sp_is_pair H (h.inn t ht).1 (h.inn t ht).2]⟩
  · rw [cl_step h1 rfl]
    simp [c7_1, sp_tuple H.toKd (d := tiesD l) rfl, h0, e1]
    rw [comp_brw, comp_mapT l tieD (fun x => .bl true) (by simp [tiesD]) ?_ (by omega)]
    · have e3 : biD .all [.lst (l.map fun x => D.bl true)] = some (.bl (l.all fun _ => true)) := bi_all _ _
      simp [e3, e2]
    · intro t ht
      exact ⟨_, rfl, by simp [wipeE, sp_is_pair H (h.inn t ht).1 (h.inn t ht).2]⟩
end
end Bp.Q
set_option Elab.async false
set_option linter.all false
set_option maxRecDepth 100000
/-! BpP3: lands and drafts made. -/
namespace Bp.Q
open PySem
theorem bi_min2_n (a b : Nat) : biD .min2 [.int (a : Int), .int (b : Int)] = some (.int ((min a b : Nat) : Int)) := by
  rw [bi_min2]
  congr 2
  split <;> omega
theorem bi_max2_n (a b : Nat) : biD .max2 [.int (a : Int), .int (b : Int)] = some (.int ((max a b : Nat) : Int)) := by
  rw [bi_max2]
  congr 2
  split <;> omega
theorem tie_fold (a b : Nat) : D.tup [.int (a : Int), .int (b : Int)] = tieD (a, b) := rfl
section
variable {p : Prog} {n : Nat} {st : Store}
/-- the land's own tail: fields, the mates -/
theorem sp_land_tail (H : Ld p) {l : LandV} (hl : l.Ok) (st : Store) : Sat (evSs (p.cf (n + 5)) (c8.body.drop 3) [some (.val (.ref st.length)), some (.val (rowD l.people)), some (.val (leadsD l.leads)), some (.val (tiesD l.ties)), none, none] (st ++ [.inst 0 []]))
    (outP fun d st' => d = .non ∧ st' = st ++ [.inst 0 [(0, rowD l.people), (1, leadsD l.leads), (2, tiesD l.ties), (3, .ref (st.length + 1))], .lst ((List.range l.people.length).map fun u => lstD (mates l.people.length l.ties u))]) := by
  have h8 := hl.n8
  have nc0 : 0 < p.nc := Nat.lt_of_lt_of_le (by decide) H.nc
  have i0 : ∀ (fs : List (Nat × D)) (r : List Cell), instAt (st ++ .inst 0 fs :: r) st.length = some (0, fs) := fun fs r => by simp [instAt]
  have s0 : ∀ (c : Cell) (x : Cell) (r : List Cell), (st ++ c :: r).set st.length x = st ++ x :: r := fun c x r => by simp
  have f0 : ∀ (fs : List (Nat × D)) (r : List Cell) (k : Nat) (d : D), fs.length < 1000 → fsetS p.nc (st ++ .inst 0 fs :: r) (.ref st.length) k d = some (st ++ .inst 0 (putA k d fs) :: r) := fun fs r k d hf => by
    simp only [fsetS, refD, Option.bind_some, i0, s0]
    rw [if_pos ⟨hf, nc0⟩]
  have r0 : rng1D (.int (l.people.length : Int)) = some ((List.range l.people.length).map nD) := rng1_nat (by omega)
  have ln : ∀ st : Store, biD .len [rowD l.people] = some (.int l.people.length) := fun st => by simp [rowD]
  simp -dsimp -implicitDefEqProofs [c8, f0, putA, fits]
  refine for_typed (List.range l.people.length) nD (fun d env st' => ∃ x4, env = [some (.val (.ref st.length)), some (.val (rowD l.people)), some (.val (leadsD l.leads)), some (.val (tiesD l.ties)), x4, none] ∧ st' = st ++ [.inst 0 [(0, rowD l.people), (1, leadsD l.leads), (2, tiesD l.ties), (3, .ref (st.length + 1))], .lst (d.map fun u => lstD (mates l.people.length l.ties u))]) ?_ ?_ ?_ ?_
  · simp -dsimp -implicitDefEqProofs [ln st, r0]
  · exact ⟨_, rfl, rfl⟩
  · rintro d u r _ _ hd ⟨x4, rfl, rfl⟩
    refine ⟨_, rfl, ?_⟩
    have hdl : d.length < l.people.length := by
      have := congrArg List.length hd
      simp at this; omega
    have e1 : ∀ (fs : List (Nat × D)) (c : Cell), fldD (p.cf (n + 5)) (st ++ [.inst 0 ((0, rowD l.people) :: (1, leadsD l.leads) :: (2, tiesD l.ties) :: (3, .ref (st.length + 1)) :: fs), c]) (.ref st.length) 3 = some (.ref (st.length + 1)) := fun fs c => by
      simp [fldD, nc0, List.lookup]
    have e2 : ∀ (c : Cell) (ds : List D), isCell (st ++ [c, .lst ds]) (.ref (st.length + 1)) = true := fun c ds => by
      simp [isCell, refD, cellAt]
    have e3 : ∀ (c : Cell) (ds : List D) (x : D), ds.length < 16777216 → cpushS (st ++ [c, .lst ds]) (.ref (st.length + 1)) x = some (st ++ [c, .lst (ds ++ [x])]) := fun c ds x h => by
      simp [cpushS, refD, cellAt, h]
    simp -dsimp -implicitDefEqProofs [e1, e2]
    refine Sat.of_eq (comp_map (List.range l.people.length) nD (fun o => tyd l.ties u o) nD (by simp -dsimp -implicitDefEqProofs [ln st, r0]) ?_ (by simp; omega)) ?_
    · intro o ho
      refine ⟨_, rfl, ?_, fun _ => by simp -dsimp -implicitDefEqProofs [wipeE]⟩
      have t2 : cmD .isin (tieD (min u o, max u o)) (tiesD l.ties) = some (tyd l.ties u o) := tie_in _ _
      simp -dsimp -implicitDefEqProofs [fits, bi_min2_n, bi_max2_n, -bi_min2, -bi_max2, tie_fold, t2]
    · simp -dsimp -implicitDefEqProofs [e3 _ _ _ (show (List.map (fun u => lstD (mates l.people.length l.ties u)) d).length < 16777216 by rw [List.length_map]; omega)]
      exact hid ⟨_, rfl, by rw [List.map_append]; rfl⟩
  · rintro _ _ ⟨x4, rfl, rfl⟩
    simp
theorem norefL_map {α : Type} {enc : α → D} (h : ∀ a, D.noref (enc a) = true) : ∀ xs : List α, D.norefL (xs.map enc) = true
  | [] => by simp [D.norefL]
  | x :: xs => by simp [D.norefL, h x, norefL_map h xs]
theorem noref_row (r : List Nat) : D.noref (rowD r) = true := by simp only [rowD, D.noref]; exact norefL_map (fun a => by simp [D.noref]) r
theorem noref_leads (r : List Int) : D.noref (leadsD r) = true := by simp only [leadsD, D.noref]; exact norefL_map (fun a => by simp [D.noref]) r
theorem noref_tie (t : Nat × Nat) : D.noref (tieD t) = true := by simp [tieD, D.noref, D.norefL]
theorem noref_ties (r : List (Nat × Nat)) : D.noref (tiesD r) = true := by simp only [tiesD, D.noref]; exact norefL_map noref_tie r
theorem noref_lst (r : List Nat) : D.noref (lstD r) = true := by simp only [lstD, D.noref]; exact norefL_map (fun a => by simp [D.noref]) r
theorem noref_land (l : LandV) : D.noref (landD l) = true := by
  have h : D.noref (matesD l.people.length l.ties) = true := by simp only [matesD, D.noref]; exact norefL_map (fun u => noref_lst _) _
  simp [landD, D.noref, D.norefL, noref_row, noref_leads, noref_ties, h]
theorem sp_land_init (H : Ld p) {l : LandV} (hl : l.Ok) (st : Store) : p.cl (n + 7) 8 [.ref st.length, rowD l.people, leadsD l.leads, tiesD l.ties] (st ++ [.inst 0 []]) = .ok .non (st ++ [.inst 0 [(0, rowD l.people), (1, leadsD l.leads), (2, tiesD l.ties), (3, .ref (st.length + 1))], .lst ((List.range l.people.length).map fun u => lstD (mates l.people.length l.ties u))]) := by
  have ln : biD .len [rowD l.people] = some (.int l.people.length) := by simp [rowD]
  have a1 := fun st => sp_are_people (n := n + 3) (st := st) H hl.n1 hl.n8 hl.pl
  have a2 := fun st => sp_are_leads (n := n + 3) (st := st) H hl.ll hl.n8 hl.lb
  have a3 := fun st => sp_are_ties (n := n) (st := st) H hl.ties
  have fin := sp_land_tail (n := n + 1) H hl st
  rcases H.f8 with ⟨h1, h0⟩ | ⟨h1, h0⟩
  · refine eq_of_sat (sat_cl h1 rfl (sat_cut 3 (fun env st' => env = [some (.val (.ref st.length)), some (.val (rowD l.people)), some (.val (leadsD l.leads)), some (.val (tiesD l.ties)), none, none] ∧ st' = st ++ [.inst 0 []]) ?_ ?_))
    · simp -dsimp -implicitDefEqProofs [c8, a1, a2, a3, ln, h0, negD]
      exact hid ⟨rfl, rfl⟩
    · rintro _ _ ⟨rfl, rfl⟩
      exact fin
  · refine eq_of_sat (sat_cl h1 rfl (sat_cut 3 (fun env st' => env = [some (.val (.ref st.length)), some (.val (rowD l.people)), some (.val (leadsD l.leads)), some (.val (tiesD l.ties)), none, none] ∧ st' = st ++ [.inst 0 []]) ?_ ?_))
    · simp -dsimp -implicitDefEqProofs [c8_1, a1, a2, a3, ln, h0, negD]
      exact hid ⟨rfl, rfl⟩
    · rintro _ _ ⟨rfl, rfl⟩
      exact fin
theorem sp_mk_land (H : Ld p) {l : LandV} (hl : l.Ok) (st : Store) : mkR (p.cf (n + 7)) 0 [rowD l.people, leadsD l.leads, tiesD l.ties] st = .ok (landD l) st := by
  have nl : D.norefL ((List.range l.people.length).map fun u => lstD (mates l.people.length l.ties u)) = true := norefL_map (fun u => noref_lst _) _
  have d1 : ∀ st n d, D.noref d = true → (∀ j, d ≠ .ref j) → derefD st n d = some d := by
    intro st n d h hd
    cases d with
    | ref j => exact absurd rfl (hd j)
    | _ => simp [derefD, h]
  unfold mkR
  rw [rcf_ini, H.i0]
  simp only [rcf_cl, sp_land_init (n := n) H hl st]
  rw [List.take_left, beqS_refl]
  simp only [if_true, List.getElem?_append_right (Nat.le_refl _), Nat.sub_self, List.getElem?_cons_zero, rcf_fs, H.fs0, List.map_cons, List.map_nil, true_and, and_self]
  have d2 : derefD (st ++ [.inst 0 [(0, rowD l.people), (1, leadsD l.leads), (2, tiesD l.ties), (3, .ref (st.length + 1))], .lst ((List.range l.people.length).map fun u => lstD (mates l.people.length l.ties u))]) st.length (.ref (st.length + 1)) = some (matesD l.people.length l.ties) := by
    simp [derefD, nl, matesD]
  rw [derefs, derefs, derefs, derefs, derefs, d2, d1 _ _ _ (noref_row _) (by intro j h; cases h), d1 _ _ _ (noref_leads _) (by intro j h; cases h), d1 _ _ _ (noref_ties _) (by intro j h; cases h)]
  rfl
theorem sp_draft_init (H : Ld p) {d : DraftV} (hd : d.Ok) (st : Store) : p.cl (n + 3) 13 [.ref st.length, landD d.land, nD d.many, nD d.low, nD d.high] (st ++ [.inst 1 []]) = .ok .non (st ++ [.inst 1 [(4, landD d.land), (5, nD d.many), (6, nD d.low), (7, nD d.high)]]) := by
  have nc0 : 1 < p.nc := Nat.lt_of_lt_of_le (by decide) H.nc
  have i0 : ∀ (fs : List (Nat × D)) (r : List Cell), instAt (st ++ .inst 1 fs :: r) st.length = some (1, fs) := fun fs r => by simp [instAt]
  have s0 : ∀ (c : Cell) (x : Cell) (r : List Cell), (st ++ c :: r).set st.length x = st ++ x :: r := fun c x r => by simp
  have f0 : ∀ (fs : List (Nat × D)) (r : List Cell) (k : Nat) (d : D), fs.length < 1000 → fsetS p.nc (st ++ .inst 1 fs :: r) (.ref st.length) k d = some (st ++ .inst 1 (putA k d fs) :: r) := fun fs r k d hf => by
    simp only [fsetS, refD, Option.bind_some, i0, s0]
    rw [if_pos ⟨hf, nc0⟩]
  have m1 := hd.m1
  have m4 := hd.m4
  have lh := hd.lh
  have hi := hd.hi
  have w1 : wiB (nD d.many) 1 4 = true := by simp [wiB]; omega
  have w2 : wiB (nD d.low) 0 999 = true := by simp [wiB]; omega
  have w3 : wiB (nD d.high) d.low 999 = true := by simp [wiB]; omega
  refine eq_of_sat (sat_cl H.f13 rfl ?_)
  simp -dsimp -implicitDefEqProofs [c13, sp_within H.toKd (d := .int _) rfl, H.g4, H.g5, w1, w2, w3, f0, putA]
theorem sp_mk_draft (H : Ld p) {d : DraftV} (hd : d.Ok) (st : Store) : mkR (p.cf (n + 3)) 1 [landD d.land, nD d.many, nD d.low, nD d.high] st = .ok (draftD d) st := by
  have d1 : ∀ st n d, D.noref d = true → (∀ j, d ≠ .ref j) → derefD st n d = some d := by
    intro st n d h hd
    cases d with
    | ref j => exact absurd rfl (hd j)
    | _ => simp [derefD, h]
  have d2 : ∀ st n k, derefD st n (.int k) = some (.int k) := fun st n k => by simp [derefD, D.noref]
  unfold mkR
  rw [rcf_ini, H.i1]
  simp only [rcf_cl, sp_draft_init (n := n) H hd st]
  rw [List.take_left, beqS_refl]
  simp only [if_true, List.getElem?_append_right (Nat.le_refl _), Nat.sub_self, List.getElem?_cons_zero, rcf_fs, H.fs1, List.map_cons, List.map_nil, true_and, and_self]
  rw [derefs, derefs, derefs, derefs, derefs, d1 _ _ _ (noref_land _) (by intro j h; cases h), d2, d2, d2]
  rfl
def lawD (d : DraftV) : D := .tup [.tup [rowD d.land.people, leadsD d.land.leads, tiesD d.land.ties], nD d.many, nD d.low, nD d.high]
theorem sp_made (H : Ld p) (f36 : p.fd 36 = some c36) {d : DraftV} (hd : d.Ok) (st : Store) : p.cl (n + 8) 36 [lawD d] st = .ok (draftD d) st := by
  refine eq_of_sat (sat_cl f36 rfl ?_)
  have x0 : ∀ a b c : D, idxD st (.tup [a, b, c]) (.int 0) = some a := fun _ _ _ => rfl
  have x1 : ∀ a b c : D, idxD st (.tup [a, b, c]) (.int 1) = some b := fun _ _ _ => rfl
  have x2 : ∀ a b c : D, idxD st (.tup [a, b, c]) (.int 2) = some c := fun _ _ _ => rfl
  have m1 := sp_mk_land (n := n) H hd.land st
  have m2 := sp_mk_draft (n := n + 4) H hd st
  simp -dsimp -implicitDefEqProofs [c36, lawD, bindT, bindTs, x0, x1, x2, m1, m2]
end
end Bp.Q
set_option Elab.async false
set_option linter.all false
set_option maxRecDepth 100000
/-! BpP4: the program's plans. -/
namespace Bp.Q
open PySem
/-- the drafts' functions -/
structure Pl (p : Prog) : Prop extends Ld p where
  f15 : p.fd 15 = some c15
  f16 : p.fd 16 = some c16
  f17 : p.fd 17 = some c17
  f18 : p.fd 18 = some c18
  f19 : p.fd 19 = some c19
def DraftV.n (d : DraftV) : Nat := d.land.people.length
def DraftV.dn (d : DraftV) : Dn := ⟨d.land.people, d.land.ties, d.many, d.low, d.high⟩
theorem tyd_comm (ts : List (Nat × Nat)) (a b : Nat) : tyd ts a b = tyd ts b a := by
  simp only [tyd, Nat.min_comm, Nat.max_comm]
theorem getD_get {α : Type} {l : List α} {i : Nat} {d : α} (h : i < l.length) : l.getD i d = l[i] := by simp [List.getD, h]
section
variable {p : Prog} {n : Nat} {st : Store}
theorem fld_people (H : Ld p) (l : LandV) : fldD (p.cf n) st (landD l) 0 = some (rowD l.people) := by
  have nc0 : 0 < p.nc := Nat.lt_of_lt_of_le (by decide) H.nc
  simp only [fldD, landD, rcf_nc, rcf_fs, H.fs0, if_pos nc0]; rfl
theorem fld_leads (H : Ld p) (l : LandV) : fldD (p.cf n) st (landD l) 1 = some (leadsD l.leads) := by
  have nc0 : 0 < p.nc := Nat.lt_of_lt_of_le (by decide) H.nc
  simp only [fldD, landD, rcf_nc, rcf_fs, H.fs0, if_pos nc0]; rfl
theorem fld_ties (H : Ld p) (l : LandV) : fldD (p.cf n) st (landD l) 2 = some (tiesD l.ties) := by
  have nc0 : 0 < p.nc := Nat.lt_of_lt_of_le (by decide) H.nc
  simp only [fldD, landD, rcf_nc, rcf_fs, H.fs0, if_pos nc0]; rfl
theorem fld_mates (H : Ld p) (l : LandV) : fldD (p.cf n) st (landD l) 3 = some (matesD l.people.length l.ties) := by
  have nc0 : 0 < p.nc := Nat.lt_of_lt_of_le (by decide) H.nc
  simp only [fldD, landD, rcf_nc, rcf_fs, H.fs0, if_pos nc0]; rfl
theorem fld_land (H : Ld p) (d : DraftV) : fldD (p.cf n) st (draftD d) 4 = some (landD d.land) := by
  have nc0 : 1 < p.nc := Nat.lt_of_lt_of_le (by decide) H.nc
  simp only [fldD, draftD, rcf_nc, rcf_fs, H.fs1, if_pos nc0]; rfl
theorem fld_many (H : Ld p) (d : DraftV) : fldD (p.cf n) st (draftD d) 5 = some (nD d.many) := by
  have nc0 : 1 < p.nc := Nat.lt_of_lt_of_le (by decide) H.nc
  simp only [fldD, draftD, rcf_nc, rcf_fs, H.fs1, if_pos nc0]; rfl
theorem fld_low (H : Ld p) (d : DraftV) : fldD (p.cf n) st (draftD d) 6 = some (nD d.low) := by
  have nc0 : 1 < p.nc := Nat.lt_of_lt_of_le (by decide) H.nc
  simp only [fldD, draftD, rcf_nc, rcf_fs, H.fs1, if_pos nc0]; rfl
theorem fld_high (H : Ld p) (d : DraftV) : fldD (p.cf n) st (draftD d) 7 = some (nD d.high) := by
  have nc0 : 1 < p.nc := Nat.lt_of_lt_of_le (by decide) H.nc
  simp only [fldD, draftD, rcf_nc, rcf_fs, H.fs1, if_pos nc0]; rfl
theorem idx_row {r : List Nat} {i : Nat} (h : i < r.length) : idxD st (rowD r) (.int i) = some (.int (r.getD i 0)) := by
  rw [rowD, idx_tup (d := nD r[i]) (by rw [List.getElem?_map, List.getElem?_eq_getElem h]; rfl), getD_get h]
theorem idx_lstD {r : List Nat} {i : Nat} (h : i < r.length) : idxD st (lstD r) (.int i) = some (.int (r.getD i 0)) := by
  rw [lstD, idx_lst (d := nD r[i]) (by rw [List.getElem?_map, List.getElem?_eq_getElem h]; rfl), getD_get h]
theorem bi_len_row (r : List Nat) : biD .len [rowD r] = some (.int r.length) := by simp [rowD]
theorem bi_len_lstD (r : List Nat) : biD .len [lstD r] = some (.int r.length) := by simp [lstD]
theorem sp_tied (H : Ld p) (l : LandV) {u v : Nat} (hu : u < l.people.length) (hv : v < l.people.length) : p.cl (n + 1) 11 [landD l, .int u, .int v] st = .ok (.bl (tyd l.ties u v)) st := by
  rw [cl_step H.f11 rfl]
  have e1 : idxD st (matesD l.people.length l.ties) (.int u) = some (lstD (mates l.people.length l.ties u)) := by
    rw [matesD]
    exact idx_lst (by rw [List.getElem?_map, List.getElem?_range hu]; rfl)
  have e2 : cmD .isin (nD v) (lstD (mates l.people.length l.ties u)) = some (tyd l.ties u v) := by
    show inD (nD v) _ = _
    rw [n_in]
    congr 1
    rw [Bool.eq_iff_iff, decide_eq_true_eq]
    simp [mates, hv]
  simp -dsimp -implicitDefEqProofs [c11, fld_mates H, e1, e2]
theorem sp_hang (H : Ld p) (l : LandV) {us : List Nat} (h0 : us ≠ []) (nd : us.Nodup) (hu : ∀ x ∈ us, x < l.people.length) (h8 : l.people.length ≤ 8) (ud : D) (hud : ud = rowD us ∨ ud = lstD us) : p.cl (n + 2) 12 [landD l, ud] st = .ok (.bl (connB (tyd l.ties) us)) st := by
  refine eq_of_sat (sat_cl H.f12 rfl ?_)
  obtain ⟨a, r, rfl⟩ : ∃ a r, us = a :: r := by
    cases us with
    | nil => exact absurd rfl h0
    | cons a r => exact ⟨a, r, rfl⟩
  have x0 : ∀ st, idxD st ud (.int 0) = some (nD a) := by
    intro st
    rcases hud with rfl | rfl
    · exact idx_row (i := 0) (by simp)
    · exact idx_lstD (i := 0) (by simp)
  have xi : D.items ud = some ((a :: r).map nD) := by
    rcases hud with rfl | rfl <;> rfl
  have xl : biD .len [ud] = some (.int (a :: r).length) := by
    rcases hud with rfl | rfl
    · exact bi_len_row _
    · exact bi_len_lstD _
  have ul : (a :: r).length ≤ 8 := by
    have := nodup_len (b := List.range l.people.length) nd fun x hx => List.mem_range.mpr (hu x hx)
    rw [List.length_range] at this
    omega
  simp -dsimp -implicitDefEqProofs [c12, fits, x0]
  refine whl_sat ((a :: r).length + 1) (by omega) (fun k env st' => st' = st ∧ ∃ found at_ x4, env = [some (.val (landD l)), some (.val ud), some (.own (.lst (found.map nD))), some (.val (.int (at_ : Nat))), x4] ∧ k + at_ = (a :: r).length + 1 ∧ Srch (tyd l.ties) (a :: r) a found at_) ?_ ?_
  · exact ⟨rfl, [a], 0, _, rfl, by omega, Srch.init rfl⟩
  · rintro k _ st' ⟨rfl, found, at_, x4, rfl, hk, hS⟩
    have fl := hS.len
    have al := hS.le
    simp -dsimp -implicitDefEqProofs
    refine br_of (fun q => ?_) (fun q => ?_)
    · simp at q
      refine ⟨by omega, ?_⟩
      obtain ⟨f, hf⟩ : ∃ f, found[at_]? = some f := ⟨_, List.getElem?_eq_getElem q⟩
      have hfm := List.mem_of_getElem? hf
      have hfu := (hS.inn f hfm).1
      simp -dsimp -implicitDefEqProofs
      refine for_typed (a :: r) nD (fun d env st1 => st1 = st' ∧ ∃ fo x4, env = [some (.val (landD l)), some (.val ud), some (.own (.lst (fo.map nD))), some (.val (.int (at_ : Nat))), x4] ∧ Srch (tyd l.ties) (a :: r) a fo at_ ∧ fo[at_]? = some f ∧ ∀ y ∈ d, tyd l.ties f y = true → y ∈ fo) ?_ ?_ ?_ ?_
      · simp -dsimp -implicitDefEqProofs [xi]
      · exact ⟨rfl, found, _, rfl, hS, hf, by simp⟩
      · rintro d y rest _ _ hd ⟨rfl, fo, x4, rfl, h1, h2, h3⟩
        have hy : y ∈ a :: r := by rw [hd]; simp
        have hfo := List.mem_of_getElem? h2
        have hlt := (List.getElem?_eq_some_iff.mp h2).1
        refine ⟨_, rfl, ?_⟩
        have e1 : cmD .notin (nD y) (.lst (fo.map nD)) = some (!decide (y ∈ fo)) := by
          show (inD (nD y) _).map _ = _
          rw [n_in]; rfl
        have e2 : ∀ s, idxD s (.lst (fo.map nD)) (.int at_) = some (nD f) := fun s => idx_lst (by rw [List.getElem?_map, h2]; rfl)
        have e3 := fun m s => sp_tied (n := m) (st := s) H l (hu f hfu) (hu y hy)
        have fl2 := h1.len
        simp -dsimp -implicitDefEqProofs [e1, e2, e3]
        refine br_of (fun q => ?_) (fun q => ?_)
        · simp at q
          simp -dsimp -implicitDefEqProofs [show fo.length < 16777216 by omega]
          refine hid ⟨rfl, fo ++ [y], _, by rw [List.map_append]; rfl, h1.add hfo hy q.2 q.1, by rw [List.getElem?_append_left hlt]; exact h2, ?_⟩
          intro z hz ht
          rw [List.mem_append, List.mem_singleton] at hz ⊢
          rcases hz with hz | rfl
          · exact Or.inl (h3 z hz ht)
          · exact Or.inr rfl
        · simp -dsimp -implicitDefEqProofs
          refine hid ⟨rfl, fo, _, rfl, h1, h2, ?_⟩
          intro z hz ht
          rw [List.mem_append, List.mem_singleton] at hz
          rcases hz with hz | rfl
          · exact h3 z hz ht
          · by_cases hm : z ∈ fo
            · exact hm
            · simp [hm, ht] at q
      · rintro _ _ ⟨rfl, fo, x4, rfl, h1, h2, h3⟩
        simp -dsimp -implicitDefEqProofs
        refine hid ⟨k - 1, by omega, rfl, fo, at_ + 1, _, rfl, by omega, h1.next h2 h3⟩
    · simp at q
      have := hS.fin rfl nd q
      simp -dsimp -implicitDefEqProofs [xl]
      rw [← this]
      simp
      omega
end
end Bp.Q
set_option Elab.async false
set_option linter.all false
set_option maxRecDepth 100000
/-! BpP5: the program's plans. -/
namespace Bp.Q
open PySem
theorem comp2_mapT {α β : Type} {cf : Cf} {vs : List Nat} {tg : Tg} {it : It} {vs2 : List Nat} {tg2 : Tg} {it2 : It} {e : E} {env : Env} {st : Store}
    (ys : List α) (enc : α → D) (zs : α → List β) (enc2 : β → D) (g : α → β → D)
    (hI : evI cf it env st = .ok (ys.map enc) st)
    (hb : ∀ y ∈ ys, ∃ env', bindT tg (enc y) (wipeE env vs) = some env' ∧ evI cf it2 env' st = .ok ((zs y).map enc2) st ∧
      ∀ z ∈ zs y, ∃ env'', bindT tg2 (enc2 z) (wipeE env' vs2) = some env'' ∧ evE cf e .frz env'' st = .ok (g y z) st)
    (hl : (ys.flatMap fun y => zs y).length ≤ 16777216) :
    evE cf (.comp2 vs tg it (.cst (.bl true)) vs2 tg2 it2 (.cst (.bl true)) e) .frz env st = .ok (.lst (ys.flatMap fun y => (zs y).map (g y))) st := by
  rw [comp2_map ys enc (fun _ => true) zs enc2 (fun _ _ => true) g hI ?_ hl]
  · rw [List.filter_eq_self.mpr (fun _ _ => rfl)]
    congr 2
    have : ∀ l : List α, (l.flatMap fun y => ((zs y).filter fun _ => true).map (g y)) = l.flatMap fun y => (zs y).map (g y) := by
      intro l
      induction l with
      | nil => rfl
      | cons y l ih => rw [List.flatMap_cons, List.flatMap_cons, ih, List.filter_eq_self.mpr (fun _ _ => rfl)]
    exact this ys
  · intro y hy
    obtain ⟨env', e1, e2, e3⟩ := hb y hy
    refine ⟨env', e1, rfl, fun _ => ⟨e2, fun z hz => ?_⟩⟩
    obtain ⟨env'', f1, f2⟩ := e3 z hz
    exact ⟨env'', f1, rfl, fun _ => f2⟩
theorem firsts_snoc (l : List Int) (x : Int) : firsts (l ++ [x]) = if (firsts l).any (· == x) then firsts l else firsts l ++ [x] := by
  unfold firsts
  rw [List.foldl_append]; rfl
theorem firsts_map (row : List Nat) : firsts (row.map fun n : Nat => (n : Int)) = (fst row).map fun n : Nat => (n : Int) := by
  refine snoc_ind (P := fun row => firsts (row.map fun n : Nat => (n : Int)) = (fst row).map fun n : Nat => (n : Int)) ?_ ?_ row
  · rfl
  · intro l x ih
    rw [List.map_append, List.map_cons, List.map_nil, firsts_snoc, fst_snoc, ih]
    by_cases h : x ∈ fst l
    · rw [if_pos h, if_pos]
      rw [List.any_eq_true]
      exact ⟨x, List.mem_map.mpr ⟨x, h, rfl⟩, by simp⟩
    · rw [if_neg h, if_neg]
      · rw [List.map_append]; rfl
      · rw [List.any_eq_true]
        rintro ⟨y, hy, e⟩
        obtain ⟨z, hz, rfl⟩ := List.mem_map.mp hy
        simp at e
        have e : z = x := by omega
        exact h (e ▸ hz)
theorem bi_lenset_row {row : List Nat} (h : row.length ≤ 4000) : biD .lenset [rowD row] = some (.int ((fst row).length : Nat)) := by
  have e : intsD (row.map nD) = some (row.map fun n : Nat => (n : Int)) := ints_map (fun n : Nat => (n : Int)) row
  show ((intsD (row.map nD)).bind fun ns => if decide (ns.length ≤ 4000) = true then some (D.int (firsts ns).length) else none) = _
  rw [e]
  simp only [Option.bind_some, List.length_map]
  rw [if_pos (by rw [decide_eq_true_eq]; exact h), firsts_map, List.length_map]
theorem max_row {row : List Nat} (h : row ≠ []) : biD .maxl [rowD row] = some (.int ((cnt row - 1 : Nat) : Int)) := by
  obtain ⟨x, xs, rfl⟩ : ∃ x xs, row = x :: xs := by
    cases row with
    | nil => exact absurd rfl h
    | cons x xs => exact ⟨x, xs, rfl⟩
  have e1 : ∀ (xs : List Nat) (x : Nat), maxD (nD x) (xs.map nD) = nD (xs.foldl max x) := by
    intro xs
    induction xs with
    | nil => intro x; rfl
    | cons y xs ih =>
      intro x
      rw [List.map_cons, List.foldl_cons, ← ih]
      show maxD (if D.lt (nD x) (nD y) = true then nD y else nD x) (xs.map nD) = _
      congr 1
      simp only [D.lt, decide_eq_true_eq]
      split
      · rw [Nat.max_eq_right (by omega)]
      · rw [Nat.max_eq_left (by omega)]
  have e2 : ∀ (xs : List Nat) (x : Nat), xs.foldl (fun m y => max m (y + 1)) (x + 1) = xs.foldl max x + 1 := by
    intro xs
    induction xs with
    | nil => intro x; rfl
    | cons y xs ih =>
      intro x
      rw [List.foldl_cons, List.foldl_cons, ← ih]
      congr 1
      omega
  have e3 : cnt (x :: xs) = xs.foldl max x + 1 := by
    rw [← e2]
    show xs.foldl _ (max 0 (x + 1)) = _
    rw [Nat.max_eq_right (by omega)]
  have e4 : allAlike (nD x :: xs.map nD) = true := by
    have : D.datL 40 (nD x :: xs.map nD) = true := datL_map (enc := nD) (fun a => by simp [D.dat]) (x :: xs)
    rw [allAlike, this]
    simp [D.alike]
  show (if (allAlike (nD x :: xs.map nD) && !(nD x).isNon) = true then some (maxD (nD x) (xs.map nD)) else none) = _
  rw [e4, e1, e3]
  rfl
theorem op_row_snoc {row : List Nat} (c : Nat) (h : row.length < 16777216) : opD .add (rowD row) (.tup [.int (c : Int)]) = some (rowD (row ++ [c])) := by
  show (if fits ((row.map nD).length + 1) = true then some (D.tup (row.map nD ++ [nD c])) else none) = _
  rw [if_pos (by simp [fits]; omega), rowD, List.map_append]; rfl
theorem bi_sum_n {α : Type} (f : α → Nat) (ys : List α) : biD .sum [.lst (ys.map fun y => .int (f y : Nat))] = some (.int ((ys.map f).sum : Nat)) := by
  rw [bi_sum (fun y => (f y : Int))]
  congr 2
  induction ys with
  | nil => rfl
  | cons y ys ih => simp only [List.map_cons, List.sum_cons, ih]; omega
theorem enum_row (row : List Nat) : enumD 0 (row.map nD) = (List.range row.length).map fun i => .tup [nD i, nD (row.getD i 0)] := by
  have go : ∀ (row : List Nat) (k : Nat), enumD (k : Int) (row.map nD) = (List.range row.length).map fun i => .tup [nD (k + i), nD (row.getD i 0)] := by
    intro row
    induction row with
    | nil => intro k; rfl
    | cons x row ih =>
      intro k
      rw [List.map_cons, enumD, show (k : Int) + 1 = ((k + 1 : Nat) : Int) by omega, ih, List.length_cons, List.range_succ_eq_map, List.map_cons, List.map_map]
      congr 1
      apply List.map_congr_left
      intro i hi
      simp only [Function.comp, List.getD_cons_succ]
      rw [show k + 1 + i = k + (i + 1) by omega]
  rw [show (0 : Int) = ((0 : Nat) : Int) from rfl, go]
  simp
theorem op_n_add1 (a : Nat) : opD .add (.int (a : Int)) (.int 1) = some (.int ((a + 1 : Nat) : Int)) := by
  rw [op_ii_add]; rfl
theorem op_n_add (a b : Nat) : opD .add (.int (a : Int)) (.int (b : Int)) = some (.int ((a + b : Nat) : Int)) := by
  rw [op_ii_add]; rfl
theorem cm_n_eq (a b : Nat) : cmD .eq (.int (a : Int)) (.int (b : Int)) = some (decide (a = b)) := by
  rw [cm_eq]
  congr 1
  rw [Bool.eq_iff_iff]; simp; omega
theorem cm_n_le (a b : Nat) : cmD .le (.int (a : Int)) (.int (b : Int)) = some (decide (a ≤ b)) := by
  rw [cm_le]
  congr 1
  rw [Bool.eq_iff_iff]; simp
def rowsD (rs : List (List Nat)) : D := .tup (rs.map rowD)
theorem pow4 {m k : Nat} (hm : m ≤ 4) (hk : k ≤ 8) : m ^ k ≤ 65536 := Nat.le_trans (Nat.pow_le_pow_left hm k) (Nat.le_trans (Nat.pow_le_pow_right (by decide) hk) (by decide))
theorem rows_flat_len {m k : Nat} (hm : m ≤ 4) (hk : k < 8) : ((rowsG m k).flatMap fun row => List.range (min (cnt row + 1) m)).length ≤ 65536 := by
  have e : ((rowsG m k).flatMap fun row => List.range (min (cnt row + 1) m)).length = (rowsG m (k + 1)).length := by
    rw [rowsG]
    simp only [List.length_flatMap, List.length_map]
  rw [e]
  exact Nat.le_trans (rowsG_len _ _) (pow4 hm (by omega))
section
variable {p : Prog} {n : Nat} {st : Store}
theorem sp_numberings (H : Pl p) {u m : Nat} (hu : u ≤ 8) (hm : m ≤ 4) : p.cl (n + 1) 15 [.int u, .int m] st = .ok (.lst (((rowsG m u).filter fun row => decide (cnt row = m)).map rowD)) st := by
  refine eq_of_sat (sat_cl H.f15 rfl ?_)
  simp -dsimp -implicitDefEqProofs [c15, fits]
  refine for_typed (List.range u) nD (fun d env st' => st' = st ∧ ∃ x3 x4 x5, env = [some (.val (.int u)), some (.val (.int m)), some (.val (.lst ((rowsG m d.length).map rowD))), x3, x4, x5]) ?_ ?_ ?_ ?_
  · simp -dsimp -implicitDefEqProofs [rng1_nat (show u < 100000000 by omega)]
  · exact ⟨rfl, _, _, _, rfl⟩
  · rintro d k r _ _ hd ⟨rfl, x3, x4, x5, rfl⟩
    refine ⟨_, rfl, ?_⟩
    have hdl : d.length < u := by
      have := congrArg List.length hd
      simp at this; omega
    simp -dsimp -implicitDefEqProofs
    refine Sat.of_eq (comp2_mapT (rowsG m d.length) rowD (fun row => List.range (min (cnt row + 1) m)) nD (fun row c => rowD (row ++ [c])) (by simp -dsimp -implicitDefEqProofs) ?_ (Nat.le_trans (rows_flat_len hm (by omega)) (by decide))) ?_
    · intro row hr
      obtain ⟨h1, h2, h3⟩ := mem_rowsG.mp hr
      have hc := cnt_le h3
      refine ⟨_, rfl, ?_, ?_⟩
      · simp -dsimp -implicitDefEqProofs [bi_lenset_row (show row.length ≤ 4000 by omega), rg_fst h2, op_n_add1, -op_ii_add, -Int.natCast_add, bi_min2_n, -bi_min2, rng1_nat (show min (cnt row + 1) m < 100000000 by omega)]
      · intro c hc
        exact ⟨_, rfl, by simp -dsimp -implicitDefEqProofs [fits, op_row_snoc c (show row.length < 16777216 by omega)]⟩
    · simp -dsimp -implicitDefEqProofs
      have er : ((rowsG m d.length).flatMap fun y => (List.range (min (cnt y + 1) m)).map fun c => rowD (y ++ [c])) = (rowsG m (d ++ [k]).length).map rowD := by
        rw [List.length_append, List.length_singleton, rowsG, List.map_flatMap]
        simp only [List.map_map, Function.comp_def]
      rw [er]
      exact hid ⟨rfl, _, _, _, rfl⟩
  · rintro _ _ ⟨rfl, x3, x4, x5, rfl⟩
    simp -dsimp -implicitDefEqProofs
    refine Sat.of_eq (comp_map (rowsG m u) rowD (fun row => decide (cnt row = m)) rowD (by simp -dsimp -implicitDefEqProofs) ?_ (Nat.le_trans (rowsG_len _ _) (Nat.le_trans (pow4 hm hu) (by decide)))) ?_
    · intro row hr
      obtain ⟨h1, h2, h3⟩ := mem_rowsG.mp hr
      exact ⟨_, rfl, by simp -dsimp -implicitDefEqProofs [bi_lenset_row (show row.length ≤ 4000 by omega), rg_fst h2, cm_n_eq, -cm_eq], fun _ => by simp -dsimp -implicitDefEqProofs⟩
    · simp -dsimp -implicitDefEqProofs
theorem sp_districts (H : Pl p) {row : List Nat} (h0 : row ≠ []) (hl : row.length ≤ 1000) (hc : cnt row ≤ 1000) : p.cl (n + 1) 16 [rowD row] st = .ok (.tup ((List.range (cnt row)).map fun k => rowD (dist row k))) st := by
  refine eq_of_sat (sat_cl H.f16 rfl ?_)
  have hlen : (row.length : Int) ≠ 0 := by
    have := List.length_pos_iff.mpr h0
    omega
  have hcp : cnt row - 1 + 1 = cnt row := by
    have := lt_cnt (List.getLast_mem h0)
    omega
  simp -dsimp -implicitDefEqProofs [c16, bi_len_row, hlen, h0, fits]
  refine for_typed (List.range (cnt row)) nD (fun d env st' => st' = st ∧ ∃ x2 x3 x4, env = [some (.val (rowD row)), some (.own (.lst (d.map fun k => rowD (dist row k)))), x2, x3, x4]) ?_ ?_ ?_ ?_
  · simp -dsimp -implicitDefEqProofs [max_row h0, op_n_add1, -op_ii_add, -Int.natCast_add, hcp, rng1_nat (show cnt row < 100000000 by omega)]
  · exact ⟨rfl, _, _, _, rfl⟩
  · rintro d k r _ _ hd ⟨rfl, x2, x3, x4, rfl⟩
    refine ⟨_, rfl, ?_⟩
    have hdl : d.length < cnt row := by
      have := congrArg List.length hd
      simp at this; omega
    simp -dsimp -implicitDefEqProofs [comp_brw]
    refine Sat.of_eq (comp_map (List.range row.length) (fun i => .tup [nD i, nD (row.getD i 0)]) (fun i => decide (row.getD i 0 = k)) nD ?_ ?_ (by simp; omega)) ?_
    · simp -dsimp -implicitDefEqProofs [rowD, enum_row]
    · intro i hi
      exact ⟨_, rfl, by simp -dsimp -implicitDefEqProofs [cm_n_eq, -cm_eq], fun _ => by simp -dsimp -implicitDefEqProofs⟩
    · have e : ((List.range row.length).filter fun i => decide (row.getD i 0 = k)) = dist row k := by
        apply List.filter_congr
        intro i hi
        rw [List.mem_range] at hi
        rw [getD_get hi, List.getElem?_eq_getElem hi, Bool.eq_iff_iff]
        simp
      rw [e]
      simp -dsimp -implicitDefEqProofs [show d.length < 16777216 by omega]
      exact hid ⟨rfl, _, _, _, by rw [List.map_append]; rfl⟩
  · rintro _ _ ⟨rfl, x2, x3, x4, rfl⟩
    simp -dsimp -implicitDefEqProofs
theorem sp_people_of (H : Pl p) (l : LandV) {us : List Nat} (hu : ∀ x ∈ us, x < l.people.length) (hl : us.length ≤ 1000) : p.cl (n + 1) 17 [landD l, rowD us] st = .ok (.int (psum l.people us : Nat)) st := by
  refine eq_of_sat (sat_cl H.f17 rfl ?_)
  simp -dsimp -implicitDefEqProofs [c17, comp_brw]
  refine Sat.of_eq (comp_mapT us nD (fun u => .int (l.people.getD u 0 : Nat)) (by simp -dsimp -implicitDefEqProofs [rowD]) ?_ (by omega)) ?_
  · intro u hm
    exact ⟨_, rfl, by simp -dsimp -implicitDefEqProofs [fld_people H.toLd, idx_row (hu u hm)]⟩
  · simp -dsimp -implicitDefEqProofs [bi_sum_n, -bi_sum]
    rfl
theorem sp_is_fair (H : Pl p) {d : DraftV} (hd : d.Ok) {row : List Nat} (h1 : row.length = d.land.people.length) (h2 : Rg row) (h3 : cnt row = d.many) : p.cl (n + 3) 18 [draftD d, rowD row] st = .ok (.bl (fairB d.dn row)) st := by
  refine eq_of_sat (sat_cl H.f18 rfl ?_)
  have n1 := hd.land.n1
  have n8 := hd.land.n8
  have m4 := hd.m4
  have h0 : row ≠ [] := by intro e; rw [e] at h1; simp at h1; omega
  have e1 := fun m s => sp_districts (n := m) (st := s) H h0 (by omega) (by omega)
  simp -dsimp -implicitDefEqProofs [c18]
  refine for_typed (List.range (cnt row)) (fun k => rowD (dist row k)) (fun ds env st' => st' = st ∧ ∃ x2, env = [some (.val (draftD d)), some (.val (rowD row)), x2] ∧ ∀ k ∈ ds, okDist d.dn row k = true) ?_ ?_ ?_ ?_
  · simp -dsimp -implicitDefEqProofs [e1]
  · exact ⟨rfl, _, rfl, by simp⟩
  · rintro ds k r _ _ hk ⟨rfl, x2, rfl, h4⟩
    refine ⟨_, rfl, ?_⟩
    have hkm : k ∈ List.range (cnt row) := by rw [hk]; simp
    have hkr := (rg_mem h2 k).mpr (List.mem_range.mp hkm)
    obtain ⟨i, hi⟩ := List.mem_iff_getElem?.mp hkr
    have d0 : dist row k ≠ [] := List.ne_nil_of_mem (mem_dist.mpr hi)
    have du : ∀ x ∈ dist row k, x < d.land.people.length := fun x hx => by
      have := (List.getElem?_eq_some_iff.mp (mem_dist.mp hx)).1
      omega
    have dl : (dist row k).length ≤ 1000 := by
      have := nodup_len (b := List.range row.length) (dist_nodup row k) fun x hx => List.mem_range.mpr (by have := du x hx; omega)
      rw [List.length_range] at this; omega
    have e2 := fun m s => sp_people_of (n := m) (st := s) H d.land du dl
    have e3 := fun m s => sp_hang (n := m) (st := s) H.toLd d.land d0 (dist_nodup row k) du n8 _ (Or.inl rfl)
    have ed : okDist d.dn row k = (connB (tyd d.land.ties) (dist row k) && decide (d.low ≤ psum d.land.people (dist row k)) && decide (psum d.land.people (dist row k) ≤ d.high)) := rfl
    simp -dsimp -implicitDefEqProofs [fld_low H.toLd, fld_high H.toLd, fld_land H.toLd, e2, e3, cm_n_le, -cm_le]
    refine br_of (fun q => ?_) (fun q => ?_)
    · simp -dsimp -implicitDefEqProofs
      have : fairB d.dn row = false := by
        rw [← Bool.not_eq_true, fairB, List.all_eq_true]
        intro hall
        have hk2 := hall k (by rw [show d.dn.many = d.many from rfl, ← h3]; exact hkm)
        rw [ed] at hk2
        simp at hk2 q
        rcases q with (q | q) | q
        · omega
        · omega
        · simp [hk2.1.1] at q
      rw [this]
    · simp -dsimp -implicitDefEqProofs
      refine hid ⟨rfl, _, rfl, ?_⟩
      intro j hj
      rw [List.mem_append, List.mem_singleton] at hj
      rcases hj with hj | rfl
      · exact h4 j hj
      · rw [ed]; simp at q ⊢
        exact ⟨⟨by simpa using q.2, by omega⟩, by omega⟩
  · rintro _ _ ⟨rfl, x2, rfl, h4⟩
    simp -dsimp -implicitDefEqProofs
    have : fairB d.dn row = true := by
      rw [fairB, List.all_eq_true, show d.dn.many = d.many from rfl, ← h3]
      exact h4
    rw [this]
theorem sp_plans (H : Pl p) {d : DraftV} (hd : d.Ok) : p.cl (n + 4) 19 [draftD d] st = .ok (rowsD (plansN d.dn)) st := by
  refine eq_of_sat (sat_cl H.f19 rfl ?_)
  have n8 := hd.land.n8
  have m4 := hd.m4
  have e1 := fun m s => sp_numberings (n := m) (st := s) H n8 m4
  simp -dsimp -implicitDefEqProofs [c19, comp_brw]
  refine Sat.of_eq (comp_map ((rowsG d.many d.land.people.length).filter fun row => decide (cnt row = d.many)) rowD (fun row => fairB d.dn row) rowD ?_ ?_ ?_) ?_
  · simp -dsimp -implicitDefEqProofs [fld_land H.toLd, fld_people H.toLd, fld_many H.toLd, bi_len_row, e1]
  · intro row hr
    rw [List.mem_filter, mem_rowsG, decide_eq_true_eq] at hr
    exact ⟨_, rfl, by simp -dsimp -implicitDefEqProofs [sp_is_fair H hd hr.1.1 hr.1.2.1 hr.2], fun _ => by simp -dsimp -implicitDefEqProofs⟩
  · exact Nat.le_trans (List.length_filter_le _ _) (Nat.le_trans (rowsG_len _ _) (Nat.le_trans (pow4 m4 n8) (by decide)))
  · simp -dsimp -implicitDefEqProofs [rowsD]
    rw [plansN]
    congr 1
    apply List.filter_congr
    intro row _
    rw [Bool.and_comm]; rfl
end
end Bp.Q
set_option Elab.async false
set_option linter.all false
set_option maxRecDepth 100000
/-! BpSp3: drawn ties, lands, drafts. -/
namespace Bp.Q
open PySem
theorem lr_ok (m : Nat) (hm2 : m < 1000) : biD .lrange [.int m] = some (.lst (upto 0 m)) := by
  have hr : range62 (m : Int) = true := by simp [range62]; omega
  show (if (range62 m && decide ((m : Int) ≤ 16777216)) = true then some (D.lst (upto 0 (m : Int).toNat)) else none) = _
  rw [hr, if_pos (by rw [Bool.true_and, decide_eq_true_eq]; omega), Int.toNat_natCast]
theorem pair_push {m : Nat} {fs : List D} {d : D} (h : ∀ x ∈ fs, PairIn m x) (hd : PairIn m d) : ∀ x ∈ fs ++ [d], PairIn m x := by
  intro x hx
  rw [List.mem_append, List.mem_singleton] at hx
  rcases hx with hx | rfl
  · exact h x hx
  · exact hd
section
variable {p : Prog} (H : Dr p) {n : Nat} {st : Store}
include H
theorem dr_ties {r m : Nat} (hm : 1 ≤ m) (hm2 : m < 1000) (hb : Box st r) : Sat (p.cl (n + 3) 29 [.ref r, .int m] st) (fun d st' => Upd st st' r ∧ ∃ ts, d = .tup (ts.map tieD) ∧ TiesOk m ts) := by
  refine sat_cl H.f29 rfl ?_
  have hr : range62 (m : Int) = true := by simp [range62]; omega
  refine sat_cut 4 (fun env st' => Upd st st' r ∧ ∃ x2 x3 x6 fs, env = [some (.val (.ref r)), some (.val (.int m)), x2, x3, some (.own (.lst fs)), none, x6, none, none, none] ∧ (∀ d ∈ fs, PairIn m d) ∧ fs.length < 100000) ?_ ?_
  · simp -dsimp -implicitDefEqProofs [c29, fits]
    refine (dr_take H hb (by omega) (by omega)).mono ?_
    rintro _ st1 ⟨how, rfl, h1, h2, u1⟩
    have lr := lr_ok m hm2
    simp -dsimp -implicitDefEqProofs [lr, fits]
    refine (dr_shuffled H u1.box (by simp; omega)).mono ?_
    rintro _ st2 ⟨es, rfl, h3, h4, u2⟩
    rw [upto_len] at h3
    have U := u1.trans u2
    simp -dsimp -implicitDefEqProofs [fits]
    refine br_of (fun q => ?_) (fun q => ?_)
    · simp -dsimp -implicitDefEqProofs
      refine for_sat (fun d rest env st' => st' = st2 ∧ d ++ rest = upto 0 m ∧ ∃ x6 fs, env = [some (.val (.ref r)), some (.val (.int m)), some (.val (.int how)), some (.val (.lst es)), some (.own (.lst fs)), none, x6, none, none, none] ∧ (∀ d ∈ fs, PairIn m d) ∧ fs.length ≤ 2 * d.length) ?_ ?_ ?_
      · simp -dsimp -implicitDefEqProofs [hr, rng1D]
        exact hid ⟨rfl, rfl, _, _, rfl, by simp, by simp⟩
      · rintro d x rest _ st3 ⟨rfl, h5, x6, fs, rfl, h6, h7⟩
        have hx : x ∈ upto 0 m := by rw [← h5]; simp
        have hdl : d.length < m := by
          have := congrArg List.length h5
          simp at this; omega
        obtain ⟨k, hk, rfl⟩ := mem_upto.mp hx
        rw [Int.zero_add] at *
        refine ⟨_, rfl, ?_⟩
        have m4 : opD .mod (.int k) (.int 4) = some (.int ((k : Int).fmod 4)) := op_mod' (by decide)
        obtain ⟨v, hv, v1, v2⟩ := ord_get h3 h4 (show (0 : Int) ≤ k by omega) (by omega) st3
        have s1 : fs.length < 16777216 := by omega
        have s2 : fs.length + 1 < 16777216 := by omega
        simp -dsimp -implicitDefEqProofs [m4]
        refine br_of (fun q2 => ?_) (fun q2 => ?_)
        · simp at q2
          obtain ⟨w, hw, w1, w2⟩ := ord_get h3 h4 (show (0 : Int) ≤ (k : Int) + 1 by omega) (by omega) st3
          simp -dsimp -implicitDefEqProofs [hv, hw, s1, fits]
          refine br_of (fun q3 => ?_) (fun q3 => ?_)
          · simp at q3
            obtain ⟨z, hz, z1, z2⟩ := ord_get h3 h4 (show (0 : Int) ≤ (k : Int) + 4 by omega) (by omega) st3
            simp -dsimp -implicitDefEqProofs [hv, hz, s2, fits]
            exact hid ⟨rfl, by rw [← h5]; simp, _, _, rfl, by simpa using pair_push (pair_push h6 (tie_mk v1 v2 w1 w2)) (tie_mk v1 v2 z1 z2), by simp; omega⟩
          · simp -dsimp -implicitDefEqProofs
            exact hid ⟨rfl, by rw [← h5]; simp, _, _, rfl, pair_push h6 (tie_mk v1 v2 w1 w2), by simp; omega⟩
        · simp -dsimp -implicitDefEqProofs
          refine br_of (fun q3 => ?_) (fun q3 => ?_)
          · simp at q3
            obtain ⟨z, hz, z1, z2⟩ := ord_get h3 h4 (show (0 : Int) ≤ (k : Int) + 4 by omega) (by omega) st3
            simp -dsimp -implicitDefEqProofs [hv, hz, s1, fits]
            exact hid ⟨rfl, by rw [← h5]; simp, _, _, rfl, pair_push h6 (tie_mk v1 v2 z1 z2), by simp; omega⟩
          · simp -dsimp -implicitDefEqProofs
            exact hid ⟨rfl, by rw [← h5]; simp, _, _, rfl, h6, by simp; omega⟩
      · rintro d _ st3 ⟨rfl, h5, x6, fs, rfl, h6, h7⟩
        have hdl : d.length = m := by
          have := congrArg List.length h5
          simpa using this
        simp -dsimp -implicitDefEqProofs
        exact hid ⟨U, _, _, _, _, rfl, h6, by omega⟩
    · simp -dsimp -implicitDefEqProofs
      refine br_of (fun q1 => ?_) (fun q1 => ?_)
      · simp -dsimp -implicitDefEqProofs
        refine comp_sat (fun d rest ys st' => st' = st2 ∧ d ++ rest = upto 0 m ∧ (∀ d ∈ ys, PairIn m d) ∧ ys.length ≤ d.length) ?_ ?_ ?_
        · simp -dsimp -implicitDefEqProofs [hr, rng1D]
          exact hid ⟨rfl, rfl, by simp, by simp⟩
        · rintro d x rest ys st3 ⟨rfl, h5, h6, h7⟩
          have hx : x ∈ upto 0 m := by rw [← h5]; simp
          obtain ⟨k, hk, rfl⟩ := mem_upto.mp hx
          rw [Int.zero_add] at *
          refine ⟨_, rfl, ?_⟩
          have m4 : opD .mod (.int (k + 1)) (.int m) = some (.int ((k + 1 : Int).fmod m)) := op_mod' (by omega)
          obtain ⟨v, hv, v1, v2⟩ := ord_get h3 h4 (show (0 : Int) ≤ k by omega) (by omega) st3
          obtain ⟨w, hw, w1, w2⟩ := ord_get h3 h4 (Int.fmod_nonneg_of_pos ((k : Int) + 1) (show (0 : Int) < m by omega)) (Int.fmod_lt_of_pos _ (by omega)) st3
          simp -dsimp -implicitDefEqProofs [wipeE, m4, hv, hw, fits]
          exact hid ⟨rfl, by rw [← h5]; simp, pair_push h6 (tie_mk v1 v2 w1 w2), by simp; omega⟩
        · rintro d ys st3 ⟨rfl, h5, h6, h7⟩
          have hdl : d.length = m := by
            have := congrArg List.length h5
            simpa using this
          refine ⟨by simp [fits]; omega, ?_⟩
          simp -dsimp -implicitDefEqProofs
          exact hid ⟨U, _, _, _, _, rfl, h6, by omega⟩
      · simp -dsimp -implicitDefEqProofs
        refine br_of (fun q2 => ?_) (fun q2 => ?_)
        · have r2 : rng2D (.int 1) (.int m) = some ((List.range' 1 (m - 1)).map nD) := rng2_nat (a := 1) (by decide) (by omega)
          simp -dsimp -implicitDefEqProofs
          refine for_typed (List.range' 1 (m - 1)) nD (fun d env st' => Upd st st' r ∧ ∃ x6 fs, env = [some (.val (.ref r)), some (.val (.int m)), some (.val (.int how)), some (.val (.lst es)), some (.own (.lst fs)), none, x6, none, none, none] ∧ (∀ d ∈ fs, PairIn m d) ∧ fs.length ≤ d.length) ?_ ?_ ?_ ?_
          · simp -dsimp -implicitDefEqProofs [r2]
          · exact ⟨U, _, _, rfl, by simp, by simp⟩
          · rintro d k rest _ st3 h5 ⟨u3, x6, fs, rfl, h6, h7⟩
            have hk : k ∈ List.range' 1 (m - 1) := by rw [h5]; simp
            rw [List.mem_range'_1] at hk
            have hdl : d.length < m := by
              have := congrArg List.length h5
              simp at this; omega
            refine ⟨_, rfl, ?_⟩
            have s1 : fs.length < 16777216 := by omega
            simp -dsimp -implicitDefEqProofs
            refine (dr_take H u3.box (m := 12) (by omega) (by omega)).mono ?_
            rintro _ st4 ⟨t, rfl, t1, t2, u4⟩
            simp -dsimp -implicitDefEqProofs
            refine br_of (fun q3 => ?_) (fun q3 => ?_)
            · obtain ⟨v, hv, v1, v2⟩ := ord_get h3 h4 (show (0 : Int) ≤ k by omega) (by omega) st4
              simp -dsimp -implicitDefEqProofs [hv]
              refine (dr_take H u4.box (m := (k : Int)) (by omega) (by omega)).mono ?_
              rintro _ st5 ⟨t', rfl, t3, t4, u5⟩
              obtain ⟨w, hw, w1, w2⟩ := ord_get h3 h4 (show (0 : Int) ≤ t' by omega) (by omega) st5
              simp -dsimp -implicitDefEqProofs [hw, s1, fits]
              exact hid ⟨(u3.trans u4).trans u5, _, _, rfl, pair_push h6 (tie_mk v1 v2 w1 w2), by simp; omega⟩
            · simp -dsimp -implicitDefEqProofs
              exact hid ⟨u3.trans u4, _, _, rfl, h6, by simp; omega⟩
          · rintro _ st3 ⟨u3, x6, fs, rfl, h6, h7⟩
            rw [List.length_range'] at h7
            simp -dsimp -implicitDefEqProofs
            exact hid ⟨u3, _, _, _, _, rfl, h6, by omega⟩
        · simp -dsimp -implicitDefEqProofs
          exact hid ⟨U, _, _, _, _, rfl, by simp, by simp⟩
  · rintro _ st1 ⟨u, x2, x3, x6, fs, rfl, h, hl⟩
    refine (dr_ties_more H hm (by omega) u.box h hl).mono ?_
    rintro o st2 ho
    cases o with
    | ret d => exact ⟨u.trans ho.1, ho.2⟩
    | nxt e => exact ⟨u.trans ho.1, ho.2⟩
    | brk e => exact ho.elim
end
end Bp.Q
set_option Elab.async false
set_option linter.all false
set_option maxRecDepth 100000
/-! BpP6: drawn lands and drafts. -/
namespace Bp.Q
open PySem
theorem ints_list {xs : List D} {Q : Int → Prop} (h : ∀ x ∈ xs, ∃ i : Int, x = .int i ∧ Q i) : ∃ is : List Int, xs = is.map .int ∧ ∀ i ∈ is, Q i := by
  induction xs with
  | nil => exact ⟨[], rfl, by simp⟩
  | cons x xs ih =>
    obtain ⟨is, rfl, h1⟩ := ih fun y hy => h y (List.mem_cons_of_mem _ hy)
    obtain ⟨i, rfl, h2⟩ := h x List.mem_cons_self
    refine ⟨i :: is, rfl, ?_⟩
    intro j hj
    rcases List.mem_cons.mp hj with rfl | hj
    · exact h2
    · exact h1 j hj
theorem nats_list {xs : List D} {Q : Nat → Prop} (h : ∀ x ∈ xs, ∃ i : Nat, x = .int i ∧ Q i) : ∃ is : List Nat, xs = is.map nD ∧ ∀ i ∈ is, Q i := by
  induction xs with
  | nil => exact ⟨[], rfl, by simp⟩
  | cons x xs ih =>
    obtain ⟨is, rfl, h1⟩ := ih fun y hy => h y (List.mem_cons_of_mem _ hy)
    obtain ⟨i, rfl, h2⟩ := h x List.mem_cons_self
    refine ⟨i :: is, rfl, ?_⟩
    intro j hj
    rcases List.mem_cons.mp hj with rfl | hj
    · exact h2
    · exact h1 j hj
theorem nat_of {i : Int} (h : 0 ≤ i) : D.int i = .int ((i.toNat : Nat) : Int) := by rw [Int.toNat_of_nonneg h]
def rawD (l : LandV) : D := .tup [rowD l.people, leadsD l.leads, tiesD l.ties]
section
variable {p : Prog} (H : Dr p) {n : Nat} {st : Store}
include H
theorem dr_land {r most : Nat} (h3 : 3 ≤ most) (h8 : most ≤ 8) (hb : Box st r) : Sat (p.cl (n + 4) 30 [.ref r, .int most] st) (fun d st' => Upd st st' r ∧ ∃ l : LandV, l.Ok ∧ l.people.length ≤ most ∧ d = rawD l) := by
  refine sat_cl H.f30 rfl ?_
  simp -dsimp -implicitDefEqProofs [c30, fits]
  refine (dr_pick H hb (by simp) (by simp)).mono ?_
  rintro k st1 ⟨hk, u1⟩
  have hk : ∃ m : Nat, k = .int m ∧ 1 ≤ m ∧ m ≤ most := by
    simp only [List.mem_cons, List.not_mem_nil, or_false] at hk
    rcases hk with rfl | rfl | rfl | rfl | rfl | rfl | rfl | rfl | rfl | rfl
    · exact ⟨most, rfl, by omega, by omega⟩
    · exact ⟨most, rfl, by omega, by omega⟩
    · exact ⟨most, rfl, by omega, by omega⟩
    · exact ⟨most - 1, by congr 1; omega, by omega, by omega⟩
    · exact ⟨most - 1, by congr 1; omega, by omega, by omega⟩
    · exact ⟨most - 2, by congr 1; omega, by omega, by omega⟩
    · exact ⟨_, nat_of (by split <;> omega), by split <;> omega, by split <;> omega⟩
    · exact ⟨_, nat_of (by split <;> omega), by split <;> omega, by split <;> omega⟩
    · exact ⟨2, rfl, by omega, by omega⟩
    · exact ⟨1, rfl, by omega, by omega⟩
  obtain ⟨m, rfl, hm1, hm2⟩ := hk
  have r1 : rng1D (.int m) = some ((List.range m).map nD) := rng1_nat (by omega)
  simp -dsimp -implicitDefEqProofs [fits]
  refine (dr_pick H u1.box (by simp) (by simp)).mono ?_
  rintro w st2 ⟨hw, u2⟩
  have hw : ∃ i : Int, w = .int i ∧ 1 ≤ i ∧ i ≤ 100 := by
    simp only [List.mem_cons, List.not_mem_nil, or_false] at hw
    rcases hw with rfl | rfl | rfl | rfl | rfl <;> exact ⟨_, rfl, by omega, by omega⟩
  obtain ⟨w, rfl, hw1, hw2⟩ := hw
  simp -dsimp -implicitDefEqProofs
  refine (dr_take H u2.box (m := 2) (by omega) (by omega)).mono ?_
  rintro _ st3 ⟨low, rfl, lo1, lo2, u3⟩
  simp -dsimp -implicitDefEqProofs [comp_brw]
  refine comp_sat (fun dn rest ys st' => Upd st st' r ∧ dn ++ rest = (List.range m).map nD ∧ ys.length = dn.length ∧ ∀ y ∈ ys, ∃ i : Nat, y = .int i ∧ i ≤ 99) ?_ ?_ ?_
  · simp -dsimp -implicitDefEqProofs [r1]
    exact hid ⟨(u1.trans u2).trans u3, rfl, rfl, by simp⟩
  · rintro dn x rest ys st4 ⟨u4, h5, h6, h7⟩
    refine ⟨_, rfl, ?_⟩
    simp -dsimp -implicitDefEqProofs
    refine (dr_take H u4.box (m := w) (by omega) (by omega)).mono ?_
    rintro _ st5 ⟨v, rfl, v1, v2, u5⟩
    simp -dsimp -implicitDefEqProofs
    refine hid ⟨u4.trans u5, by rw [← h5]; simp, by simp [h6], ?_⟩
    intro y hy
    rw [List.mem_append, List.mem_singleton] at hy
    rcases hy with hy | rfl
    · exact h7 y hy
    · exact ⟨_, nat_of (by split <;> omega), by split <;> omega⟩
  · rintro dn ys st4 ⟨u4, h5, h6, h7⟩
    have hdl : dn.length = m := by
      have := congrArg List.length h5
      simpa using this
    obtain ⟨ps, rfl, hps⟩ := nats_list h7
    rw [List.length_map] at h6
    refine ⟨by simp [fits]; omega, ?_⟩
    simp -dsimp -implicitDefEqProofs [fits]
    refine (dr_pick H u4.box (by simp) (by simp)).mono ?_
    rintro w2 st5 ⟨hw, u5⟩
    have hw : ∃ i : Int, w2 = .int i ∧ (i = 1 ∨ i = 3 ∨ i = 199) := by
      simp only [List.mem_cons, List.not_mem_nil, or_false] at hw
      rcases hw with rfl | rfl | rfl <;> exact ⟨_, rfl, by omega⟩
    obtain ⟨far, rfl, hfar⟩ := hw
    simp -dsimp -implicitDefEqProofs [comp_brw]
    refine comp_sat (fun dn rest ys st' => Upd st st' r ∧ dn ++ rest = (List.range m).map nD ∧ ys.length = dn.length ∧ ∀ y ∈ ys, ∃ i : Int, y = .int i ∧ (-99 ≤ i ∧ i ≤ 99)) ?_ ?_ ?_
    · simp -dsimp -implicitDefEqProofs [r1]
      exact hid ⟨u4.trans u5, rfl, rfl, by simp⟩
    · rintro dn x rest ys st6 ⟨u6, h5, h6, h7⟩
      refine ⟨_, rfl, ?_⟩
      simp -dsimp -implicitDefEqProofs
      refine (dr_take H u6.box (m := far) (by omega) (by omega)).mono ?_
      rintro _ st7 ⟨v, rfl, v1, v2, u7⟩
      have fd : opD .fdiv (.int far) (.int 2) = some (.int (far.fdiv 2)) := op_fdiv' (by decide) (by decide)
      simp -dsimp -implicitDefEqProofs [fd]
      refine hid ⟨u6.trans u7, by rw [← h5]; simp, by simp [h6], ?_⟩
      intro y hy
      rw [List.mem_append, List.mem_singleton] at hy
      rcases hy with hy | rfl
      · exact h7 y hy
      · refine ⟨_, rfl, ?_⟩
        rcases hfar with rfl | rfl | rfl
        · rw [show Int.fdiv 1 2 = 0 from rfl]; omega
        · rw [show Int.fdiv 3 2 = 1 from rfl]; omega
        · rw [show Int.fdiv 199 2 = 99 from rfl]; omega
    · rintro dn ys st6 ⟨u6, h5, h6', h7⟩
      have hdl2 : dn.length = m := by
        have := congrArg List.length h5
        simpa using this
      obtain ⟨ls, rfl, hls⟩ := ints_list h7
      rw [List.length_map] at h6'
      refine ⟨by simp [fits]; omega, ?_⟩
      simp -dsimp -implicitDefEqProofs [fits]
      refine (dr_ties H hm1 (by omega) u6.box).mono ?_
      rintro _ st7 ⟨u7, ts, rfl, hts⟩
      simp -dsimp -implicitDefEqProofs
      have hpl : ps.length = m := by omega
      refine ⟨u6.trans u7, ⟨ps, ls, ts⟩, ⟨by show 1 ≤ ps.length; omega, by show ps.length ≤ 8; omega, hps, by show ls.length = ps.length; omega, hls, ?_⟩, by show ps.length ≤ most; omega, rfl⟩
      show TiesOk ps.length ts
      rw [hpl]; exact hts
theorem dr_draft (ns : List Int) (hns : ns.length ≤ 63) {most : Nat} (h3 : 3 ≤ most) (h8 : most ≤ 8) : Sat (p.cl (n + 5) 31 [.scr ns, .int most] st) (fun d st' => ∃ dr : DraftV, dr.Ok ∧ dr.low ≤ 900 ∧ dr.land.people.length ≤ most ∧ d = lawD dr ∧ st.length ≤ st'.length ∧ ∀ k, k < st.length → st'[k]? = st[k]?) := by
  refine sat_cl H.f31 rfl ?_
  refine sat_cut 4 (fun env st' => ∃ (l : LandV) (m : Nat), l.Ok ∧ l.people.length ≤ most ∧ 1 ≤ m ∧ m ≤ 4 ∧ env = [some (.val (.scr ns)), some (.val (.int most)), some (.val (.ref st.length)), some (.val (rawD l)), some (.val (.int m)), none, none, none, none, none] ∧ st'.length = st.length + 2 ∧ Box st' st.length ∧ ∀ k, k < st.length → st'[k]? = st[k]?) ?_ ?_
  · simp -dsimp -implicitDefEqProofs [c31, fits]
    refine (dr_box H ns hns 0 (by omega)).mono ?_
    rintro _ st1 ⟨rfl, a, b, rfl⟩
    simp -dsimp -implicitDefEqProofs
    refine (dr_box H ns hns 1 (by omega)).mono ?_
    rintro _ st2 ⟨rfl, a', b', rfl⟩
    simp -dsimp -implicitDefEqProofs
    refine (dr_land H h3 h8 (r := st.length + 1) ⟨a', b', by simp⟩).mono ?_
    rintro _ st3 ⟨u3, l, hl, hlm, rfl⟩
    have b3 : Box st3 st.length := ⟨a, b, by rw [u3.oth _ (by omega)]; simp⟩
    have n1 := hl.n1
    have x0 : ∀ st, idxD st (rawD l) (.int 0) = some (rowD l.people) := fun _ => rfl
    have u3' : ∀ k, k < st.length → st3[k]? = st[k]? := fun k hk => by
      rw [u3.oth k (by omega), List.getElem?_append_left hk]
    have l3 : st3.length = st.length + 2 := by rw [u3.len]; simp
    simp -dsimp -implicitDefEqProofs [fits]
    refine (dr_pick H b3 (by simp) (by simp)).mono ?_
    rintro k st4 ⟨hk, u4⟩
    have hk : ∃ m : Nat, k = .int m ∧ 1 ≤ m ∧ m ≤ 4 := by
      simp only [List.mem_cons, List.not_mem_nil, or_false] at hk
      rcases hk with rfl | rfl | rfl | rfl | rfl | rfl
      · exact ⟨2, rfl, by omega, by omega⟩
      · exact ⟨3, rfl, by omega, by omega⟩
      · exact ⟨4, rfl, by omega, by omega⟩
      · exact ⟨2, rfl, by omega, by omega⟩
      · exact ⟨3, rfl, by omega, by omega⟩
      · exact ⟨1, rfl, by omega, by omega⟩
    obtain ⟨m, rfl, hm1, hm2⟩ := hk
    simp -dsimp -implicitDefEqProofs
    refine (dr_take H u4.box (m := 6) (by omega) (by omega)).mono ?_
    rintro _ st5 ⟨v, rfl, v1, v2, u5⟩
    have U5 := u4.trans u5
    have l5 : st5.length = st.length + 2 := by rw [U5.len, l3]
    have u5' : ∀ k, k < st.length → st5[k]? = st[k]? := fun k hk => by rw [U5.oth k (by omega), u3' k hk]
    simp -dsimp -implicitDefEqProofs
    refine br_of (fun q => ?_) (fun q => ?_)
    · simp -dsimp -implicitDefEqProofs [x0, bi_len_row, bi_min2_n, -bi_min2]
      exact hid ⟨l, min m l.people.length, hl, hlm, by omega, by omega, rfl, l5, U5.box, u5'⟩
    · simp -dsimp -implicitDefEqProofs
      exact hid ⟨l, m, hl, hlm, hm1, hm2, rfl, l5, U5.box, u5'⟩
  · rintro _ st1 ⟨l, m, hl, hlm, hm1, hm2, rfl, l1, b1, k1⟩
    have n1 := hl.n1
    have n8 := hl.n8
    have x0 : ∀ st, idxD st (rawD l) (.int 0) = some (rowD l.people) := fun _ => rfl
    have hpn : l.people ≠ [] := by intro e; rw [e] at n1; simp at n1
    obtain ⟨mx, hmx, mx9⟩ : ∃ mx : Nat, biD .maxl [rowD l.people] = some (.int mx) ∧ mx ≤ 99 := by
      refine ⟨_, max_row hpn, ?_⟩
      have : cnt l.people ≤ 100 := cnt_le fun y hy => by have := hl.pl y hy; omega
      omega
    obtain ⟨tot, htot, tot9⟩ : ∃ t : Nat, biD .sum [rowD l.people] = some (.int t) ∧ t ≤ 792 := by
      refine ⟨l.people.sum, ?_, ?_⟩
      · have := bi_sum_n (fun x : Nat => x) l.people
        rw [List.map_id'] at this
        exact this
      · have : ∀ xs : List Nat, (∀ x ∈ xs, x ≤ 99) → xs.sum ≤ 99 * xs.length := by
          intro xs
          induction xs with
          | nil => intro _; simp
          | cons x xs ih =>
            intro h
            have h1 := h x List.mem_cons_self
            have h2 := ih fun y hy => h y (List.mem_cons_of_mem _ hy)
            simp only [List.sum_cons, List.length_cons]; omega
        have := this l.people hl.pl
        omega
    have fd1 : opD .fdiv (.int tot) (.int m) = some (.int ((tot / m : Nat) : Int)) := by
      rw [op_fdiv' (by omega) (by omega), Int.fdiv_eq_ediv_of_nonneg _ (by omega)]
      rfl
    have fd2 : opD .fdiv (.int mx) (.int 2) = some (.int ((mx / 2 : Nat) : Int)) := by
      rw [op_fdiv' (by omega) (by decide), Int.fdiv_eq_ediv_of_nonneg _ (by omega)]
      rfl
    have tm : tot / m ≤ 792 := Nat.le_trans (Nat.div_le_self _ _) tot9
    have mt : mx / 2 ≤ 99 := Nat.le_trans (Nat.div_le_self _ _) mx9
    simp -dsimp -implicitDefEqProofs [c31, x0, htot, hmx, fd1, fd2, fits]
    refine (dr_pick H b1 (by simp) (by simp)).mono ?_
    rintro k st2 ⟨hk, u2⟩
    have hk : ∃ m : Nat, k = .int m ∧ m ≤ 1000 := by
      simp only [List.mem_cons, List.not_mem_nil, or_false] at hk
      rcases hk with rfl | rfl | rfl | rfl | rfl
      · exact ⟨0, rfl, by omega⟩
      · exact ⟨1, rfl, by omega⟩
      · exact ⟨mx, rfl, by omega⟩
      · exact ⟨tot, rfl, by omega⟩
      · exact ⟨mx / 2 + 1, rfl, by omega⟩
    obtain ⟨sl, rfl, hsl⟩ := hk
    simp -dsimp -implicitDefEqProofs
    refine (dr_take H u2.box (m := 2) (by omega) (by omega)).mono ?_
    rintro _ st3 ⟨v, rfl, v1, v2, u3⟩
    simp -dsimp -implicitDefEqProofs
    refine (dr_take H u3.box (m := 8) (by omega) (by omega)).mono ?_
    rintro _ st4 ⟨w, rfl, w1, w2, u4⟩
    have U4 := (u2.trans u3).trans u4
    simp -dsimp -implicitDefEqProofs
    refine br_of (fun q => ?_) (fun q => ?_)
    · simp -dsimp -implicitDefEqProofs
      refine (dr_take H u4.box (m := 100) (by omega) (by omega)).mono ?_
      rintro _ st5 ⟨lo, rfl, lo1, lo2, u5⟩
      simp -dsimp -implicitDefEqProofs
      refine (dr_take H u5.box (m := 900) (by omega) (by omega)).mono ?_
      rintro _ st6 ⟨hi, rfl, hi1, hi2, u6⟩
      have U6 := (U4.trans u5).trans u6
      simp -dsimp -implicitDefEqProofs [parE, fits]
      refine ⟨⟨l, m, lo.toNat, (100 + hi).toNat⟩, ⟨hl, hm1, hm2, by show lo.toNat ≤ (100 + hi).toNat; omega, by show (100 + hi).toNat ≤ 999; omega⟩, by show lo.toNat ≤ 900; omega, hlm, ?_, by rw [U6.len, l1]; omega, fun k hk => by rw [U6.oth k (by omega), k1 k hk]⟩
      rw [nat_of lo1, nat_of (show 0 ≤ 100 + hi by omega)]; rfl
    · simp -dsimp -implicitDefEqProofs [fits]
      have key : ∀ (x y x' y' : Int), x = x' → y = y' → D.tup [rawD l, .int m, .int x, .int y] = D.tup [rawD l, .int m, .int x', .int y'] := by
        rintro _ _ _ _ rfl rfl; rfl
      obtain ⟨lo, hlo⟩ : ∃ lo, lo = tot / m - sl := ⟨_, rfl⟩
      obtain ⟨hi, hhi⟩ : ∃ hi, hi = min 999 (tot / m + sl + v.toNat) := ⟨_, rfl⟩
      have k2 : ((tot : Int) / (m : Int)) = ((tot / m : Nat) : Int) := rfl
      generalize tot / m = t at *
      have k0 : lo ≤ hi ∧ hi ≤ 999 ∧ lo ≤ 900 := by omega
      refine ⟨⟨l, m, lo, hi⟩, ⟨hl, hm1, hm2, k0.1, k0.2.1⟩, k0.2.2, hlm, ?_, by rw [U4.len, l1]; omega, fun k hk => by rw [U4.oth k (by omega), k1 k hk]⟩
      refine key _ _ (lo : Nat) (hi : Nat) ?_ ?_
      · try rw [k2]
        split <;> omega
      · try rw [k2]
        split <;> omega
end
end Bp.Q
set_option Elab.async false
set_option linter.all false
set_option maxRecDepth 100000
/-! BpP7: the law's own plans. -/
namespace Bp.Q
open PySem
/-- the law's plans -/
structure Lp (p : Prog) : Prop where
  nc : 2 ≤ p.nc
  f26 : p.fd 26 = some c26
  f27 : p.fd 27 = some c27
  f32 : p.fd 32 = some c32
  f33 : p.fd 33 = some c33
  f34 : p.fd 34 = some c34
  f35 : p.fd 35 = some c35
theorem isD_of_dat {nc n : Nat} {d : D} (h : D.dat n d = true) : isD nc d = true := by
  cases d <;> simp [D.dat, isD] at h ⊢
theorem datL_mem {n : Nat} : ∀ {ds : List D}, D.datL n ds = true → ∀ x ∈ ds, D.dat n x = true
  | d :: ds, h, x, hx => by
    simp only [D.datL, Bool.and_eq_true] at h
    rcases List.mem_cons.mp hx with rfl | hx
    · exact h.1
    · exact datL_mem h.2 x hx
theorem look_of_data {nc : Nat} {d : D} (h : D.data d = true) : lookD nc d := ⟨isD_of_dat h, by
  rintro ds rfl x hx
  simp only [D.data, D.dat] at h
  exact isD_of_dat (datL_mem h x hx)⟩
/-- a tuple of numbers from 0 on -/
def natsOf : List D → Option (List Nat)
  | [] => some []
  | .int i :: ds => if 0 ≤ i then (natsOf ds).map (i.toNat :: ·) else none
  | _ => none
def rowOf : D → Option (List Nat)
  | .tup ds => natsOf ds
  | _ => none
theorem natsOf_map : ∀ r : List Nat, natsOf (r.map nD) = some r
  | [] => rfl
  | x :: r => by simp [natsOf, natsOf_map r]
theorem natsOf_some : ∀ {ds : List D} {r : List Nat}, natsOf ds = some r → ds = r.map nD
  | [], r, h => by simp [natsOf] at h; subst h; rfl
  | d :: ds, r, h => by
    cases d with
    | int i =>
      simp only [natsOf] at h
      split at h
      · obtain ⟨r', e1, e2⟩ := Option.map_eq_some_iff.mp h
        rw [natsOf_some e1, ← e2, List.map_cons]
        congr 1
        exact nat_of (by assumption)
      · cases h
    | _ => simp [natsOf] at h
theorem rowOf_row (r : List Nat) : rowOf (rowD r) = some r := natsOf_map r
theorem rowOf_some {d : D} {r : List Nat} (h : rowOf d = some r) : d = rowD r := by
  cases d with
  | tup ds => exact congrArg D.tup (natsOf_some h)
  | _ => simp [rowOf] at h
/-- numbers below many -/
def nbB (d : D) (many : Nat) : Bool := match rowOf d with
  | some r => r.all fun y => decide (y < many)
  | none => false
theorem nb_tup {ds : List D} {many : Nat} : nbB (.tup ds) many = ds.all fun x => wiB x 0 ((many : Int) - 1) := by
  have : ∀ ds : List D, (match natsOf ds with
    | some r => r.all fun y => decide (y < many)
    | none => false) = ds.all fun x => wiB x 0 ((many : Int) - 1) := by
    intro ds
    induction ds with
    | nil => rfl
    | cons d ds ih =>
      rw [List.all_cons, ← ih]
      cases d with
      | int i =>
        simp only [natsOf, wiB]
        by_cases h : 0 ≤ i
        · rw [if_pos h]
          cases hn : natsOf ds with
          | none => simp
          | some r =>
            simp only [Option.map_some, List.all_cons, h, decide_true, Bool.true_and]
            congr 1
            rw [Bool.eq_iff_iff]; simp; omega
        · rw [if_neg h]; simp [h]
      | _ => simp [natsOf, wiB]
  exact this ds
theorem maxl_m1 (r : List Nat) : biD .maxl [.lst (.int (-1) :: r.map nD)] = some (.int ((cnt r : Int) - 1)) := by
  have e4 : allAlike (.int (-1) :: r.map nD) = true := by
    have h1 : D.datL 40 (r.map nD) = true := datL_map (enc := nD) (fun a => by simp [D.dat]) r
    have h2 : D.datL 40 (.int (-1) :: r.map nD) = true := by simp only [D.datL, h1]; simp [D.dat]
    rw [allAlike, h2]
    simp [D.alike]
  have e1 : ∀ (r : List Nat) (x : Int), maxD (.int x) (r.map nD) = .int (r.foldl (fun (m : Int) (y : Nat) => max m (y : Int)) x) := by
    intro r
    induction r with
    | nil => intro x; rfl
    | cons y r ih =>
      intro x
      rw [List.map_cons, List.foldl_cons, ← ih]
      show maxD (if D.lt (.int x) (nD y) = true then nD y else .int x) (r.map nD) = _
      congr 1
      simp only [D.lt, decide_eq_true_eq]
      by_cases c : x < (y : Int)
      · rw [if_pos c, Int.max_eq_right (by omega)]
      · rw [if_neg c, Int.max_eq_left (by omega)]
  have e2 : ∀ (r : List Nat) (m : Nat), r.foldl (fun (m : Int) (y : Nat) => max m (y : Int)) ((m : Int) - 1) = (r.foldl (fun m y => max m (y + 1)) m : Nat) - 1 := by
    intro r
    induction r with
    | nil => intro m; rfl
    | cons y r ih =>
      intro m
      rw [List.foldl_cons, List.foldl_cons, ← ih]
      congr 1
      omega
  show (if (allAlike (.int (-1) :: r.map nD) && !(D.int (-1)).isNon) = true then some (maxD (.int (-1)) (r.map nD)) else none) = _
  rw [e4, e1, show (-1 : Int) = ((0 : Nat) : Int) - 1 from rfl, e2]
  rfl
theorem cm_n_lt (a b : Nat) : cmD .lt (.int (a : Int)) (.int (b : Int)) = some (decide (a < b)) := by
  rw [cm_lt]
  congr 1
  rw [Bool.eq_iff_iff]; simp
theorem rg_take {r : List Nat} (h : ∀ i, i < r.length → r.getD i 0 ≤ cnt (r.take i)) : Rg r := by
  intro i x hx
  have hi := (List.getElem?_eq_some_iff.mp hx).1
  have := h i hi
  rw [List.getD, hx] at this
  exact this
open Classical in
/-- what the laws say of a value: a plan -/
noncomputable def isPlanB (d : Dn) (v : D) : Bool := match rowOf v with
  | some r => decide (r ∈ plansN d)
  | none => false
theorem isPlanB_row {d : Dn} {r : List Nat} : isPlanB d (rowD r) = true ↔ r ∈ plansN d := by simp [isPlanB, rowOf_row]
def addIf (f : Nat) (us fo : List Nat) (x y : Nat) : List Nat := if x = f ∧ y ∈ us ∧ y ∉ fo then fo ++ [y] else fo
theorem addIf_ok {t : Nat → Nat → Bool} {us fo : List Nat} {a k f x y : Nat} (h : Srch t us a fo k) (hf : fo[k]? = some f) (ht : t x y = true) : Srch t us a (addIf f us fo x y) k ∧ (addIf f us fo x y)[k]? = some f ∧ (∀ z ∈ fo, z ∈ addIf f us fo x y) ∧ (x = f → y ∈ us → y ∈ addIf f us fo x y) := by
  unfold addIf
  split
  · rename_i c
    have hlt := (List.getElem?_eq_some_iff.mp hf).1
    exact ⟨h.add (List.mem_of_getElem? hf) c.2.1 (c.1 ▸ ht) c.2.2, by rw [List.getElem?_append_left hlt]; exact hf, fun z hz => List.mem_append_left _ hz, fun _ _ => by simp⟩
  · rename_i c
    refine ⟨h, hf, fun z hz => hz, fun c1 c2 => ?_⟩
    by_cases c3 : y ∈ fo
    · exact c3
    · exact absurd ⟨c1, c2, c3⟩ c
section
variable {p : Prog} {n : Nat} {st : Store}
theorem lw_hang (H : Lp p) {k : Nat} {ts : List (Nat × Nat)} (ht : TiesOk k ts) {us : List Nat} (nd : us.Nodup) (ul : us.length ≤ 1000) : p.cl (n + 1) 32 [tiesD ts, lstD us] st = .ok (.bl (connB (tyd ts) us)) st := by
  refine eq_of_sat (sat_cl H.f32 rfl ?_)
  cases us with
  | nil =>
    rw [connB_nil]
    simp -dsimp -implicitDefEqProofs [c32, bi_len_lstD]
  | cons a r =>
    have x0 : ∀ st, idxD st (lstD (a :: r)) (.int 0) = some (nD a) := fun st => idx_lstD (i := 0) (by simp)
    have xl : biD .len [lstD (a :: r)] = some (.int (a :: r).length) := bi_len_lstD _
    have x2 : ¬ ((r.length : Int) + 1 = 0) := by omega
    simp -dsimp -implicitDefEqProofs only [c32]
    simp -dsimp -implicitDefEqProofs [xl, x0, x2, fits]
    refine for_typed (List.range (a :: r).length) nD (fun d env st' => st' = st ∧ ∃ found x3 x4 x5, env = [some (.val (tiesD ts)), some (.val (lstD (a :: r))), some (.own (.lst (found.map nD))), x3, x4, x5] ∧ Srch (tyd ts) (a :: r) a found (min d.length found.length)) ?_ ?_ ?_ ?_
    · have r1 : rng1D (.int ((r.length : Int) + 1)) = some ((List.range (r.length + 1)).map nD) := rng1_nat (n := r.length + 1) (by simp at ul; omega)
      simp -dsimp -implicitDefEqProofs [xl, r1]
    · exact ⟨rfl, [a], _, _, _, rfl, Srch.init rfl⟩
    · rintro d k1 rest _ st2 hd ⟨rfl, found, x3, x4, x5, rfl, hS⟩
      have hk : k1 = d.length := by
        have := congrArg (fun l => l[d.length]?) hd
        simp only [List.getElem?_append_right (Nat.le_refl _), Nat.sub_self, List.getElem?_cons_zero] at this
        have h2 : d.length < (a :: r).length := by
          have := congrArg List.length hd
          simp at this ⊢; omega
        rw [List.getElem?_range h2] at this
        simpa using this.symm
      subst hk
      have fl := hS.len
      refine ⟨_, rfl, ?_⟩
      simp -dsimp -implicitDefEqProofs [cm_n_lt, -cm_lt]
      refine br_of (fun q => ?_) (fun q => ?_)
      · simp at q
        obtain ⟨f, hf⟩ : ∃ f, found[d.length]? = some f := ⟨_, List.getElem?_eq_getElem q⟩
        rw [Nat.min_eq_left (by omega)] at hS
        simp -dsimp -implicitDefEqProofs
        refine for_typed ts tieD (fun ds env st1 => st1 = st2 ∧ ∃ fo x4 x5, env = [some (.val (tiesD ts)), some (.val (lstD (a :: r))), some (.own (.lst (fo.map nD))), some (.val (.int d.length)), x4, x5] ∧ Srch (tyd ts) (a :: r) a fo d.length ∧ fo[d.length]? = some f ∧ ∀ e ∈ ds, (e.1 = f → e.2 ∈ a :: r → e.2 ∈ fo) ∧ (e.2 = f → e.1 ∈ a :: r → e.1 ∈ fo)) ?_ ?_ ?_ ?_
        · simp -dsimp -implicitDefEqProofs [tiesD]
        · exact ⟨rfl, found, _, _, rfl, hS, hf, by simp⟩
        · rintro ds ⟨u, v⟩ rest2 _ _ hds ⟨rfl, fo, x4, x5, rfl, h1, h2, h3⟩
          have hm : (u, v) ∈ ts := by rw [hds]; simp
          have huv := (ht.inn _ hm).1
          have t1 : tyd ts u v = true := by simp only [tyd, decide_eq_true_eq]; rw [Nat.min_eq_left (by omega), Nat.max_eq_right (by omega)]; exact hm
          have t2 : tyd ts v u = true := by rw [tyd_comm]; exact t1
          have hfo := List.mem_of_getElem? h2
          have hlt := (List.getElem?_eq_some_iff.mp h2).1
          refine ⟨[some (.val (tiesD ts)), some (.val (lstD (a :: r))), some (.own (.lst (fo.map nD))), some (.val (.int d.length)), some (.val (.int u)), some (.val (.int v))], rfl, ?_⟩
          have e1 : ∀ (z : Nat) (fo : List Nat), cmD .notin (nD z) (.lst (fo.map nD)) = some (!decide (z ∈ fo)) := fun z fo => by
            show (inD (nD z) _).map _ = _
            rw [n_in]; rfl
          have e3 : ∀ z : Nat, cmD .isin (nD z) (lstD (a :: r)) = some (decide (z ∈ a :: r)) := fun z => n_in _ _
          have e2 : ∀ s (fo : List Nat), fo[d.length]? = some f → idxD s (.lst (fo.map nD)) (.int d.length) = some (nD f) := fun s fo h => idx_lst (by rw [List.getElem?_map, h]; rfl)
          have fl2 := h1.len
          have s1 : ∀ (fo : List Nat) (st : Store), fo.length ≤ 1000 → fo[d.length]? = some f → evS (p.cf n) (.iff (.and (.cmp .eq (.var 4) (.idx (.peek 2) (.var 3))) (.and (.cmp .isin (.var 5) (.var 1)) (.cmp .notin (.var 5) (.peek 2)))) [.push 2 (.var 5)] []) [some (.val (tiesD ts)), some (.val (lstD (a :: r))), some (.own (.lst (fo.map nD))), some (.val (.int d.length)), some (.val (.int u)), some (.val (.int v))] st = .ok (.nxt [some (.val (tiesD ts)), some (.val (lstD (a :: r))), some (.own (.lst ((addIf f (a :: r) fo u v).map nD))), some (.val (.int d.length)), some (.val (.int u)), some (.val (.int v))]) st := by
            intro fo st hl hf
            rw [iff_eq (q := decide (u = f) && (decide (v ∈ a :: r) && !decide (v ∈ fo))) (st' := st)]
            · by_cases c : u = f ∧ v ∈ a :: r ∧ v ∉ fo
              · rw [addIf, if_pos c, if_pos (by simp only [c.1, c.2.1, c.2.2]; simp)]
                simp -dsimp -implicitDefEqProofs [show fo.length < 16777216 by omega]
              · rw [addIf, if_neg c, if_neg (by simpa using c)]
                simp -dsimp -implicitDefEqProofs
            · by_cases c1 : u = f <;> by_cases c2 : v ∈ a :: r <;> simp -dsimp -implicitDefEqProofs [e1, e2 _ _ hf, e3, c1, c2, cm_n_eq, -cm_eq, -List.mem_cons]
          have s2 : ∀ (fo : List Nat) (st : Store), fo.length ≤ 1000 → fo[d.length]? = some f → evS (p.cf n) (.iff (.and (.cmp .eq (.var 5) (.idx (.peek 2) (.var 3))) (.and (.cmp .isin (.var 4) (.var 1)) (.cmp .notin (.var 4) (.peek 2)))) [.push 2 (.var 4)] []) [some (.val (tiesD ts)), some (.val (lstD (a :: r))), some (.own (.lst (fo.map nD))), some (.val (.int d.length)), some (.val (.int u)), some (.val (.int v))] st = .ok (.nxt [some (.val (tiesD ts)), some (.val (lstD (a :: r))), some (.own (.lst ((addIf f (a :: r) fo v u).map nD))), some (.val (.int d.length)), some (.val (.int u)), some (.val (.int v))]) st := by
            intro fo st hl hf
            rw [iff_eq (q := decide (v = f) && (decide (u ∈ a :: r) && !decide (u ∈ fo))) (st' := st)]
            · by_cases c : v = f ∧ u ∈ a :: r ∧ u ∉ fo
              · rw [addIf, if_pos c, if_pos (by simp only [c.1, c.2.1, c.2.2]; simp)]
                simp -dsimp -implicitDefEqProofs [show fo.length < 16777216 by omega]
              · rw [addIf, if_neg c, if_neg (by simpa using c)]
                simp -dsimp -implicitDefEqProofs
            · by_cases c1 : v = f <;> by_cases c2 : u ∈ a :: r <;> simp -dsimp -implicitDefEqProofs [e1, e2 _ _ hf, e3, c1, c2, cm_n_eq, -cm_eq, -List.mem_cons]
          obtain ⟨g1, g2, g3, g4⟩ := addIf_ok h1 h2 t1
          have gl := g1.len
          obtain ⟨k1, k2, k3, k4⟩ := addIf_ok g1 g2 t2
          rw [t_cons, s1 fo _ (by omega) h2, rb_ok]
          show Sat (evSs _ _ _ _) _
          rw [t_cons, s2 _ _ (by omega) g2, rb_ok]
          simp -dsimp -implicitDefEqProofs
          refine hid ⟨rfl, _, _, _, rfl, k1, k2, ?_⟩
          intro e he
          rw [List.mem_append, List.mem_singleton] at he
          rcases he with he | rfl
          · exact ⟨fun c1 c2 => k3 _ (g3 _ ((h3 e he).1 c1 c2)), fun c1 c2 => k3 _ (g3 _ ((h3 e he).2 c1 c2))⟩
          · exact ⟨fun c1 c2 => k3 _ (g4 c1 c2), fun c1 c2 => k4 c1 c2⟩
        · rintro _ _ ⟨rfl, fo, x4, x5, rfl, h1, h2, h3⟩
          simp -dsimp -implicitDefEqProofs
          have h4 : Srch (tyd ts) (a :: r) a fo (d.length + 1) := h1.next h2 fun y hy hty => by
            simp only [tyd, decide_eq_true_eq] at hty
            by_cases c : f ≤ y
            · rw [Nat.min_eq_left c, Nat.max_eq_right c] at hty
              exact (h3 _ hty).1 rfl hy
            · rw [Nat.min_eq_right (by omega), Nat.max_eq_left (by omega)] at hty
              exact (h3 _ hty).2 rfl hy
          refine hid ⟨rfl, fo, _, _, _, rfl, ?_⟩
          rw [List.length_append, List.length_singleton, Nat.min_eq_left h4.le]
          exact h4
      · simp at q
        simp -dsimp -implicitDefEqProofs
        refine hid ⟨rfl, found, _, _, _, rfl, ?_⟩
        rw [Nat.min_eq_right (by omega)] at hS
        rw [List.length_append, Nat.min_eq_right (by omega)]
        exact hS
    · rintro _ _ ⟨rfl, found, x3, x4, x5, rfl, hS⟩
      have fl := hS.len
      rw [List.length_range, Nat.min_eq_right fl] at hS
      have := hS.fin rfl nd (Nat.le_refl _)
      simp -dsimp -implicitDefEqProofs [xl]
      rw [← this]
      simp
      omega
end
end Bp.Q
set_option Elab.async false
set_option linter.all false
set_option maxRecDepth 100000
/-! BpP8: the law's own plans. -/
namespace Bp.Q
open PySem
theorem filter_nil {α : Type} (l : List α) (q : α → Bool) : (l.filter fun x => !q x) = [] ↔ l.all q = true := by
  rw [List.filter_eq_nil_iff, List.all_eq_true]
  simp
theorem datL_filter {n : Nat} {ds : List D} (q : D → Bool) (h : D.datL n ds = true) : D.datL n (ds.filter q) = true := by
  induction ds with
  | nil => rfl
  | cons d ds ih =>
    simp only [D.datL, Bool.and_eq_true] at h
    rw [List.filter_cons]
    split
    · simp only [D.datL, h.1, ih h.2, Bool.and_self]
    · exact ih h.2
theorem eq_nil_lst {ds : List D} (h : D.datL 39 ds = true) : cmD .eq (.lst ds) (.lst []) = some ds.isEmpty := by
  have h1 : D.data (.lst ds) = true := h
  show (if (D.data (.lst ds) && D.data (.lst [])) = true then some (D.eqv (.lst ds) (.lst [])) else none) = _
  rw [h1]
  cases ds <;> simp [D.data, D.dat, D.datL, D.eqv, D.eqvL]
def grow (d : Dn) (k : Nat) (row : List Nat) (cs : List Nat) : List (List Nat) := (cs.filter fun c => decide (d.people.getD k 0 + psum d.people (dist row c) ≤ d.high)).map fun c => row ++ [c]
def growAll (d : Dn) (k : Nat) (rs : List (List Nat)) : List (List Nat) := rs.flatMap fun row => grow d k row (List.range (min d.many (cnt row + 1)))
theorem rowsL_succ (d : Dn) (k : Nat) : rowsL d (k + 1) = growAll d k (rowsL d k) := rfl
theorem grow_app (d : Dn) (k : Nat) (row a b : List Nat) : grow d k row (a ++ b) = grow d k row a ++ grow d k row b := by simp [grow]
theorem growAll_app (d : Dn) (k : Nat) (a b : List (List Nat)) : growAll d k (a ++ b) = growAll d k a ++ growAll d k b := by simp [growAll]
theorem growAll_cons (d : Dn) (k : Nat) (r : List Nat) (b : List (List Nat)) : growAll d k (r :: b) = grow d k r (List.range (min d.many (cnt r + 1))) ++ growAll d k b := by simp [growAll]
theorem cm_n_gt (a b : Nat) : cmD .gt (.int (a : Int)) (.int (b : Int)) = some (decide (b < a)) := by
  rw [cm_gt]
  congr 1
  rw [Bool.eq_iff_iff]; simp
section
variable {p : Prog} {n : Nat} {st : Store}
theorem lw_whole (H : Lp p) {d : D} (hd : isD p.nc d = true) : p.cl (n + 1) 26 [d] st = .ok (.bl (isIntB d)) st := by
  rw [cl_step H.f26 rfl]
  cases d <;> simp [isD] at hd <;> simp -dsimp -implicitDefEqProofs [c26, isD, Ty.has, isIntB, hd]
theorem lw_numbers (H : Lp p) {d : D} (hd : D.data d = true) (hl : ∀ ds, d = .tup ds → ds.length ≤ 16777216) (m : Nat) : p.cl (n + 2) 27 [d, .int m] st = .ok (.bl (nbB d m)) st := by
  refine eq_of_sat (sat_cl H.f27 rfl ?_)
  have hD := (look_of_data (nc := p.nc) hd)
  cases d with
  | tup ds =>
    have h39 : D.datL 39 ds = true := hd
    simp -dsimp -implicitDefEqProofs [c27, isD, Ty.has, comp_brw]
    refine Sat.of_eq (comp_map ds id (fun x => !wiB x 0 ((m : Int) - 1)) id (by simp -dsimp -implicitDefEqProofs) ?_ (hl ds rfl)) ?_
    · intro x hx
      refine ⟨_, rfl, ?_, fun _ => by simp -dsimp -implicitDefEqProofs⟩
      have hi := hD.2 ds rfl x hx
      cases x with
      | int i =>
        simp -dsimp -implicitDefEqProofs [lw_whole H (d := .int i) hi, isIntB, wiB]
        by_cases c1 : i < 0
        · simp [c1]
        · simp [c1]; rw [Bool.eq_iff_iff]; simp; omega
      | _ => simp_all -dsimp -implicitDefEqProofs [lw_whole H hi, isIntB, wiB]
    · simp -dsimp -implicitDefEqProofs [fits, eq_nil_lst (datL_filter (fun x => !wiB x 0 ((m : Int) - 1)) h39)]
      rw [nb_tup, Bool.eq_iff_iff, List.isEmpty_iff]
      exact filter_nil ds _
  | dct _ _ => simp [D.data, D.dat] at hd
  | obj _ _ => simp [D.data, D.dat] at hd
  | ref _ => simp [D.data, D.dat] at hd
  | scr _ => simp [D.data, D.dat] at hd
  | _ => simp -dsimp -implicitDefEqProofs [c27, isD, Ty.has, nbB, rowOf]
theorem lw_units (H : Lp p) {row : List Nat} (k : Nat) (hl : row.length ≤ 1000) : p.cl (n + 1) 33 [rowD row, .int k] st = .ok (lstD (dist row k)) st := by
  refine eq_of_sat (sat_cl H.f33 rfl ?_)
  simp -dsimp -implicitDefEqProofs [c33]
  refine Sat.of_eq (comp_map (List.range row.length) nD (fun i => decide (row.getD i 0 = k)) nD ?_ ?_ (by simp; omega)) ?_
  · simp -dsimp -implicitDefEqProofs [bi_len_row, rng1_nat (show row.length < 100000000 by omega)]
  · intro i hi
    rw [List.mem_range] at hi
    exact ⟨_, rfl, by simp -dsimp -implicitDefEqProofs [idx_row hi, cm_n_eq, -cm_eq], fun _ => by simp -dsimp -implicitDefEqProofs⟩
  · have e : ((List.range row.length).filter fun i => decide (row.getD i 0 = k)) = dist row k := by
      apply List.filter_congr
      intro i hi
      rw [List.mem_range] at hi
      rw [getD_get hi, List.getElem?_eq_getElem hi, Bool.eq_iff_iff]
      simp
    rw [e]
    simp -dsimp -implicitDefEqProofs
    rfl
theorem slc_row (row : List Nat) (i : Nat) (hi : i ≤ row.length) : slcD (rowD row) none (some (i : Int)) = some (rowD (row.take i)) := by
  show some (D.tup (cut (row.map nD) none (some (i : Int)))) = _
  congr 2
  rw [cut]
  simp only [clip, List.drop_zero, Nat.sub_zero, List.length_map]
  rw [if_neg (by omega), Int.toNat_natCast, Nat.min_eq_left hi, List.map_take]
theorem lw_is_plan (H : Lp p) {d : DraftV} (hd : d.Ok) {v : D} (hv : D.data v = true) (hl : ∀ ds, v = .tup ds → ds.length ≤ 16777216) : p.cl (n + 3) 34 [lawD d, v] st = .ok (.bl (isPlanB d.dn v)) st := by
  refine eq_of_sat (sat_cl H.f34 rfl ?_)
  have n8 := hd.land.n8
  have m4 := hd.m4
  have x0 : ∀ st, idxD st (.tup [rowD d.land.people, leadsD d.land.leads, tiesD d.land.ties]) (.int 0) = some (rowD d.land.people) := fun _ => rfl
  have x2 : ∀ st, idxD st (.tup [rowD d.land.people, leadsD d.land.leads, tiesD d.land.ties]) (.int 2) = some (tiesD d.land.ties) := fun _ => rfl
  have e0 := fun m s => lw_numbers (n := m) (st := s) H hv hl d.many
  by_cases hr : ∃ r, rowOf v = some r
  · obtain ⟨r, hr⟩ := hr
    obtain rfl := rowOf_some hr
    by_cases c1 : nbB (rowD r) d.many = true ∧ r.length = d.land.people.length
    · obtain ⟨c1, c2⟩ := c1
      have c3 : ∀ y ∈ r, y < d.many := by
        simp only [nbB, rowOf_row, List.all_eq_true, decide_eq_true_eq] at c1
        exact c1
      have r1 : ∀ s : Nat, s < 1000 → rng1D (.int s) = some ((List.range s).map nD) := fun s h => rng1_nat (by omega)
      simp -dsimp -implicitDefEqProofs [c34, lawD, bindT, bindTs, e0, c1, x0, bi_len_row, c2]
      refine for_typed (List.range r.length) nD (fun ds env st' => st' = st ∧ (∃ x2, env = [some (.val (lawD d)), some (.val (rowD r)), x2, none, some (.val (.tup [rowD d.land.people, leadsD d.land.leads, tiesD d.land.ties])), some (.val (.int d.many)), some (.val (.int d.low)), some (.val (.int d.high)), none, none]) ∧ ∀ i ∈ ds, r.getD i 0 ≤ cnt (r.take i)) ?_ ?_ ?_ ?_
      · simp -dsimp -implicitDefEqProofs [bi_len_row, r1 _ (show r.length < 1000 by omega)]
      · exact ⟨rfl, ⟨_, rfl⟩, by simp⟩
      · rintro ds i rest _ st2 hds ⟨rfl, ⟨x2, rfl⟩, h1⟩
        have hi : i < r.length := by
          have : i ∈ List.range r.length := by rw [hds]; simp
          simpa using this
        refine ⟨_, rfl, ?_⟩
        have ol : opD .add (.lst [.int (-1)]) (.lst ((r.take i).map nD)) = some (.lst (.int (-1) :: (r.take i).map nD)) := by
          show (if fits (1 + ((r.take i).map nD).length) = true then some (D.lst ([.int (-1)] ++ (r.take i).map nD)) else none) = _
          rw [if_pos (by simp [fits]; omega)]; rfl
        have bl : biD .list [rowD (r.take i)] = some (.lst ((r.take i).map nD)) := rfl
        simp -dsimp -implicitDefEqProofs [idx_row hi, partR, slc_row r i (by omega), fits, negD, bl, ol, maxl_m1, -List.map_take]
        refine br_of (fun q => ?_) (fun q => ?_)
        · simp [-List.getD_eq_getElem?_getD] at q
          simp -dsimp -implicitDefEqProofs
          rw [← Bool.not_eq_true, isPlanB_row, mem_plansN]
          rintro ⟨_, h2, _, _⟩
          have := h2 i (r.getD i 0) (by rw [getD_get hi]; exact List.getElem?_eq_getElem hi)
          simp only [List.getD_eq_getElem?_getD] at this
          omega
        · simp [-List.getD_eq_getElem?_getD] at q
          simp -dsimp -implicitDefEqProofs
          refine hid ⟨rfl, ⟨_, rfl⟩, ?_⟩
          intro j hj
          rw [List.mem_append, List.mem_singleton] at hj
          rcases hj with hj | rfl
          · exact h1 j hj
          · simp only [List.getD_eq_getElem?_getD]
            omega
      · rintro _ st2 ⟨rfl, ⟨x2', rfl⟩, h1⟩
        have hrg : Rg r := rg_take fun i hi => h1 i (List.mem_range.mpr hi)
        simp -dsimp -implicitDefEqProofs
        refine for_typed (List.range d.many) nD (fun ds env st' => st' = st2 ∧ (∃ x2 x3 x8 x9, env = [some (.val (lawD d)), some (.val (rowD r)), x2, x3, some (.val (.tup [rowD d.land.people, leadsD d.land.leads, tiesD d.land.ties])), some (.val (.int d.many)), some (.val (.int d.low)), some (.val (.int d.high)), x8, x9]) ∧ ∀ k ∈ ds, okDist d.dn r k = true) ?_ ?_ ?_ ?_
        · simp -dsimp -implicitDefEqProofs [r1 _ (show d.many < 1000 by omega)]
        · exact ⟨rfl, ⟨_, _, _, _, rfl⟩, by simp⟩
        · rintro ds k rest _ st3 hds ⟨rfl, ⟨y2, y3, x8, x9, rfl⟩, h2⟩
          have hk : k ∈ List.range d.many := by rw [hds]; simp
          have u := fun m s => lw_units (n := m) (st := s) H (row := r) k (by omega)
          have du : ∀ x ∈ dist r k, x < d.land.people.length := fun x hx => by
            have := (List.getElem?_eq_some_iff.mp (mem_dist.mp hx)).1
            omega
          have dl : (dist r k).length ≤ 1000 := by
            have := nodup_len (b := List.range r.length) (dist_nodup r k) fun x hx => List.mem_range.mpr (by have := du x hx; omega)
            rw [List.length_range] at this; omega
          have hh := fun m s => lw_hang (n := m) (st := s) H hd.land.ties (dist_nodup r k) dl
          have ed : okDist d.dn r k = (connB (tyd d.land.ties) (dist r k) && decide (d.low ≤ psum d.land.people (dist r k)) && decide (psum d.land.people (dist r k) ≤ d.high)) := rfl
          refine ⟨_, rfl, ?_⟩
          simp -dsimp -implicitDefEqProofs [u, comp_brw]
          refine Sat.of_eq (comp_mapT (dist r k) nD (fun u => .int (d.land.people.getD u 0 : Nat)) (by simp -dsimp -implicitDefEqProofs [lstD]) ?_ (by omega)) ?_
          · intro z hz
            exact ⟨_, rfl, by simp -dsimp -implicitDefEqProofs [x0, idx_row (du z hz)]⟩
          · have es : ((dist r k).map fun u => d.land.people[u]?.getD 0).sum = psum d.land.people (dist r k) := by
              simp only [psum, List.getD_eq_getElem?_getD]
            simp -dsimp -implicitDefEqProofs [bi_sum_n, -bi_sum, es, x2, hh, cm_n_lt, -cm_lt, cm_n_gt, -cm_gt]
            refine br_of (fun q => ?_) (fun q => ?_)
            · simp -dsimp -implicitDefEqProofs
              rw [← Bool.not_eq_true, isPlanB_row, mem_plansN]
              rintro ⟨_, _, _, h3⟩
              have h4 := List.all_eq_true.mp h3 k hk
              rw [ed] at h4
              simp at h4 q
              rcases q with q | q
              · simp [h4.1.1] at q
              · omega
            · simp -dsimp -implicitDefEqProofs
              refine hid ⟨rfl, ⟨_, _, _, _, rfl⟩, ?_⟩
              intro j hj
              rw [List.mem_append, List.mem_singleton] at hj
              rcases hj with hj | rfl
              · exact h2 j hj
              · rw [ed]; simp at q ⊢
                exact ⟨⟨by simpa using q.1, by omega⟩, by omega⟩
        · rintro _ st3 ⟨rfl, ⟨x2, x3, x8, x9, rfl⟩, h2⟩
          simp -dsimp -implicitDefEqProofs
          rw [isPlanB_row, mem_plansN]
          refine ⟨c2, hrg, c3, ?_⟩
          rw [fairB, List.all_eq_true]
          exact h2
    · have hf : isPlanB d.dn (rowD r) = false := by
        rw [← Bool.not_eq_true, isPlanB_row, mem_plansN]
        rintro ⟨h1, _, h2, _⟩
        refine c1 ⟨?_, h1⟩
        simp only [nbB, rowOf_row, List.all_eq_true, decide_eq_true_eq]
        exact h2
      rw [hf]
      by_cases c3 : nbB (rowD r) d.many = true
      · have c5 : r.length ≠ d.land.people.length := fun c => c1 ⟨c3, c⟩
        have c4 : cmD .ne (.int r.length) (.int d.land.people.length) = some true := by
          rw [cm_ne]
          congr 1
          rw [decide_eq_true_eq]; omega
        simp -dsimp -implicitDefEqProofs [c34, lawD, bindT, bindTs, e0, c3, x0, bi_len_row, c4, -cm_ne]
      · simp -dsimp -implicitDefEqProofs [c34, lawD, bindT, bindTs, e0, c3]
  · have hr2 : rowOf v = none := by
      cases h : rowOf v with
      | none => rfl
      | some r => exact absurd ⟨r, h⟩ hr
    have c1 : nbB v d.many = false := by simp [nbB, hr2]
    have c2 : isPlanB d.dn v = false := by simp [isPlanB, hr2]
    simp -dsimp -implicitDefEqProofs [c34, lawD, bindT, bindTs, e0, c1, c2]
theorem lw_plans (H : Lp p) {d : DraftV} (hd : d.Ok) : p.cl (n + 4) 35 [lawD d] st = .ok (.lst ((plansN d.dn).map rowD)) st := by
  refine eq_of_sat (sat_cl H.f35 rfl ?_)
  have n8 := hd.land.n8
  have m1 := hd.m1
  have m4 := hd.m4
  have x0 : ∀ st, idxD st (.tup [rowD d.land.people, leadsD d.land.leads, tiesD d.land.ties]) (.int 0) = some (rowD d.land.people) := fun _ => rfl
  have r1 : ∀ s : Nat, s < 1000 → rng1D (.int s) = some ((List.range s).map nD) := fun s h => rng1_nat (by omega)
  have bound : ∀ k, k ≤ 8 → (rowsL d.dn k).length ≤ 65536 := fun k hk => Nat.le_trans (rowsL_len _ _) (pow4 m4 hk)
  have f1 : fits 1 = true := by simp [fits]
  simp -dsimp -implicitDefEqProofs [c35, lawD, bindT, bindTs, fits]
  refine for_typed (List.range d.land.people.length) nD (fun ds env st' => st' = st ∧ ∃ x2 x7 x8 x9 x10, env = [some (.val (lawD d)), some (.val (.lst ((rowsL d.dn ds.length).map rowD))), x2, some (.val (.tup [rowD d.land.people, leadsD d.land.leads, tiesD d.land.ties])), some (.val (.int d.many)), some (.val (.int d.low)), some (.val (.int d.high)), x7, x8, x9, x10, none]) ?_ ?_ ?_ ?_
  · simp -dsimp -implicitDefEqProofs [x0, bi_len_row, r1 _ (show d.land.people.length < 1000 by omega)]
  · exact ⟨rfl, _, _, _, _, _, rfl⟩
  · rintro ds u rest _ st2 hds ⟨rfl, x2, x7, x8, x9, x10, rfl⟩
    have hu : u = ds.length := by
      have h2 : ds.length < d.land.people.length := by
        have := congrArg List.length hds
        simp at this; omega
      have := congrArg (fun l => l[ds.length]?) hds
      simp only [List.getElem?_append_right (Nat.le_refl _), Nat.sub_self, List.getElem?_cons_zero, List.getElem?_range h2] at this
      simpa using this.symm
    have hun : u < d.land.people.length := by
      have : u ∈ List.range d.land.people.length := by rw [hds]; simp
      simpa using this
    subst hu
    refine ⟨_, rfl, ?_⟩
    simp -dsimp -implicitDefEqProofs [fits]
    have bl1 := bound (ds.length + 1) (by omega)
    rw [rowsL_succ] at bl1
    refine for_typed (rowsL d.dn ds.length) rowD (fun rs env st' => st' = st2 ∧ ∃ x8 x9 x10, env = [some (.val (lawD d)), some (.val (.lst ((rowsL d.dn ds.length).map rowD))), some (.val (.int ds.length)), some (.val (.tup [rowD d.land.people, leadsD d.land.leads, tiesD d.land.ties])), some (.val (.int d.many)), some (.val (.int d.low)), some (.val (.int d.high)), some (.own (.lst ((growAll d.dn ds.length rs).map rowD))), x8, x9, x10, none]) ?_ ?_ ?_ ?_
    · simp -dsimp -implicitDefEqProofs
    · exact ⟨rfl, _, _, _, rfl⟩
    · rintro rs row rest2 _ st3 hrs ⟨rfl, x8, x9, x10, rfl⟩
      have hrow : row ∈ rowsL d.dn ds.length := by rw [hrs]; simp
      rw [rowsL_eq, List.mem_filter, mem_rowsG] at hrow
      obtain ⟨⟨h1, h2, h3⟩, h4⟩ := hrow
      have hcl := cnt_le h3
      have ol : opD .add (.lst [.int (-1)]) (.lst (row.map nD)) = some (.lst (.int (-1) :: row.map nD)) := by
        show (if fits (1 + (row.map nD).length) = true then some (D.lst ([.int (-1)] ++ row.map nD)) else none) = _
        rw [if_pos (by simp [fits]; omega)]; rfl
      have bl : biD .list [rowD row] = some (.lst (row.map nD)) := rfl
      have k2 : opD .add (.int ((cnt row : Int) - 1)) (.int 2) = some (.int ((cnt row + 1 : Nat) : Int)) := by
        rw [op_ii_add]
        congr 2
        omega
      rw [hrs, growAll_app, growAll_cons, List.length_append, List.length_append] at bl1
      refine ⟨_, rfl, ?_⟩
      have mm : (min (d.many) (cnt row + 1) : Nat) < 1000 := by omega
      simp -dsimp -implicitDefEqProofs [bl, ol, maxl_m1, k2, fits, negD]
      refine for_typed (List.range (min d.many (cnt row + 1))) nD (fun cs env st' => st' = st3 ∧ ∃ x9 x10, env = [some (.val (lawD d)), some (.val (.lst ((rowsL d.dn ds.length).map rowD))), some (.val (.int ds.length)), some (.val (.tup [rowD d.land.people, leadsD d.land.leads, tiesD d.land.ties])), some (.val (.int d.many)), some (.val (.int d.low)), some (.val (.int d.high)), some (.own (.lst ((growAll d.dn ds.length rs ++ grow d.dn ds.length row cs).map rowD))), some (.val (rowD row)), x9, x10, none]) ?_ ?_ ?_ ?_
      · simp -dsimp -implicitDefEqProofs [bl, ol, maxl_m1, k2, fits, negD, bi_min2_n, -bi_min2, r1 _ mm, -Int.natCast_add]
      · exact ⟨rfl, x9, x10, by simp [grow]⟩
      · rintro cs c rest3 _ st4 hcs ⟨rfl, x9, x10, rfl⟩
        have bl2 : (growAll d.dn ds.length rs ++ grow d.dn ds.length row cs).length < 16777216 := by
          rw [show d.dn.many = d.many from rfl, hcs, grow_app, List.length_append] at bl1
          rw [List.length_append]; omega
        refine ⟨_, rfl, ?_⟩
        simp -dsimp -implicitDefEqProofs [comp_brw, x0, idx_row hun]
        refine Sat.of_eq (comp_map (List.range ds.length) nD (fun i => decide (row.getD i 0 = c)) (fun u => .int (d.land.people.getD u 0 : Nat)) ?_ ?_ (by simp; omega)) ?_
        · simp -dsimp -implicitDefEqProofs [r1 ds.length (by omega)]
        · intro i hi
          rw [List.mem_range] at hi
          exact ⟨_, rfl, by simp -dsimp -implicitDefEqProofs [idx_row (show i < row.length by omega), cm_n_eq, -cm_eq], fun _ => by simp -dsimp -implicitDefEqProofs [x0, idx_row (show i < d.land.people.length by omega)]⟩
        · have e : ((List.range ds.length).filter fun i => decide (row.getD i 0 = c)) = dist row c := by
            rw [dist, h1]
            apply List.filter_congr
            intro i hi
            rw [List.mem_range, ← h1] at hi
            rw [getD_get hi, List.getElem?_eq_getElem hi, Bool.eq_iff_iff]
            simp
          have es : ((dist row c).map fun u => d.land.people[u]?.getD 0).sum = psum d.land.people (dist row c) := by
            simp only [psum, List.getD_eq_getElem?_getD]
          rw [e]
          simp -dsimp -implicitDefEqProofs [bi_sum_n, -bi_sum, es, x0, idx_row hun, op_n_add, -op_ii_add, cm_n_le, -cm_le, -Int.natCast_add]
          refine br_of (fun q => ?_) (fun q => ?_)
          · have os := op_row_snoc c (show row.length < 16777216 by omega)
            simp -dsimp -implicitDefEqProofs [os, fits, show (growAll d.dn ds.length rs).length + (grow d.dn ds.length row cs).length < 16777216 by rw [List.length_append] at bl2; exact bl2]
            have g1 : grow d.dn ds.length row (cs ++ [c]) = grow d.dn ds.length row cs ++ [row ++ [c]] := by
              rw [grow_app]
              congr 1
              have q' : decide (d.dn.people.getD ds.length 0 + psum d.dn.people (dist row c) ≤ d.dn.high) = true := by
                simpa [List.getD_eq_getElem?_getD, DraftV.dn] using q
              simp only [grow, List.filter_cons, q', if_true, List.filter_nil, List.map_cons, List.map_nil]
            rw [g1]
            exact hid ⟨rfl, _, _, by simp only [List.map_append, List.append_assoc, List.map_cons, List.map_nil]; rfl⟩
          · simp -dsimp -implicitDefEqProofs
            have g1 : grow d.dn ds.length row (cs ++ [c]) = grow d.dn ds.length row cs := by
              rw [grow_app]
              have q' : decide (d.dn.people.getD ds.length 0 + psum d.dn.people (dist row c) ≤ d.dn.high) = false := by
                simpa [List.getD_eq_getElem?_getD, DraftV.dn] using q
              simp only [grow, List.filter_cons, q', List.filter_nil, List.map_nil, List.append_nil]
              simp
            rw [g1]
            exact hid ⟨rfl, _, _, by simp only [List.map_append]; rfl⟩
      · rintro _ st4 ⟨rfl, x9, x10, rfl⟩
        simp -dsimp -implicitDefEqProofs
        rw [growAll_app, growAll_cons, show growAll d.dn ds.length [] = [] from rfl, List.append_nil, List.map_append]
        exact hid ⟨rfl, _, _, _, rfl⟩
    · rintro _ st3 ⟨rfl, x8, x9, x10, rfl⟩
      simp -dsimp -implicitDefEqProofs
      rw [show (ds ++ [ds.length]).length = ds.length + 1 by simp, rowsL_succ]
      exact hid ⟨rfl, _, _, _, _, _, rfl⟩
  · rintro _ st2 ⟨rfl, x2, x7, x8, x9, x10, rfl⟩
    have hrl := bound d.land.people.length n8
    simp -dsimp -implicitDefEqProofs
    refine Sat.of_eq (comp_map (rowsL d.dn d.land.people.length) rowD (fun row => fairB d.dn row) rowD (by simp -dsimp -implicitDefEqProofs) ?_ (by omega)) ?_
    · intro row hrow
      rw [rowsL_eq, List.mem_filter, mem_rowsG] at hrow
      obtain ⟨⟨h1, h2, h3⟩, h4⟩ := hrow
      have hp : isPlanB d.dn (rowD row) = fairB d.dn row := by
        rw [Bool.eq_iff_iff, isPlanB_row, mem_plansN]
        exact ⟨fun h => h.2.2.2, fun h => ⟨h1, h2, h3, h⟩⟩
      have e := fun m s => lw_is_plan (n := m) (st := s) H hd (row_data row) (by
        intro ds' e
        have : (row.map nD) = ds' := by cases e; rfl
        rw [← this]; simp; omega)
      refine ⟨_, rfl, ?_, fun _ => by simp -dsimp -implicitDefEqProofs⟩
      simp -dsimp -implicitDefEqProofs
      show fin .tst (p.cl (n + 3) 34 [lawD d, rowD row] st2) = _
      rw [e, hp]; rfl
    · have pe : (rowsL d.dn d.land.people.length).filter (fun row => fairB d.dn row) = plansN d.dn := plansL_eq d.dn
      rw [pe]
      simp -dsimp -implicitDefEqProofs
end
end Bp.Q
set_option Elab.async false
set_option linter.all false
set_option maxRecDepth 100000
/-! BpP9: is_plan, count, first_plan, == of lands and drafts. -/
namespace Bp.Q
open PySem
mutual
theorem eqv_refl : ∀ {n : Nat} {d : D}, D.dat n d = true → D.eqv d d = true
  | _, .non, _ => by simp [D.eqv]
  | _, .bl b, _ => by simp [D.eqv]
  | _, .int i, _ => by simp [D.eqv]
  | _, .str s, _ => by simp [D.eqv]
  | 0, .tup ds, h => by simp [D.dat] at h
  | n + 1, .tup ds, h => by simp only [D.dat] at h; simp only [D.eqv]; exact eqvL_refl h
  | 0, .lst ds, h => by simp [D.dat] at h
  | n + 1, .lst ds, h => by simp only [D.dat] at h; simp only [D.eqv]; exact eqvL_refl h
  | _, .dct _ _, h => by simp [D.dat] at h
  | _, .obj _ _, h => by simp [D.dat] at h
  | _, .ref _, h => by simp [D.dat] at h
  | _, .scr _, h => by simp [D.dat] at h
theorem eqvL_refl : ∀ {n : Nat} {ds : List D}, D.datL n ds = true → D.eqvL ds ds = true
  | _, [], _ => by simp [D.eqvL]
  | n, d :: ds, h => by
    simp only [D.datL, Bool.and_eq_true] at h
    simp only [D.eqvL, eqv_refl h.1, eqvL_refl h.2, Bool.and_self]
end
theorem cm_eq_refl {d : D} (h : D.data d = true) : cmD .eq d d = some true := by
  show (if (D.data d && D.data d) = true then some (D.eqv d d) else none) = _
  rw [h, eqv_refl h]; rfl
theorem cm_bl_eq (a b : Bool) : cmD .eq (.bl a) (.bl b) = some (a == b) := by
  cases a <;> cases b <;> simp [cmD, D.data, D.dat, D.eqv]
theorem t_tri_ok {cf : Cf} {b : List S} {i c : Nat} {tag : Str} {env : Env} {st st' : Store} {o : Out} (h : evSs cf b env st = .ok o st') : evS cf (.tri b i c tag) env st = .ok o st' := by
  have e : evS cf (.tri b i c tag) env st = (match evSs cf b env st with
    | .exc k d st => if cf.xs.contains k then (if k = c then Res.ok (.ret (.tup [.str tag, d])) st else Res.exc k d st) else Res.bad
    | r => r) := rfl
  rw [e, h]
theorem t_tri_exc {cf : Cf} {b : List S} {i c : Nat} {tag : Str} {env : Env} {st st' : Store} {d : D} (h : evSs cf b env st = .exc c d st') (hx : cf.xs.contains c = true) : evS cf (.tri b i c tag) env st = .ok (.ret (.tup [.str tag, d])) st' := by
  have e : evS cf (.tri b i c tag) env st = (match evSs cf b env st with
    | .exc k d st => if cf.xs.contains k then (if k = c then Res.ok (.ret (.tup [.str tag, d])) st else Res.exc k d st) else Res.bad
    | r => r) := rfl
  rw [e, h]
  show (if cf.xs.contains c = true then (if c = c then Res.ok (Out.ret (.tup [.str tag, d])) st' else .exc c d st') else .bad) = _
  rw [hx, if_pos rfl, if_pos rfl]
structure Is (p : Prog) : Prop extends Pl p where
  f39 : p.fd 39 = some c39
  f40 : p.fd 40 = some c40
  f41 : p.fd 41 = some c41
  f42 : p.fd 42 = some c42
def rgB (r : List Nat) : Bool := (List.range r.length).all fun i => decide (r.getD i 0 ≤ (fst (r.take i)).length)
theorem rgB_snoc (l : List Nat) (x : Nat) : rgB (l ++ [x]) = (rgB l && decide (x ≤ (fst l).length)) := by
  simp only [rgB, List.length_append, List.length_singleton, List.range_succ, List.all_append, List.all_cons, List.all_nil, Bool.and_true]
  congr 1
  · rw [Bool.eq_iff_iff, List.all_eq_true, List.all_eq_true]
    constructor
    · intro h i hi
      have := h i hi
      rw [List.mem_range] at hi
      rw [List.take_append_of_le_length (by omega)] at this
      simpa [List.getD_eq_getElem?_getD, List.getElem?_append_left hi] using this
    · intro h i hi
      have := h i hi
      rw [List.mem_range] at hi
      rw [List.take_append_of_le_length (by omega)]
      simpa [List.getD_eq_getElem?_getD, List.getElem?_append_left hi] using this
  · rw [List.take_append_of_le_length (Nat.le_refl _), List.take_length]
    simp [List.getD_eq_getElem?_getD]
theorem rgB_iff {r : List Nat} : rgB r = true ↔ Rg r := by
  refine snoc_ind (P := fun r => rgB r = true ↔ Rg r) ?_ ?_ r
  · exact ⟨fun _ => rg_nil, fun _ => rfl⟩
  · intro l x ih
    rw [rgB_snoc, Bool.and_eq_true, decide_eq_true_eq, rg_snoc, ih]
    constructor
    · rintro ⟨h1, h2⟩; exact ⟨h1, by rw [rg_fst h1] at h2; exact h2⟩
    · rintro ⟨h1, h2⟩; exact ⟨h1, by rw [rg_fst h1]; exact h2⟩
section
variable {p : Prog} {n : Nat} {st : Store}
theorem sp_numbering (H : Is p) {r : List Nat} (hl : r.length ≤ 1000) : p.cl (n + 1) 39 [rowD r] st = .ok (.bl (rgB r)) st := by
  refine eq_of_sat (sat_cl H.f39 rfl ?_)
  simp -dsimp -implicitDefEqProofs [c39, comp_brw]
  refine Sat.of_eq (comp_mapT (List.range r.length) (fun i => .tup [nD i, nD (r.getD i 0)]) (fun i => .bl (decide (r.getD i 0 ≤ (fst (r.take i)).length))) ?_ ?_ (by simp; omega)) ?_
  · simp -dsimp -implicitDefEqProofs [rowD, enum_row]
  · intro i hi
    rw [List.mem_range] at hi
    refine ⟨_, rfl, ?_⟩
    have s0 := slc_row r i (by omega)
    have l0 := bi_lenset_row (row := r.take i) (by rw [List.length_take]; omega)
    have c0 : cmD .le (.int 0) (.int (r.getD i 0 : Nat)) = some true := by rw [cm_le, decide_eq_true (by omega)]
    have c1 := cm_n_le (r.getD i 0) (fst (r.take i)).length
    simp -dsimp -implicitDefEqProofs only [List.getD_eq_getElem?_getD] at c0 c1
    simp -dsimp -implicitDefEqProofs [partR, s0, l0, c0, c1, -cm_le]
  · have e := bi_all (fun i => decide (r.getD i 0 ≤ (fst (r.take i)).length)) (List.range r.length)
    have e2 : ((List.range r.length).all fun i => decide (r.getD i 0 ≤ (fst (r.take i)).length)) = rgB r := rfl
    rw [e2] at e
    simp -dsimp -implicitDefEqProofs only [List.getD_eq_getElem?_getD] at e
    simp -dsimp -implicitDefEqProofs [e]
theorem sp_is_plan (H : Is p) {d : DraftV} (hd : d.Ok) {v : D} (hv : D.data v = true) : p.cl (n + 4) 40 [draftD d, v] st = .ok (.bl (isPlanB d.dn v)) st := by
  refine eq_of_sat (sat_cl H.f40 rfl ?_)
  have n8 := hd.land.n8
  have n1 := hd.land.n1
  have m1 := hd.m1
  have m4 := hd.m4
  have L := look_of_data (nc := p.nc) hv
  have e0 := fun m s => sp_are_within (n := m) (st := s) H.toKd L d.land.people.length 0 ((d.many : Int) - 1) (by omega)
  have hsub : opD .sub (.int (d.many : Int)) (.int 1) = some (.int ((d.many : Int) - 1)) := rfl
  by_cases c : awB v d.land.people.length 0 ((d.many : Int) - 1) = true
  · have : ∃ ds, v = .tup ds := by
      cases v <;> simp [awB] at c
      exact ⟨_, rfl⟩
    obtain ⟨ds, rfl⟩ := this
    simp only [awB, Bool.and_eq_true, decide_eq_true_eq] at c
    have nb : nbB (.tup ds) d.many = true := by rw [nb_tup]; exact c.2
    have c' : awB (.tup ds) d.land.people.length 0 ((d.many : Int) - 1) = true := by simp only [awB, Bool.and_eq_true, decide_eq_true_eq]; exact c
    unfold nbB at nb
    split at nb
    · rename_i r hr
      have hr := rowOf_some hr
      rw [hr] at e0 c' ⊢
      have hlen : r.length = d.land.people.length := by
        have : (D.tup ds) = .tup (r.map nD) := hr
        cases this
        have := c.1
        simp at this; omega
      have hlt : ∀ y ∈ r, y < d.many := by
        rw [List.all_eq_true] at nb
        intro y hy
        have := nb y hy
        simpa using this
      have hne : r ≠ [] := by intro e; rw [e] at hlen; simp at hlen; omega
      have hcl := cnt_le hlt
      have hcp : 1 ≤ cnt r := by have := lt_cnt (List.getLast_mem hne); omega
      have e1 := fun m s => sp_numbering (n := m) (st := s) H (r := r) (by omega)
      by_cases c2 : rgB r = true
      · have hrg := rgB_iff.mp c2
        have cm : cmD .eq (.int ((cnt r - 1 : Nat) : Int)) (.int ((d.many : Int) - 1)) = some (decide (cnt r = d.many)) := by
          rw [cm_eq]; congr 1; rw [Bool.eq_iff_iff]; simp; omega
        by_cases c3 : cnt r = d.many
        · have e2 := fun m s => sp_is_fair (n := m) (st := s) H.toPl hd hlen hrg c3
          have e3 : isPlanB d.dn (rowD r) = fairB d.dn r := by
            rw [Bool.eq_iff_iff, isPlanB_row, mem_plansN]
            exact ⟨fun h => h.2.2.2, fun h => ⟨hlen, hrg, hlt, h⟩⟩
          rw [c3] at cm
          simp -dsimp -implicitDefEqProofs [c40, fld_land H.toLd, fld_people H.toLd, fld_many H.toLd, bi_len_row, e0, c', e1, c2, max_row hne, hsub, c3, cm, e2, e3, -cm_eq]
        · have e3 : isPlanB d.dn (rowD r) = false := by
            rw [← Bool.not_eq_true, isPlanB_row, mem_plansN]
            rintro ⟨_, _, _, h⟩
            exact c3 (fair_cnt hlt h)
          rw [decide_eq_false c3] at cm
          simp -dsimp -implicitDefEqProofs [c40, fld_land H.toLd, fld_people H.toLd, fld_many H.toLd, bi_len_row, e0, c', e1, c2, max_row hne, hsub, cm, e3, -cm_eq]
      · have e3 : isPlanB d.dn (rowD r) = false := by
          rw [← Bool.not_eq_true, isPlanB_row, mem_plansN]
          rintro ⟨_, h, _, _⟩
          exact c2 (rgB_iff.mpr h)
        simp -dsimp -implicitDefEqProofs [c40, fld_land H.toLd, fld_people H.toLd, fld_many H.toLd, bi_len_row, e0, c', e1, c2, hsub, e3]
    · cases nb
  · have c' : awB v d.land.people.length 0 ((d.many : Int) - 1) = false := by simpa using c
    have e3 : isPlanB d.dn v = false := by
      rw [← Bool.not_eq_true]
      intro h
      apply c
      unfold isPlanB at h
      split at h
      · rename_i r hr
        have hr := rowOf_some hr
        subst hr
        simp only [decide_eq_true_eq, mem_plansN] at h
        have := nb_tup (ds := r.map nD) (many := d.many)
        have h2 : nbB (rowD r) d.many = true := by
          simp only [nbB, rowOf_row, List.all_eq_true, decide_eq_true_eq]
          exact h.2.2.1
        rw [show rowD r = .tup (r.map nD) from rfl] at h2 ⊢
        rw [this] at h2
        have hl : r.length = d.land.people.length := h.1
        simp only [awB, h2, Bool.and_true, decide_eq_true_eq, List.length_map]
        omega
      · cases h
    simp -dsimp -implicitDefEqProofs [c40, fld_land H.toLd, fld_people H.toLd, fld_many H.toLd, bi_len_row, e0, c', hsub, e3]
theorem sp_count (H : Is p) {d : DraftV} (hd : d.Ok) : p.cl (n + 5) 41 [draftD d] st = .ok (.int (plansN d.dn).length) st := by
  have pl := fun m s => sp_plans (n := m) (st := s) H.toPl hd
  have ll : biD .len [rowsD (plansN d.dn)] = some (.int (plansN d.dn).length) := by simp [rowsD]
  rw [cl_step H.f41 rfl]
  simp -dsimp -implicitDefEqProofs [c41, pl, ll]
theorem sp_first_none (H : Is p) {d : DraftV} (hd : d.Ok) (h0 : plansN d.dn = []) : p.cl (n + 5) 42 [draftD d] st = .exc 4 (.str "plan") st := by
  have pl := fun m s => sp_plans (n := m) (st := s) H.toPl hd
  have ll : biD .len [rowsD (plansN d.dn)] = some (.int 0) := by rw [h0]; rfl
  rw [cl_step H.f42 rfl]
  simp -dsimp -implicitDefEqProofs [c42, pl]
  rw [iff_eq (q := true) (st' := st) (by simp -dsimp -implicitDefEqProofs [ll])]
  simp -dsimp -implicitDefEqProofs
theorem sp_first_some (H : Is p) {d : DraftV} (hd : d.Ok) {r : List Nat} {rs : List (List Nat)} (h0 : plansN d.dn = r :: rs) : p.cl (n + 5) 42 [draftD d] st = .ok (rowD r) st := by
  have pl := fun m s => sp_plans (n := m) (st := s) H.toPl hd
  have ll : biD .len [rowsD (plansN d.dn)] = some (.int (rs.length + 1 : Nat)) := by rw [h0]; simp [rowsD]
  have lf : cmD .eq (.int ((rs.length + 1 : Nat) : Int)) (.int 0) = some false := by rw [cm_eq, decide_eq_false (by omega)]
  have ix : idxD st (rowsD (plansN d.dn)) (.int 0) = some (rowD r) := by
    rw [h0]
    exact idx_tup (i := 0) rfl
  rw [cl_step H.f42 rfl]
  simp -dsimp -implicitDefEqProofs [c42, pl]
  rw [iff_eq (q := false) (st' := st) (by simp -dsimp -implicitDefEqProofs [ll, lf, -cm_eq, -Int.natCast_add])]
  simp -dsimp -implicitDefEqProofs [ix]
theorem leads_data (ls : List Int) : D.data (leadsD ls) = true := dat_le (show 1 ≤ 40 by decide) (by simp only [leadsD, D.dat]; exact datL_map (fun a => by simp [D.dat]) ls)
theorem ties_data (ts : List (Nat × Nat)) : D.data (tiesD ts) = true := dat_le (show 2 ≤ 40 by decide) (by simp only [tiesD, D.dat]; exact datL_map (fun t => tie_dat 0 t) ts)
theorem leads_eqv (a b : List Int) : D.eqv (leadsD a) (leadsD b) = decide (a = b) := by simp only [leadsD, D.eqv]; exact eqvL_map int_eqv a b
theorem ties_eqv (a b : List (Nat × Nat)) : D.eqv (tiesD a) (tiesD b) = decide (a = b) := by simp only [tiesD, D.eqv]; exact eqvL_map tie_eqv a b
theorem leads_cm (a b : List Int) : cmD .eq (leadsD a) (leadsD b) = some (decide (a = b)) := by
  show (if (D.data _ && D.data _) = true then some (D.eqv _ _) else none) = _
  rw [leads_data, leads_data, leads_eqv]; rfl
theorem ties_cm (a b : List (Nat × Nat)) : cmD .eq (tiesD a) (tiesD b) = some (decide (a = b)) := by
  show (if (D.data _ && D.data _) = true then some (D.eqv _ _) else none) = _
  rw [ties_data, ties_data, ties_eqv]; rfl
theorem sp_land_eq (H : Ld p) (f10 : p.fd 10 = some c10) (a b : LandV) : p.cl (n + 1) 10 [landD a, landD b] st = .ok (.bl (decide (a = b))) st := by
  have nc0 : 0 < p.nc := Nat.lt_of_lt_of_le (by decide) H.nc
  refine eq_of_sat (sat_cl f10 rfl ?_)
  have is : isD p.nc (landD b) = true := by simp [isD, landD]; omega
  have hs : Ty.has (.cls 0) (landD b) = true := rfl
  simp -dsimp -implicitDefEqProofs [c10, is, hs, fld_people H, fld_leads H, fld_ties H, leads_cm, ties_cm]
  obtain ⟨p1, l1, t1⟩ := a
  obtain ⟨p2, l2, t2⟩ := b
  by_cases h1 : p1 = p2 <;> by_cases h2 : l1 = l2 <;> simp -dsimp -implicitDefEqProofs [h1, h2, LandV.mk.injEq]
theorem sp_draft_eq (H : Ld p) (f10 : p.fd 10 = some c10) (f14 : p.fd 14 = some c14) (a b : DraftV) : p.cl (n + 2) 14 [draftD a, draftD b] st = .ok (.bl (decide (a = b))) st := by
  have nc0 : 1 < p.nc := Nat.lt_of_lt_of_le (by decide) H.nc
  refine eq_of_sat (sat_cl f14 rfl ?_)
  have is : isD p.nc (draftD b) = true := by simp [isD, draftD]; omega
  have hs : Ty.has (.cls 1) (draftD b) = true := rfl
  have le := fun m s x y => sp_land_eq (n := m) (st := s) H f10 x y
  have o1 : ∀ l, isO (landD l) 0 = true := fun _ => rfl
  simp -dsimp -implicitDefEqProofs [c14, is, hs, fld_land H, fld_many H, fld_low H, fld_high H, cm_n_eq, -cm_eq, le, o1, eqR]
  obtain ⟨p1, l1, t1, u1⟩ := a
  obtain ⟨p2, l2, t2, u2⟩ := b
  by_cases h1 : l1 = l2 <;> by_cases h2 : t1 = t2 <;> by_cases h3 : u1 = u2 <;> simp -dsimp -implicitDefEqProofs [h1, h2, h3, DraftV.mk.injEq, eqR, le]
end
end Bp.Q
set_option Elab.async false
set_option linter.all false
set_option maxRecDepth 100000
/-! BpR1: values changed at one place; other small defs of the laws. -/
namespace Bp.Q
open PySem
mutual
/-- small data: of depth n, at most L items each -/
def Sm : Nat → Nat → D → Bool
  | _, _, .non => true
  | _, _, .bl _ => true
  | _, _, .int i => decide (i.natAbs < 2 ^ 63)
  | _, _, .str _ => true
  | n, L, .tup ds => match n with
    | 0 => false
    | n + 1 => decide (ds.length ≤ L) && SmL n L ds
  | n, L, .lst ds => match n with
    | 0 => false
    | n + 1 => decide (ds.length ≤ L) && SmL n L ds
  | _, _, .dct _ _ => false
  | _, _, .obj _ _ => false
  | _, _, .ref _ => false
  | _, _, .scr _ => false
def SmL : Nat → Nat → List D → Bool
  | _, _, [] => true
  | n, L, d :: ds => Sm n L d && SmL n L ds
end
theorem SmL_iff {n L : Nat} : ∀ {ds : List D}, SmL n L ds = true ↔ ∀ d ∈ ds, Sm n L d = true
  | [] => by simp [SmL]
  | d :: ds => by simp [SmL, SmL_iff (ds := ds)]
mutual
theorem Sm_dat : ∀ {n L : Nat} {d : D}, Sm n L d = true → D.dat n d = true
  | _, _, .non, _ => by simp [D.dat]
  | _, _, .bl _, _ => by simp [D.dat]
  | _, _, .int _, _ => by simp [D.dat]
  | _, _, .str _, _ => by simp [D.dat]
  | 0, _, .tup ds, h => by simp [Sm] at h
  | n + 1, L, .tup ds, h => by simp only [Sm, Bool.and_eq_true] at h; simp only [D.dat]; exact SmL_dat h.2
  | 0, _, .lst ds, h => by simp [Sm] at h
  | n + 1, L, .lst ds, h => by simp only [Sm, Bool.and_eq_true] at h; simp only [D.dat]; exact SmL_dat h.2
  | _, _, .dct _ _, h => by simp [Sm] at h
  | _, _, .obj _ _, h => by simp [Sm] at h
  | _, _, .ref _, h => by simp [Sm] at h
  | _, _, .scr _, h => by simp [Sm] at h
theorem SmL_dat : ∀ {n L : Nat} {ds : List D}, SmL n L ds = true → D.datL n ds = true
  | _, _, [], _ => by simp [D.datL]
  | n, L, d :: ds, h => by
    simp only [SmL, Bool.and_eq_true] at h
    simp only [D.datL, Sm_dat h.1, SmL_dat h.2, Bool.and_self]
end
mutual
theorem Sm_mono : ∀ {n L m M : Nat} {d : D}, n ≤ m → L ≤ M → Sm n L d = true → Sm m M d = true
  | _, _, _, _, .non, _, _, _ => by simp [Sm]
  | _, _, _, _, .bl _, _, _, _ => by simp [Sm]
  | _, _, _, _, .int _, _, _, h => by simpa [Sm] using h
  | _, _, _, _, .str _, _, _, _ => by simp [Sm]
  | 0, _, _, _, .tup ds, _, _, h => by simp [Sm] at h
  | n + 1, L, 0, M, .tup ds, hn, _, _ => by omega
  | n + 1, L, m + 1, M, .tup ds, hn, hL, h => by
    simp only [Sm, Bool.and_eq_true, decide_eq_true_eq] at h ⊢
    exact ⟨by omega, SmL_mono (by omega) hL h.2⟩
  | 0, _, _, _, .lst ds, _, _, h => by simp [Sm] at h
  | n + 1, L, 0, M, .lst ds, hn, _, _ => by omega
  | n + 1, L, m + 1, M, .lst ds, hn, hL, h => by
    simp only [Sm, Bool.and_eq_true, decide_eq_true_eq] at h ⊢
    exact ⟨by omega, SmL_mono (by omega) hL h.2⟩
  | _, _, _, _, .dct _ _, _, _, h => by simp [Sm] at h
  | _, _, _, _, .obj _ _, _, _, h => by simp [Sm] at h
  | _, _, _, _, .ref _, _, _, h => by simp [Sm] at h
  | _, _, _, _, .scr _, _, _, h => by simp [Sm] at h
theorem SmL_mono : ∀ {n L m M : Nat} {ds : List D}, n ≤ m → L ≤ M → SmL n L ds = true → SmL m M ds = true
  | _, _, _, _, [], _, _, _ => by simp [SmL]
  | n, L, m, M, d :: ds, hn, hL, h => by
    simp only [SmL, Bool.and_eq_true] at h ⊢
    exact ⟨Sm_mono hn hL h.1, SmL_mono hn hL h.2⟩
end
theorem Sm_tup {n L : Nat} {ds : List D} : Sm (n + 1) L (.tup ds) = true ↔ ds.length ≤ L ∧ ∀ d ∈ ds, Sm n L d = true := by
  simp only [Sm, Bool.and_eq_true, decide_eq_true_eq, SmL_iff]
theorem Sm_lst {n L : Nat} {ds : List D} : Sm (n + 1) L (.lst ds) = true ↔ ds.length ≤ L ∧ ∀ d ∈ ds, Sm n L d = true := by
  simp only [Sm, Bool.and_eq_true, decide_eq_true_eq, SmL_iff]
theorem Sm_data {n L : Nat} {d : D} (hn : n ≤ 40) (h : Sm n L d = true) : D.data d = true := dat_le hn (Sm_dat h)
theorem Sm_isD {n L nc : Nat} {d : D} (h : Sm n L d = true) : isD nc d = true := isD_of_dat (Sm_dat h)
theorem cut_sub {ds : List D} {l h : Option Int} : ∀ d ∈ cut ds l h, d ∈ ds := fun d hd => List.mem_of_mem_drop (List.mem_of_mem_take hd)
theorem cut_len (ds : List D) (l h : Option Int) : (cut ds l h).length ≤ ds.length := by
  rw [cut, List.length_take, List.length_drop]; omega
/-- the laws' changed values -/
structure Spo (p : Prog) : Prop extends Dr p, Lp p where
  f44 : p.fd 44 = some c44
section
variable {p : Prog} {n : Nat} {st : Store}
/-- a value changed is small again -/
def Spt (st : Store) (r : Nat) (k L : Nat) (d : D) (st' : Store) : Prop := Upd st st' r ∧ Sm k L d = true
theorem pick_sm (H : Dr p) {r : Nat} {ds : List D} {k L : Nat} (hb : Box st r) (h1 : ds ≠ []) (h2 : ds.length < 1000) (h : ∀ d ∈ ds, Sm k L d = true) : Sat (p.cl (n + 2) 25 [.ref r, .lst ds] st) (Spt st r k L) :=
  (dr_pick H hb h1 (by omega)).mono fun d st' ⟨hd, u⟩ => ⟨u, h d hd⟩
theorem spoil_int (H : Spo p) {r deep : Nat} {i : Int} {k L : Nat} (hb : Box st r) (hi : i.natAbs ≤ 1000000) : Sat (p.cl (n + 3) 44 [.ref r, .int i, .int deep] st) (Spt st r (k + 1) (L + 5)) := by
  refine sat_cl H.f44 rfl ?_
  have w := fun m s => lw_whole (n := m) (st := s) H.toLp (d := .int i) rfl
  have sb : biD .str [.int i] = some (.str (toString i : String)) := by
    show (if i.natAbs.log2 < 1920 then some (D.str (toString i : String)) else none) = _
    rw [if_pos]
    have : i.natAbs.log2 ≤ i.natAbs := Nat.log2_le_self _
    have h2 : i.natAbs.log2 < 64 := by
      by_cases h : i.natAbs = 0
      · rw [h]; decide
      · exact (Nat.log2_lt h).mpr (by omega)
    omega
  simp -dsimp -implicitDefEqProofs [c44, isD, Ty.has, w, isIntB, negD, sb, fits]
  refine (pick_sm H.toDr (k := k + 1) (L := L + 5) hb (by simp) (by simp) ?_).mono ?_
  · intro d hd
    simp only [List.mem_cons, List.not_mem_nil, or_false] at hd
    rcases hd with rfl | rfl | rfl | rfl | rfl | rfl | rfl | rfl <;> simp [Sm, SmL] <;> omega
  · intro d st' h
    simp -dsimp -implicitDefEqProofs
    exact h
theorem Sm_int {k L : Nat} {i : Int} (h : i.natAbs ≤ 1000000) : Sm k L (.int i) = true := by simp [Sm]; omega
mutual
/-- ints and tuples of them -/
def Si : Nat → Nat → D → Bool
  | _, _, .int i => decide (i.natAbs ≤ 1000000)
  | n, L, .tup ds => match n with
    | 0 => false
    | n + 1 => decide (ds.length ≤ L) && SiL n L ds
  | _, _, .non => false
  | _, _, .bl _ => false
  | _, _, .str _ => false
  | _, _, .lst _ => false
  | _, _, .dct _ _ => false
  | _, _, .obj _ _ => false
  | _, _, .ref _ => false
  | _, _, .scr _ => false
def SiL : Nat → Nat → List D → Bool
  | _, _, [] => true
  | n, L, d :: ds => Si n L d && SiL n L ds
end
theorem SiL_iff {n L : Nat} : ∀ {ds : List D}, SiL n L ds = true ↔ ∀ d ∈ ds, Si n L d = true
  | [] => by simp [SiL]
  | d :: ds => by simp [SiL, SiL_iff (ds := ds)]
mutual
theorem Si_sm : ∀ {n L : Nat} {d : D}, Si n L d = true → Sm n L d = true
  | _, _, .int i, h => by simp [Si] at h; exact Sm_int h
  | 0, _, .tup ds, h => by simp [Si] at h
  | n + 1, L, .tup ds, h => by
    simp only [Si, Bool.and_eq_true] at h
    simp only [Sm, Bool.and_eq_true]
    exact ⟨h.1, SiL_sm h.2⟩
  | _, _, .non, h => by simp [Si] at h
  | _, _, .bl _, h => by simp [Si] at h
  | _, _, .str _, h => by simp [Si] at h
  | _, _, .lst _, h => by simp [Si] at h
  | _, _, .dct _ _, h => by simp [Si] at h
  | _, _, .obj _ _, h => by simp [Si] at h
  | _, _, .ref _, h => by simp [Si] at h
  | _, _, .scr _, h => by simp [Si] at h
theorem SiL_sm : ∀ {n L : Nat} {ds : List D}, SiL n L ds = true → SmL n L ds = true
  | _, _, [], _ => by simp [SmL]
  | n, L, d :: ds, h => by
    simp only [SiL, Bool.and_eq_true] at h
    simp only [SmL, Si_sm h.1, SiL_sm h.2, Bool.and_self]
end
theorem op_tt {a b : List D} (h : a.length + b.length ≤ 16777216) : opD .add (.tup a) (.tup b) = some (.tup (a ++ b)) := by
  show (if fits (a.length + b.length) = true then some (D.tup (a ++ b)) else none) = _
  rw [if_pos (by simp [fits]; exact h)]
theorem ne_nil_tup {ds : List D} (h : D.datL 39 ds = true) : cmD .ne (.tup ds) (.tup []) = some (!ds.isEmpty) := by
  have h1 : D.data (.tup ds) = true := h
  show (if (D.data (.tup ds) && D.data (.tup [])) = true then some (!D.eqv (.tup ds) (.tup [])) else none) = _
  rw [h1]
  cases ds <;> simp [D.data, D.dat, D.datL, D.eqv, D.eqvL]
theorem cut_si {ds : List D} {k L : Nat} (h : ∀ d ∈ ds, Sm k L d = true) (l u : Option Int) : ∀ d ∈ cut ds l u, Sm k L d = true := fun d hd => h d (cut_sub d hd)
theorem spoil_tup (H : Spo p) {r deep : Nat} {ds : List D} {k L : Nat} (hb : Box st r) (hl : ds.length ≤ L) (hL : L ≤ 100000) (hk : k ≤ 30) (hd : ∀ d ∈ ds, Si k L d = true)
    (rec_ : ∀ {st : Store} {v : D}, Box st r → v ∈ ds → 0 < deep → Sat (p.cl (n + 3) 44 [.ref r, v, .int ((deep : Int) - 1)] st) (Spt st r (k + 1) (3 * L + 5))) :
    Sat (p.cl (n + 4) 44 [.ref r, .tup ds, .int deep] st) (Spt st r (k + 2) (3 * L + 5)) := by
  refine sat_cl H.f44 rfl ?_
  have hs : ∀ d ∈ ds, Sm k L d = true := fun d h => Si_sm (hd d h)
  have h39 : D.datL 39 ds = true := datL_le (by omega) (SmL_dat (SmL_iff.mpr hs))
  have hs' : ∀ l u, ∀ d ∈ cut ds l u, Sm (k + 1) (3 * L + 5) d = true := fun l u d hd => Sm_mono (by omega) (by omega) (hs d (cut_sub d hd))
  have sl : ∀ l u, slcD (.tup ds) l u = some (.tup (cut ds l u)) := fun _ _ => rfl
  have cl := fun l u => cut_len ds l u
  have sm : ∀ es : List D, es.length ≤ 3 * L + 5 → (∀ d ∈ es, Sm (k + 1) (3 * L + 5) d = true) → Sm (k + 2) (3 * L + 5) (.tup es) = true := fun es h1 h2 => Sm_tup.mpr ⟨h1, h2⟩
  have two : ∀ l u l' u', opD .add (.tup (cut ds l u)) (.tup (cut ds l' u')) = some (.tup (cut ds l u ++ cut ds l' u')) := fun l u l' u' => op_tt (by have := cl l u; have := cl l' u'; omega)
  have mem2 : ∀ l u l' u', ∀ d ∈ cut ds l u ++ cut ds l' u', Sm (k + 1) (3 * L + 5) d = true := fun l u l' u' d hd => by
    rcases List.mem_append.mp hd with h | h
    · exact hs' _ _ d h
    · exact hs' _ _ d h
  have z0 : Sm (k + 1) (3 * L + 5) (.int 0) = true := Sm_int (by decide)
  have zt : Sm (k + 1) (3 * L + 5) (.tup []) = true := Sm_tup.mpr ⟨by simp, by simp⟩
  have w1 := ne_nil_tup h39
  have tail : ∀ {st1 : Store} {x3 x4 : Option Slot} {at_ : Nat}, Upd st st1 r → at_ ≤ ds.length → Sat (evSs (p.cf (n + 3)) [.asg (.slot 4) (.call 24 [(.var 0), (.cst (.int 8))]), .iff (.cmp .eq (.var 4) (.cst (.int 0))) [.ret (.app .list [(.var 1)])] [], .iff (.cmp .eq (.var 4) (.cst (.int 1))) [.ret (.bin .add (.slc false true (.var 1) (.cst .non) (.var 3)) (.slc true false (.var 1) (.bin .add (.var 3) (.cst (.int 1))) (.cst .non)))] [], .iff (.cmp .eq (.var 4) (.cst (.int 2))) [.ret (.bin .add (.bin .add (.slc false true (.var 1) (.cst .non) (.var 3)) (.slc true true (.var 1) (.var 3) (.bin .add (.var 3) (.cst (.int 1))))) (.slc true false (.var 1) (.var 3) (.cst .non)))] [], .iff (.cmp .eq (.var 4) (.cst (.int 3))) [.ret (.bin .add (.slc true false (.var 1) (.var 3) (.cst .non)) (.slc false true (.var 1) (.cst .non) (.var 3)))] [], .iff (.cmp .eq (.var 4) (.cst (.int 4))) [.ret (.bin .add (.var 1) (.tup [(.tup [])]))] [], .iff (.cmp .eq (.var 4) (.cst (.int 5))) [.ret (.bin .add (.bin .add (.slc false true (.var 1) (.cst .non) (.var 3)) (.tup [(.cst (.int 0))])) (.slc true false (.var 1) (.var 3) (.cst .non)))] [], .iff (.cmp .eq (.var 4) (.cst (.int 6))) [.ret (.bin .add (.slc false true (.var 1) (.cst .non) (.neg (.cst (.int 1)))) (.slc false true (.var 1) (.cst .non) (.cst (.int 1))))] [], .ret (.cst .non)] [some (.val (.ref r)), some (.val (.tup ds)), some (.val (.int deep)), some (.val (.int at_)), x4] st1) (fun o st' => ∃ d, o = .ret d ∧ Spt st r (k + 2) (3 * L + 5) d st') := by
    intro st1 x3 x4 at_ u1 ha
    have k2 : ∀ a b c : List D, a.length + b.length + c.length ≤ 16777216 → opD .add (.tup (a ++ b)) (.tup c) = some (.tup (a ++ b ++ c)) := fun a b c h => op_tt (by rw [List.length_append]; omega)
    have mem3 : ∀ l u l' u' l2 u2, ∀ d ∈ cut ds l u ++ cut ds l' u' ++ cut ds l2 u2, Sm (k + 1) (3 * L + 5) d = true := fun l u l' u' l2 u2 d hd => by
      rcases List.mem_append.mp hd with h | h
      · exact mem2 _ _ _ _ d h
      · exact hs' _ _ d h
    simp -dsimp -implicitDefEqProofs only [t_cons, next_nxt, t_asg]
    simp -dsimp -implicitDefEqProofs
    refine (dr_take H.toDr u1.box (m := 8) (by omega) (by omega)).mono ?_
    rintro _ st2 ⟨how, rfl, h1, h2, u2⟩
    have U := u1.trans u2
    simp -dsimp -implicitDefEqProofs
    refine br_of (fun q => ?_) (fun q => ?_)
    · simp -dsimp -implicitDefEqProofs
      exact ⟨U, Sm_lst.mpr ⟨by omega, fun d hd => Sm_mono (by omega) (by omega) (hs d hd)⟩⟩
    simp -dsimp -implicitDefEqProofs
    refine br_of (fun q => ?_) (fun q => ?_)
    · simp -dsimp -implicitDefEqProofs [partR, sl, two]
      exact ⟨U, sm _ (by rw [List.length_append]; have := cl none (some (at_ : Int)); have := cl (some ((at_ : Int) + 1)) none; omega) (mem2 _ _ _ _)⟩
    simp -dsimp -implicitDefEqProofs
    refine br_of (fun q => ?_) (fun q => ?_)
    · have c1 := cl none (some (at_ : Int))
      have c2 := cl (some (at_ : Int)) (some ((at_ : Int) + 1))
      have c3 := cl (some (at_ : Int)) none
      have e3 := k2 (cut ds none (some (at_ : Int))) (cut ds (some (at_ : Int)) (some ((at_ : Int) + 1))) (cut ds (some (at_ : Int)) none) (by omega)
      simp -dsimp -implicitDefEqProofs [partR, sl, two, e3, -List.append_assoc]
      exact ⟨U, sm _ (by rw [List.length_append, List.length_append]; omega) (mem3 _ _ _ _ _ _)⟩
    simp -dsimp -implicitDefEqProofs
    refine br_of (fun q => ?_) (fun q => ?_)
    · simp -dsimp -implicitDefEqProofs [partR, sl, two]
      exact ⟨U, sm _ (by rw [List.length_append]; have := cl none (some (at_ : Int)); have := cl (some (at_ : Int)) none; omega) (mem2 _ _ _ _)⟩
    simp -dsimp -implicitDefEqProofs
    refine br_of (fun q => ?_) (fun q => ?_)
    · have e4 : opD .add (.tup ds) (.tup [.tup []]) = some (.tup (ds ++ [.tup []])) := op_tt (by simp; omega)
      simp -dsimp -implicitDefEqProofs [fits, e4]
      refine ⟨U, sm _ (by simp; omega) fun d hd => ?_⟩
      rcases List.mem_append.mp hd with h | h
      · exact Sm_mono (by omega) (by omega) (hs d h)
      · rw [List.mem_singleton] at h; subst h; exact zt
    simp -dsimp -implicitDefEqProofs
    refine br_of (fun q => ?_) (fun q => ?_)
    · have c1 := cl none (some (at_ : Int))
      have c3 := cl (some (at_ : Int)) none
      have e1 : opD .add (.tup (cut ds none (some (at_ : Int)))) (.tup [.int 0]) = some (.tup (cut ds none (some (at_ : Int)) ++ [.int 0])) := op_tt (by simp; omega)
      have e3 := k2 (cut ds none (some (at_ : Int))) [.int 0] (cut ds (some (at_ : Int)) none) (by simp; omega)
      simp -dsimp -implicitDefEqProofs [partR, sl, fits, e1, e3, -List.append_assoc]
      refine ⟨U, sm _ (by simp; omega) fun d hd => ?_⟩
      rcases List.mem_append.mp hd with h | h
      · rcases List.mem_append.mp h with h | h
        · exact hs' _ _ d h
        · rw [List.mem_singleton] at h; subst h; exact z0
      · exact hs' _ _ d h
    simp -dsimp -implicitDefEqProofs
    refine br_of (fun q => ?_) (fun q => ?_)
    · simp -dsimp -implicitDefEqProofs [partR, sl, two, negD]
      exact ⟨U, sm _ (by rw [List.length_append]; have := cl none (some (-1 : Int)); have := cl none (some (1 : Int)); omega) (mem2 _ _ _ _)⟩
    simp -dsimp -implicitDefEqProofs
    exact ⟨U, by simp [Sm]⟩
  simp -dsimp -implicitDefEqProofs [c44, isD, Ty.has]
  refine (dr_take H.toDr hb (m := (ds.length : Int) + 1) (by omega) (by omega)).mono ?_
  rintro _ st1 ⟨at_, rfl, a1, a2, u1⟩
  obtain ⟨at_, rfl⟩ : ∃ j : Nat, at_ = j := ⟨at_.toNat, by omega⟩
  by_cases c : ds ≠ [] ∧ 0 < deep
  · obtain ⟨c1, c2⟩ := c
    have he : ds.isEmpty = false := by cases ds with
      | nil => exact absurd rfl c1
      | cons _ _ => rfl
    have hg : cmD .gt (.int (deep : Int)) (.int 0) = some true := by rw [cm_gt, decide_eq_true (by omega)]
    rw [he] at w1
    have hlp := List.length_pos_iff.mpr c1
    simp -dsimp -implicitDefEqProofs [fits, w1, hg, -cm_gt]
    refine (dr_take H.toDr u1.box (m := 5) (by omega) (by omega)).mono ?_
    rintro _ st2 ⟨v, rfl, v1, v2, u2⟩
    have U2 := u1.trans u2
    simp -dsimp -implicitDefEqProofs
    refine br_of (fun q => ?_) (fun q => ?_)
    · have mo : opD .mod (.int (at_ : Int)) (.int ds.length) = some (.int ((at_ : Int).fmod ds.length)) := op_mod' (by omega)
      obtain ⟨j, hj⟩ : ∃ j : Nat, (at_ : Int).fmod ds.length = j := ⟨((at_ : Int).fmod ds.length).toNat, by have := Int.fmod_nonneg_of_pos (at_ : Int) (show (0 : Int) < ds.length by omega); omega⟩
      have hjl : j < ds.length := by
        have := Int.fmod_lt_of_pos (at_ : Int) (show (0 : Int) < ds.length by omega)
        omega
      rw [hj] at mo
      have ix : ∀ st, idxD st (.tup ds) (.int (j : Int)) = some ds[j] := fun st => idx_tup (List.getElem?_eq_getElem hjl)
      simp -dsimp -implicitDefEqProofs [mo, partR, sl, ix]
      refine (rec_ U2.box (List.getElem_mem hjl) c2).mono ?_
      rintro w st3 ⟨u3, hw⟩
      have cA := cl none (some (j : Int))
      have cB := cl (some ((j : Int) + 1)) none
      have e1 : opD .add (.tup (cut ds none (some (j : Int)))) (.tup [w]) = some (.tup (cut ds none (some (j : Int)) ++ [w])) := op_tt (by simp; omega)
      have e3 : opD .add (.tup (cut ds none (some (j : Int)) ++ [w])) (.tup (cut ds (some ((j : Int) + 1)) none)) = some (.tup (cut ds none (some (j : Int)) ++ [w] ++ cut ds (some ((j : Int) + 1)) none)) := op_tt (by simp; omega)
      simp -dsimp -implicitDefEqProofs [fits, e1, e3, partR, sl, -List.append_assoc]
      refine ⟨U2.trans u3, sm _ (by simp; omega) fun d hd => ?_⟩
      rcases List.mem_append.mp hd with h | h
      · rcases List.mem_append.mp h with h | h
        · exact hs' _ _ d h
        · rw [List.mem_singleton] at h; subst h; exact hw
      · exact hs' _ _ d h
    · simp -dsimp -implicitDefEqProofs only [t_nil, sat_okS, next_nxt]
      refine (tail (x3 := none) U2 (by omega)).mono ?_
      rintro _ st3 ⟨d, rfl, h⟩
      simp -dsimp -implicitDefEqProofs
      exact h
  · have cond : ∀ st, evE (p.cf (n + 3)) (.and (.cmp .ne (.var 1) (.tup [])) (.and (.cmp .gt (.var 2) (.cst (.int 0))) (.cmp .gt (.call 24 [(.var 0), (.cst (.int 5))]) (.cst (.int 0))))) .tst [some (.val (.ref r)), some (.val (.tup ds)), some (.val (.int deep)), some (.val (.int at_)), none] st = .ok (.bl false) st := fun st => by
      by_cases e : ds = []
      · rw [e] at w1 ⊢
        simp -dsimp -implicitDefEqProofs [fits, w1]
      · have hg : cmD .gt (.int (deep : Int)) (.int 0) = some false := by
          rw [cm_gt, decide_eq_false]
          intro h
          exact c ⟨e, by omega⟩
        have he : ds.isEmpty = false := by cases ds with
          | nil => exact absurd rfl e
          | cons _ _ => rfl
        rw [he] at w1
        simp -dsimp -implicitDefEqProofs [fits, w1, hg, -cm_gt]
    rw [sat_okS, next_nxt, t_cons, sat_bd, iff_eq (cond st1)]
    simp -dsimp -implicitDefEqProofs only [Bool.false_eq_true, if_false, t_nil, sat_okS, next_nxt]
    refine (tail (x3 := none) u1 (by omega)).mono ?_
    rintro _ st3 ⟨d, rfl, h⟩
    simp -dsimp -implicitDefEqProofs
    exact h
theorem spoil (H : Spo p) : ∀ (k : Nat) {n : Nat} {st : Store} {r L deep : Nat} {v : D}, Box st r → Si k L v = true → L ≤ 100000 → k ≤ 30 → Sat (p.cl (n + k + 3) 44 [.ref r, v, .int deep] st) (Spt st r (k + 1) (3 * L + 5)) := by
  intro k
  induction k with
  | zero =>
    intro n st r L deep v hb hv hL hk
    cases v <;> simp [Si] at hv
    rename_i i
    exact (spoil_int H (L := L) hb hv).mono fun d st' h => ⟨h.1, Sm_mono (Nat.le_refl _) (by omega) h.2⟩
  | succ k ih =>
    intro n st r L deep v hb hv hL hk
    cases v <;> simp [Si] at hv
    · rename_i i
      exact (spoil_int H (k := k + 1) (L := L) (n := n + k + 1) hb hv).mono fun d st' h => ⟨h.1, Sm_mono (Nat.le_refl _) (by omega) h.2⟩
    · rename_i ds
      refine spoil_tup H (n := n + k) hb hv.1 hL (by omega) (SiL_iff.mp hv.2) ?_
      intro st' v hb' hv' hdp
      have := ih (n := n) (st := st') (r := r) (L := L) (deep := deep - 1) hb' (SiL_iff.mp hv.2 v hv') hL (by omega)
      rw [show ((deep : Int) - 1) = ((deep - 1 : Nat) : Int) by omega]
      exact this
end
end Bp.Q
set_option Elab.async false
set_option linter.all false
set_option maxRecDepth 100000
/-! BpR2: drafts that are none; first plans told; what is due. -/
namespace Bp.Q
open PySem
theorem cm_ne_refl {d : D} (h : D.data d = true) : cmD .ne d d = some false := by
  show (if (D.data d && D.data d) = true then some (!D.eqv d d) else none) = _
  rw [h, eqv_refl h]; rfl
section
variable {p : Prog} {n : Nat} {st : Store}
theorem init_exc1 (H : Ld p) {x l a b c : D} (ia : isD p.nc a = true) (ha : wiB a 1 4 = false) : p.cl (n + 3) 13 [x, l, a, b, c] st = .exc 0 a st := by
  rw [cl_step H.f13 rfl]
  show outD (evSs _ c13.body _ st) = _
  rw [show c13.body = .iff (.not (.call 1 [(.var 2), (.cst (.int 1)), (.glo 4)])) [.rais 0 (.var 2)] [] :: c13.body.drop 1 from rfl, t_cons, iff_eq (q := true) (st' := st) (by simp -dsimp -implicitDefEqProofs [c13, sp_within H.toKd ia, H.g4, ha])]
  simp -dsimp -implicitDefEqProofs [c13]
theorem init_exc2 (H : Ld p) {x l a b c : D} (ia : isD p.nc a = true) (ha : wiB a 1 4 = true) (ib : isD p.nc b = true) (hb : wiB b 0 999 = false) : p.cl (n + 3) 13 [x, l, a, b, c] st = .exc 0 b st := by
  rw [cl_step H.f13 rfl]
  show outD (evSs _ c13.body _ st) = _
  rw [show c13.body = .iff (.not (.call 1 [(.var 2), (.cst (.int 1)), (.glo 4)])) [.rais 0 (.var 2)] [] :: .iff (.not (.call 1 [(.var 3), (.cst (.int 0)), (.glo 5)])) [.rais 0 (.var 3)] [] :: c13.body.drop 2 from rfl, t_cons, iff_eq (q := false) (st' := st) (by simp -dsimp -implicitDefEqProofs [c13, sp_within H.toKd ia, H.g4, ha])]
  rw [if_neg (by simp), t_nil, rb_ok, next_nxt, t_cons, iff_eq (q := true) (st' := st) (by simp -dsimp -implicitDefEqProofs [c13, sp_within H.toKd ib, H.g5, hb])]
  simp -dsimp -implicitDefEqProofs [c13]
theorem init_exc3 (H : Ld p) {x l a c : D} {lo : Int} (ia : isD p.nc a = true) (ha : wiB a 1 4 = true) (hb : wiB (.int lo) 0 999 = true) (ic : isD p.nc c = true) (hc : wiB c lo 999 = false) : p.cl (n + 3) 13 [x, l, a, .int lo, c] st = .exc 0 c st := by
  rw [cl_step H.f13 rfl]
  show outD (evSs _ c13.body _ st) = _
  rw [show c13.body = .iff (.not (.call 1 [(.var 2), (.cst (.int 1)), (.glo 4)])) [.rais 0 (.var 2)] [] :: .iff (.not (.call 1 [(.var 3), (.cst (.int 0)), (.glo 5)])) [.rais 0 (.var 3)] [] :: .iff (.not (.call 1 [(.var 4), (.var 3), (.glo 5)])) [.rais 0 (.var 4)] [] :: c13.body.drop 3 from rfl, t_cons, iff_eq (q := false) (st' := st) (by simp -dsimp -implicitDefEqProofs [c13, sp_within H.toKd ia, H.g4, ha])]
  rw [if_neg (by simp), t_nil, rb_ok, next_nxt, t_cons, iff_eq (q := false) (st' := st) (by simp -dsimp -implicitDefEqProofs [c13, sp_within H.toKd (d := .int lo) rfl, H.g5, hb])]
  rw [if_neg (by simp), t_nil, rb_ok, next_nxt, t_cons, iff_eq (q := true) (st' := st) (by simp -dsimp -implicitDefEqProofs [c13, sp_within H.toKd ic, H.g5, hc])]
  simp -dsimp -implicitDefEqProofs [c13]
theorem mk_exc (H : Ld p) {l a b c d : D} {st' : Store} {m : Nat} (h : p.cl m 13 [.ref st.length, l, a, b, c] (st ++ [.inst 1 []]) = .exc 0 d st') : mkR (p.cf m) 1 [l, a, b, c] st = .exc 0 d st' := by
  unfold mkR
  rw [rcf_ini, H.i1]
  simp only [rcf_cl, h]
/-- _law_told of k03 -/
theorem told_num (H : Ld p) (f37 : p.fd 37 = some c37) (x0 : p.xs.contains 0 = true) {l a b c d : D} {st' : Store} (h : p.cl n 13 [.ref st.length, l, a, b, c] (st ++ [.inst 1 []]) = .exc 0 d st') : p.cl (n + 1) 37 [l, a, b, c] st = .ok (.tup [.str "number", d]) st' := by
  have m := mk_exc H h
  have e3 : evSs (p.cf n) [.asg (.slot 5) (.mk 1 [(.var 0), (.var 1), (.var 2), (.var 3)])] [some (.val l), some (.val a), some (.val b), some (.val c), none, none] st = .exc 0 d st' := by
    simp -dsimp -implicitDefEqProofs [m]
  rw [cl_step f37 rfl]
  show outD (evSs _ (.tri [.asg (.slot 5) (.mk 1 [(.var 0), (.var 1), (.var 2), (.var 3)])] 4 0 "number" :: c37.body.drop 1) [some (.val l), some (.val a), some (.val b), some (.val c), none, none] st) = _
  rw [t_cons, t_tri_exc e3 x0]
  try rfl
theorem told_kept (H : Ld p) (f37 : p.fd 37 = some c37) {d : DraftV} (hd : d.Ok) : p.cl (n + 4) 37 [landD d.land, nD d.many, nD d.low, nD d.high] st = .ok (.tup [.str "kept", nD d.many, nD d.low, nD d.high]) st := by
  have m := sp_mk_draft (n := n) H hd st
  have e3 : evSs (p.cf (n + 3)) [.asg (.slot 5) (.mk 1 [(.var 0), (.var 1), (.var 2), (.var 3)])] [some (.val (landD d.land)), some (.val (nD d.many)), some (.val (nD d.low)), some (.val (nD d.high)), none, none] st = .ok (.nxt [some (.val (landD d.land)), some (.val (nD d.many)), some (.val (nD d.low)), some (.val (nD d.high)), none, some (.val (draftD d))]) st := by
    simp -dsimp -implicitDefEqProofs [m]
  rw [cl_step f37 rfl]
  show outD (evSs _ (.tri [.asg (.slot 5) (.mk 1 [(.var 0), (.var 1), (.var 2), (.var 3)])] 4 0 "number" :: c37.body.drop 1) [some (.val (landD d.land)), some (.val (nD d.many)), some (.val (nD d.low)), some (.val (nD d.high)), none, none] st) = _
  rw [t_cons, t_tri_ok e3, rb_ok, next_nxt]
  simp -dsimp -implicitDefEqProofs [c37, fld_many H, fld_low H, fld_high H, fits]
theorem lw_first_none (H : Is p) (f45 : p.fd 45 = some c45) (x4 : p.xs.contains 4 = true) {d : DraftV} (hd : d.Ok) (h0 : plansN d.dn = []) : p.cl (n + 6) 45 [draftD d] st = .ok (.tup [.str "undefined", .str "plan"]) st := by
  have m := sp_first_none (n := n) (st := st) H hd h0
  have e3 : evSs (p.cf (n + 5)) [.ret (.tup [(.cst (.str "plan")), (.call 42 [(.var 0)])])] [some (.val (draftD d)), none] st = .exc 4 (.str "plan") st := by
    simp -dsimp -implicitDefEqProofs [m]
  rw [cl_step f45 rfl]
  show outD (evSs _ [.tri [.ret (.tup [(.cst (.str "plan")), (.call 42 [(.var 0)])])] 1 4 "undefined"] [some (.val (draftD d)), none] st) = _
  rw [t_cons, t_tri_exc e3 x4]
  try rfl
theorem lw_first_some (H : Is p) (f45 : p.fd 45 = some c45) {d : DraftV} (hd : d.Ok) {r : List Nat} {rs : List (List Nat)} (h0 : plansN d.dn = r :: rs) : p.cl (n + 6) 45 [draftD d] st = .ok (.tup [.str "plan", rowD r]) st := by
  have m := sp_first_some (n := n) (st := st) H hd h0
  have e3 : evSs (p.cf (n + 5)) [.ret (.tup [(.cst (.str "plan")), (.call 42 [(.var 0)])])] [some (.val (draftD d)), none] st = .ok (.ret (.tup [.str "plan", rowD r])) st := by
    simp -dsimp -implicitDefEqProofs [m, fits]
  rw [cl_step f45 rfl]
  show outD (evSs _ [.tri [.ret (.tup [(.cst (.str "plan")), (.call 42 [(.var 0)])])] 1 4 "undefined"] [some (.val (draftD d)), none] st) = _
  rw [t_cons, t_tri_ok e3]
  try rfl
theorem lw_due (f43 : p.fd 43 = some c43) (a b : Bool) : p.cl (n + 1) 43 [.bl a, .bl b] st = .ok (.bl (a == b)) st := by
  rw [cl_step f43 rfl]
  have c1 : cmD .is (.bl a) (.bl true) = some (a == true) := rfl
  have c2 : cmD .is (.bl a) (.bl false) = some (a == false) := rfl
  cases b
  · cases a <;> simp -dsimp -implicitDefEqProofs [c43, c1, c2]
  · cases a <;> simp -dsimp -implicitDefEqProofs [c43, c1, c2]
end
end Bp.Q
set_option Elab.async false
set_option linter.all false
set_option maxRecDepth 100000
/-! BpQ03: law k03. -/
namespace Bp.Q
open PySem
structure K03 (p : Prog) : Prop extends Is p, Spo p where
  f10 : p.fd 10 = some c10
  f14 : p.fd 14 = some c14
  f36 : p.fd 36 = some c36
  f37 : p.fd 37 = some c37
  f43 : p.fd 43 = some c43
  f45 : p.fd 45 = some c45
  f46 : p.fd 46 = some c46
  xs0 : p.xs.contains 0 = true
  xs4 : p.xs.contains 4 = true
def land3 (l : LandV) : D := .tup [rowD l.people, leadsD l.leads, tiesD l.ties]
noncomputable def E03 (ns : List Int) (d : DraftV) (b : Nat) (x6 x7 x8 x9 x14 x15 x16 x17 x18 x19 : Option Slot) : Env := [some (.val (.scr ns)), some (.val (lawD d)), some (.val (.ref b)), some (.val (.int d.land.people.length)), some (.val (draftD d)), some (.val (.lst ((plansN d.dn).map rowD))), x6, x7, x8, x9, some (.val (land3 d.land)), some (.val (.int d.many)), some (.val (.int d.low)), some (.val (.int d.high)), x14, x15, x16, x17, x18, x19]
/-- rows that are looked at -/
def GoodRow (d : DraftV) (r : List Nat) : Prop := r.length = d.land.people.length ∧ ∀ y ∈ r, y < 4
theorem plan_good {d : DraftV} (hd : d.Ok) {r : List Nat} (h : r ∈ plansN d.dn) : GoodRow d r := by
  obtain ⟨h1, _, h2, _⟩ := mem_plansN.mp h
  have := hd.m4
  exact ⟨h1, fun y hy => by have := h2 y hy; have : d.dn.many = d.many := rfl; omega⟩
theorem e_cmp_of {cf : Cf} {c : Cm} {a b : E} {env : Env} {st st1 st2 : Store} {x y : D} {r : Bool} (h1 : evE cf a .brw env st = .ok x st1) (h2 : evE cf b .brw env st1 = .ok y st2) (h3 : cmD c x y = some r) : evE cf (.cmp c a b) .tst env st = .ok (.bl r) st2 := by
  rw [e_cmp, h1, rb_ok, h2, rb_ok, h3]
  rfl
theorem plans_len' {d : DraftV} (hd : d.Ok) : (plansN d.dn).length ≤ 65536 := Nat.le_trans (List.length_filter_le _ _) (Nat.le_trans (rowsG_len _ _) (pow4 hd.m4 hd.land.n8))
section
variable {p : Prog} {n : Nat} {st : Store}
/-- the head of the law -/
theorem k03_a (H : K03 p) (ns : List Int) (hns : ns.length ≤ 63) : Sat (evSs (p.cf (n + 12)) (c46.body.take 5) (c46.env [.scr ns]) st) (midP (fun env st' => ∃ (d : DraftV) (b : Nat), d.Ok ∧ d.low ≤ 900 ∧ Box st' b ∧ env = [some (.val (.scr ns)), some (.val (lawD d)), some (.val (.ref b)), some (.val (.int d.land.people.length)), some (.val (draftD d)), none, none, none, none, none, some (.val (land3 d.land)), some (.val (.int d.many)), some (.val (.int d.low)), some (.val (.int d.high)), none, none, none, none, none, none]) (outP fun d _ => d = .bl true)) := by
  simp -dsimp -implicitDefEqProofs [c46]
  refine (dr_draft H.toDr ns hns (most := 8) (by omega) (by omega)).mono ?_
  rintro _ st1 ⟨d, hd, hlow, hl, rfl, _, _⟩
  simp -dsimp -implicitDefEqProofs
  refine (dr_box H.toDr ns hns 4 (by omega)).mono ?_
  rintro _ st2 ⟨rfl, a, b, rfl⟩
  have x0 : ∀ st, idxD st (land3 d.land) (.int 0) = some (rowD d.land.people) := fun _ => rfl
  have e1 := fun m s => sp_made (n := m) H.toLd H.f36 hd s
  have bt : ∀ (env : Env), bindT (.tup [.slot 10, .slot 11, .slot 12, .slot 13]) (lawD d) env = bindTs [.slot 10, .slot 11, .slot 12, .slot 13] [land3 d.land, .int d.many, .int d.low, .int d.high] env := fun _ => rfl
  simp -dsimp -implicitDefEqProofs [bt, bindTs, x0, e1, bi_len_row]
  exact hid ⟨d, st1.length, hd, hlow, ⟨a, b, by simp⟩, rfl⟩
theorem k03_b (H : K03 p) (ns : List Int) {d : DraftV} {b : Nat} (hd : d.Ok) (hlow : d.low ≤ 900) (hb : Box st b) {P : Out → Store → Prop} : Sat (evSs (p.cf (n + 12)) ((c46.body.drop 5).take 6) [some (.val (.scr ns)), some (.val (lawD d)), some (.val (.ref b)), some (.val (.int d.land.people.length)), some (.val (draftD d)), none, none, none, none, none, some (.val (land3 d.land)), some (.val (.int d.many)), some (.val (.int d.low)), some (.val (.int d.high)), none, none, none, none, none, none] st) (midP (fun env st' => Box st' b ∧ env = E03 ns d b none none none none none none none none none none) P) := by
  have n1 := hd.land.n1
  have n8 := hd.land.n8
  have m1 := hd.m1
  have m4 := hd.m4
  have lh := hd.lh
  have hh := hd.hi
  have x0 : ∀ st, idxD st (land3 d.land) (.int 0) = some (rowD d.land.people) := fun _ => rfl
  have x1 : ∀ st, idxD st (land3 d.land) (.int 1) = some (leadsD d.land.leads) := fun _ => rfl
  have x2 : ∀ st, idxD st (land3 d.land) (.int 2) = some (tiesD d.land.ties) := fun _ => rfl
  have e1 := fun m s => sp_made (n := m) H.toLd H.f36 hd s
  have ml := fun m s => sp_mk_land (n := m) H.toLd hd.land s
  have le := fun m s x y => sp_land_eq (n := m) (st := s) H.toLd H.f10 x y
  have de := fun m s x y => sp_draft_eq (n := m) (st := s) H.toLd H.f10 H.f14 x y
  have o0 : ∀ l, isO (landD l) 0 = true := fun _ => rfl
  have o1 : ∀ l, isO (draftD l) 1 = true := fun _ => rfl
  have md : ∀ (lo hi : Nat), lo ≤ hi → hi ≤ 999 → ∀ m s, mkR (p.cf (m + 3)) 1 [landD d.land, .int d.many, .int (lo : Int), .int (hi : Int)] s = .ok (draftD ⟨d.land, d.many, lo, hi⟩) s := fun lo hi h1 h2 m s => sp_mk_draft (n := m) (d := ⟨d.land, d.many, lo, hi⟩) H.toLd ⟨hd.land, m1, m4, h1, h2⟩ s
  have t3 : cmD .ne (.tup [.int d.many, .int d.low, .int d.high]) (.tup [.int d.many, .int d.low, .int d.high]) = some false := cm_ne_refl (by simp [D.data, D.dat, D.datL])
  have er : ∀ (ne a : Bool) (s : Store), eqR ne (.ok (.bl a) s) = .ok (.bl (if ne then !a else a)) s := fun _ _ _ => rfl
  have pl := fun m s => sp_plans (n := m) (st := s) H.toPl hd
  have ct := fun m s => sp_count (n := m) (st := s) H.toIs hd
  have lp := fun m s => lw_plans (n := m) (st := s) H.toLp hd
  have lw := fun m s i => lw_whole (n := m) (st := s) H.toLp (d := .int i) rfl
  have tup : biD .tuple [.lst ((plansN d.dn).map rowD)] = some (rowsD (plansN d.dn)) := rfl
  have tn : cmD .ne (rowsD (plansN d.dn)) (rowsD (plansN d.dn)) = some false := cm_ne_refl (rows_dat (plansN d.dn) |> fun h => by
    simp only [rowsD, D.data, D.dat]
    exact datL_map (fun r => dat_le (by decide) (row_dat r)) _)
  have d39 : D.datL 39 ((plansN d.dn).map rowD) = true := datL_map (fun r => dat_le (by decide) (row_dat r)) _
  obtain ⟨hi', hhi⟩ : ∃ x : Nat, x = if d.high < 999 then d.high + 1 else d.high - 1 := ⟨_, rfl⟩
  have hb1 : d.low ≤ hi' ∧ hi' ≤ 999 ∧ d.high ≠ hi' := by split at hhi <;> omega
  have hx : (if (d.high : Int) < 999 then D.int ((d.high : Int) + 1) else if d.low < d.high then D.int ((d.high : Int) - 1) else D.int 0) = D.int (hi' : Nat) := by
    split
    · rw [hhi, if_pos (by omega)]; rfl
    · rw [if_pos (by omega), hhi, if_neg (by omega)]
      congr 1; omega
  have ndr : ∀ (lo hi : Nat), d.low ≠ lo ∨ d.high ≠ hi → decide (d = ⟨d.land, d.many, lo, hi⟩) = false := fun lo hi h => by
    rw [decide_eq_false_iff_not]
    intro e
    have e1 : d.low = lo := congrArg DraftV.low e
    have e2 : d.high = hi := congrArg DraftV.high e
    rcases h with h | h
    · exact h e1
    · exact h e2
  have condC : ∀ st, evE (p.cf (n + 12)) (.or (.and (.cmp .lt (.var 13) (.cst (.int 999))) (.oeq false 1 14 (.var 4) (.mk 1 [(.fld (.var 4) 4), (.var 11), (.bin .add (.var 12) (.cst (.int 1))), (.bin .add (.var 13) (.cst (.int 1)))]))) (.and (.cmp .gt (.var 12) (.cst (.int 0))) (.oeq false 1 14 (.var 4) (.mk 1 [(.fld (.var 4) 4), (.var 11), (.bin .sub (.var 12) (.cst (.int 1))), (.bin .sub (.var 13) (.cst (.int 1)))])))) .tst [some (.val (.scr ns)), some (.val (lawD d)), some (.val (.ref b)), some (.val (.int d.land.people.length)), some (.val (draftD d)), none, none, none, none, none, some (.val (land3 d.land)), some (.val (.int d.many)), some (.val (.int d.low)), some (.val (.int d.high)), none, none, none, none, none, none] st = .ok (.bl false) st := fun st => by
    have f1 : evE (p.cf (n + 12)) (.and (.cmp .lt (.var 13) (.cst (.int 999))) (.oeq false 1 14 (.var 4) (.mk 1 [(.fld (.var 4) 4), (.var 11), (.bin .add (.var 12) (.cst (.int 1))), (.bin .add (.var 13) (.cst (.int 1)))]))) .tst [some (.val (.scr ns)), some (.val (lawD d)), some (.val (.ref b)), some (.val (.int d.land.people.length)), some (.val (draftD d)), none, none, none, none, none, some (.val (land3 d.land)), some (.val (.int d.many)), some (.val (.int d.low)), some (.val (.int d.high)), none, none, none, none, none, none] st = .ok (.bl false) st := by
      by_cases c : d.high < 999
      · have c1 : cmD .lt (.int (d.high : Int)) (.int 999) = some true := by rw [cm_lt, decide_eq_true (by omega)]
        have m1 := md (d.low + 1) (d.high + 1) (by omega) (by omega) (n + 9) st
        have d1 := ndr (d.low + 1) (d.high + 1) (.inl (by omega))
        simp -dsimp -implicitDefEqProofs [fld_land H.toLd, c1, -cm_lt, op_n_add1, -op_ii_add, -Int.natCast_add, m1, o1, de, d1, er]
      · have c1 : cmD .lt (.int (d.high : Int)) (.int 999) = some false := by rw [cm_lt, decide_eq_false (by omega)]
        simp -dsimp -implicitDefEqProofs [c1, -cm_lt]
    have f2 : evE (p.cf (n + 12)) (.and (.cmp .gt (.var 12) (.cst (.int 0))) (.oeq false 1 14 (.var 4) (.mk 1 [(.fld (.var 4) 4), (.var 11), (.bin .sub (.var 12) (.cst (.int 1))), (.bin .sub (.var 13) (.cst (.int 1)))]))) .tst [some (.val (.scr ns)), some (.val (lawD d)), some (.val (.ref b)), some (.val (.int d.land.people.length)), some (.val (draftD d)), none, none, none, none, none, some (.val (land3 d.land)), some (.val (.int d.many)), some (.val (.int d.low)), some (.val (.int d.high)), none, none, none, none, none, none] st = .ok (.bl false) st := by
      by_cases c : 0 < d.low
      · have c1 : cmD .gt (.int (d.low : Int)) (.int 0) = some true := by rw [cm_gt, decide_eq_true (by omega)]
        have m1 := md (d.low - 1) (d.high - 1) (by omega) (by omega) (n + 9) st
        have d1 := ndr (d.low - 1) (d.high - 1) (.inl (by omega))
        have s1 : opD .sub (.int (d.low : Int)) (.int 1) = some (.int ((d.low - 1 : Nat) : Int)) := by rw [op_ii_sub]; congr 2; omega
        have s2 : opD .sub (.int (d.high : Int)) (.int 1) = some (.int ((d.high - 1 : Nat) : Int)) := by rw [op_ii_sub]; congr 2; omega
        simp -dsimp -implicitDefEqProofs [fld_land H.toLd, c1, -cm_gt, s1, s2, -op_ii_sub, m1, o1, de, d1, er]
      · have c1 : cmD .gt (.int (d.low : Int)) (.int 0) = some false := by rw [cm_gt, decide_eq_false (by omega)]
        simp -dsimp -implicitDefEqProofs [c1, -cm_gt]
    rw [e_or_tst, f1, rasBl_ok, if_neg (by simp), f2]
  have mB := fun s => md d.low hi' hb1.1 hb1.2.1 (n + 9) s
  have nB := ndr d.low hi' (.inr hb1.2.2)
  simp -dsimp -implicitDefEqProofs [c46, fld_land H.toLd, fld_many H.toLd, fld_low H.toLd, fld_high H.toLd, x0, x1, x2, ml, le, o0, o1, er, fits, t3, e1, de]
  rw [hx]
  refine Sat.of_eq (mB _) ?_
  simp -dsimp -implicitDefEqProofs only [o1, if_true, de, nB, er, Bool.false_eq_true, if_false, rfin_tst, tru_bl, Option.map_some, rof_some, sat_okS, fl_def, fl_bl, br_def, br_false, t_nil, next_nxt]
  rw [t_cons, sat_bd, iff_eq (condC st)]
  simp -dsimp -implicitDefEqProofs only [Bool.false_eq_true, if_false, t_nil, sat_okS, next_nxt]
  have ln : ∀ l : List (List Nat), biD .len [.lst (l.map rowD)] = some (.int l.length) := fun l => by rw [bi_len_lst, List.length_map]
  have cne : ∀ k : Nat, cmD .ne (.int (k : Int)) (.int (k : Int)) = some false := fun k => by rw [cm_ne, decide_eq_false (by omega)]
  obtain ⟨FT, fd, fc, fe⟩ : ∃ FT : D, D.data FT = true ∧ (∀ m s, p.cl (m + 6) 45 [draftD d] s = .ok FT s) ∧ (∀ (env : Env) st, env[5]? = some (some (.val (.lst ((plansN d.dn).map rowD)))) → evE (p.cf (n + 12)) (.ife (.cmp .ne (.var 5) (.lst [])) (.tup [(.cst (.str "plan")), (.idx (.var 5) (.cst (.int 0)))]) (.tup [(.cst (.str "undefined")), (.cst (.str "plan"))])) .brw env st = .ok FT st) := by
    cases hpl : plansN d.dn with
    | nil =>
      refine ⟨_, ?_, fun m s => lw_first_none H.toIs H.f45 H.xs4 hd hpl, fun env st he => ?_⟩
      · simp [D.data, D.dat, D.datL]
      · have en : cmD .ne (.lst []) (.lst []) = some false := cm_ne_refl (by simp [D.data, D.dat, D.datL])
        simp -dsimp -implicitDefEqProofs [he, en, fits]
    | cons r rs =>
      refine ⟨_, ?_, fun m s => lw_first_some H.toIs H.f45 hd hpl, fun env st he => ?_⟩
      · simp only [D.data, D.dat, D.datL, dat_le (show 1 ≤ 39 by decide) (row_dat r), Bool.and_self]
      · have d39' : D.datL 39 ((r :: rs).map rowD) = true := by rw [← hpl]; exact d39
        have en : cmD .ne (.lst ((r :: rs).map rowD)) (.lst []) = some true := by
          have h1 : D.data (.lst ((r :: rs).map rowD)) = true := d39'
          show (if (D.data (.lst ((r :: rs).map rowD)) && D.data (.lst [])) = true then some (!D.eqv (.lst ((r :: rs).map rowD)) (.lst [])) else none) = _
          rw [h1]
          simp [D.data, D.dat, D.datL, D.eqv, D.eqvL]
        have i0 : ∀ st, idxD st (.lst ((r :: rs).map rowD)) (.int 0) = some (rowD r) := fun st => idx_lst (i := 0) rfl
        simp -dsimp -implicitDefEqProofs [he, en, fits, i0, -List.map_cons]
  have ft := cm_ne_refl fd
  generalize hp : plansN d.dn = pls at *
  have fe' := fun st => fe [some (.val (.scr ns)), some (.val (lawD d)), some (.val (.ref b)), some (.val (.int d.land.people.length)), some (.val (draftD d)), some (.val (.lst (pls.map rowD))), none, none, none, none, some (.val (land3 d.land)), some (.val (.int d.many)), some (.val (.int d.low)), some (.val (.int d.high)), none, none, none, none, none, none] st rfl
  have condE : ∀ st, evE (p.cf (n + 12)) (.cmp .ne (.call 45 [(.var 4)]) (.ife (.cmp .ne (.var 5) (.lst [])) (.tup [(.cst (.str "plan")), (.idx (.var 5) (.cst (.int 0)))]) (.tup [(.cst (.str "undefined")), (.cst (.str "plan"))]))) .tst [some (.val (.scr ns)), some (.val (lawD d)), some (.val (.ref b)), some (.val (.int d.land.people.length)), some (.val (draftD d)), some (.val (.lst (pls.map rowD))), none, none, none, none, some (.val (land3 d.land)), some (.val (.int d.many)), some (.val (.int d.low)), some (.val (.int d.high)), none, none, none, none, none, none] st = .ok (.bl false) st := fun st => by
    refine e_cmp_of (x := FT) (y := FT) ?_ (fe' st) ft
    simp -dsimp -implicitDefEqProofs [fc]
  simp -dsimp -implicitDefEqProofs only [t_cons, sat_bd, t_asg]
  simp -dsimp -implicitDefEqProofs only [e_call, evEs_cons, evEs_nil, e_var, rfin_frz, rvar, List.getElem?_cons_zero, List.getElem?_cons_succ, rb_ok, rcf_cl, lp, bind_slot]
  simp -dsimp -implicitDefEqProofs only [List.length_cons, List.length_nil, Nat.reduceAdd, Nat.reduceLT, if_true, rwr, sat_okS, List.set, next_nxt]
  have isI : ∀ k : Int, isIntB (.int k) = true := fun _ => rfl
  have D1 : ∀ st, evE (p.cf (n + 12)) (.or (.cmp .ne (.call 19 [(.var 4)]) (.app .tuple [(.var 5)])) (.or (.cmp .ne (.call 41 [(.var 4)]) (.app .len [(.var 5)])) (.not (.call 26 [(.call 41 [(.var 4)])])))) .tst [some (.val (.scr ns)), some (.val (lawD d)), some (.val (.ref b)), some (.val (.int d.land.people.length)), some (.val (draftD d)), some (.val (.lst (pls.map rowD))), none, none, none, none, some (.val (land3 d.land)), some (.val (.int d.many)), some (.val (.int d.low)), some (.val (.int d.high)), none, none, none, none, none, none] st = .ok (.bl false) st := fun st => by
    simp -dsimp -implicitDefEqProofs [pl, tup, tn, ct, ln, cne, -cm_ne, lw, isI]
  rw [t_cons, sat_bd, iff_eq (D1 st)]
  simp -dsimp -implicitDefEqProofs only [Bool.false_eq_true, if_false, t_nil, sat_okS, next_nxt]
  rw [t_cons, sat_bd, iff_eq (condE st)]
  simp -dsimp -implicitDefEqProofs only [Bool.false_eq_true, if_false, t_nil, sat_okS, next_nxt]
  refine ⟨hb, ?_⟩
  rw [E03, hp]
end
end Bp.Q
set_option Elab.async false
set_option linter.all false
set_option maxRecDepth 100000
/-! BpR3: law k03, second part: the rows that are looked at. -/
namespace Bp.Q
open PySem
theorem maxl_m1T (r : List Nat) : biD .maxl [.tup (.int (-1) :: r.map nD)] = some (.int ((cnt r : Int) - 1)) := maxl_m1 r
theorem rep_one {d : D} : ∀ k : Nat, rep k [d] = List.replicate k d
  | 0 => rfl
  | k + 1 => by
    show [d] ++ rep k [d] = _
    rw [rep_one k, List.replicate_succ]; rfl
theorem op_rep0 {k : Nat} (h : k ≤ 1000) : opD .mul (.tup [.int 0]) (.int (k : Int)) = some (rowD (List.replicate k 0)) := by
  show (if decide (-1000 ≤ (k : Int) ∧ (k : Int) ≤ 1000 ∧ 1 ≤ 1000 ∧ false = false) = true then some (D.tup (rep (k : Int).toNat [.int 0])) else none) = _
  rw [if_pos (by simp; omega), Int.toNat_natCast, rep_one, rowD, List.map_replicate]
  rfl
section
variable {p : Prog} {n : Nat} {st : Store}
theorem k03_c (H : K03 p) (ns : List Int) {d : DraftV} {b : Nat} (hd : d.Ok) (hb : Box st b) {P : Out → Store → Prop} : Sat (evSs (p.cf (n + 12)) ((c46.body.drop 11).take 3) (E03 ns d b none none none none none none none none none none) st) (midP (fun env st' => Box st' b ∧ ∃ (rs : List (List Nat)) (x7 x8 x14 : Option Slot), rs.length ≤ 13 ∧ (∀ r ∈ rs, GoodRow d r) ∧ env = E03 ns d b (some (.val (.lst (rs.map rowD)))) x7 x8 none x14 none none none none none) P) := by
  have n1 := hd.land.n1
  have n8 := hd.land.n8
  have m1 := hd.m1
  have m4 := hd.m4
  have pg : ∀ r ∈ plansN d.dn, GoodRow d r := fun r hr => plan_good hd hr
  have plen := plans_len' hd
  rw [E03]
  generalize hp : plansN d.dn = pls at *
  have first : Sat (evSs (p.cf (n + 12)) [.own 6 (.ife (.cmp .ne (.var 5) (.lst [])) (.lst [(.call 25 [(.var 2), (.var 5)])]) (.lst [(.bin .mul (.tup [(.cst (.int 0))]) (.var 3))]))] [some (.val (.scr ns)), some (.val (lawD d)), some (.val (.ref b)), some (.val (.int d.land.people.length)), some (.val (draftD d)), some (.val (.lst (pls.map rowD))), none, none, none, none, some (.val (land3 d.land)), some (.val (.int d.many)), some (.val (.int d.low)), some (.val (.int d.high)), none, none, none, none, none, none] st) (midP (fun env st' => Box st' b ∧ ∃ r : List Nat, GoodRow d r ∧ env = [some (.val (.scr ns)), some (.val (lawD d)), some (.val (.ref b)), some (.val (.int d.land.people.length)), some (.val (draftD d)), some (.val (.lst (pls.map rowD))), some (.own (.lst ([r].map rowD))), none, none, none, some (.val (land3 d.land)), some (.val (.int d.many)), some (.val (.int d.low)), some (.val (.int d.high)), none, none, none, none, none, none]) P) := by
    have d39 : D.datL 39 (pls.map rowD) = true := datL_map (fun r => dat_le (by decide) (row_dat r)) _
    have en : cmD .ne (.lst (pls.map rowD)) (.lst []) = some (!pls.isEmpty) := by
      have h1 : D.data (.lst (pls.map rowD)) = true := d39
      show (if (D.data (.lst (pls.map rowD)) && D.data (.lst [])) = true then some (!D.eqv (.lst (pls.map rowD)) (.lst [])) else none) = _
      rw [h1]
      cases pls <;> simp [D.data, D.dat, D.datL, D.eqv, D.eqvL]
    by_cases e : pls = []
    · have en' : cmD .ne (.lst (pls.map rowD)) (.lst []) = some false := by rw [en, e]; rfl
      simp -dsimp -implicitDefEqProofs [en', op_rep0 (show d.land.people.length ≤ 1000 by omega), fits]
      refine hid ⟨hb, List.replicate d.land.people.length 0, ⟨by simp, fun y hy => by rw [List.mem_replicate] at hy; omega⟩, rfl⟩
    · have en' : cmD .ne (.lst (pls.map rowD)) (.lst []) = some true := by rw [en]; cases pls <;> simp_all
      simp -dsimp -implicitDefEqProofs [en', fits]
      refine (dr_pick H.toDr hb (by simpa using e) (by rw [List.length_map]; omega)).mono ?_
      rintro x st1 ⟨hx, u⟩
      obtain ⟨r, hr, rfl⟩ := List.mem_map.mp hx
      simp -dsimp -implicitDefEqProofs
      exact hid ⟨u.box, r, pg r hr, rfl⟩
  refine sat_cut 1 _ first ?_
  rintro _ st1 ⟨hb1, r0, hr0, rfl⟩
  simp -dsimp -implicitDefEqProofs [c46]
  refine for_typed (List.range 12) nD (fun as env st' => Box st' b ∧ ∃ (rs : List (List Nat)) (x7 x8 x14 : Option Slot), rs.length = as.length + 1 ∧ (∀ r ∈ rs, GoodRow d r) ∧ env = [some (.val (.scr ns)), some (.val (lawD d)), some (.val (.ref b)), some (.val (.int d.land.people.length)), some (.val (draftD d)), some (.val (.lst (pls.map rowD))), some (.own (.lst (rs.map rowD))), x7, x8, none, some (.val (land3 d.land)), some (.val (.int d.many)), some (.val (.int d.low)), some (.val (.int d.high)), x14, none, none, none, none, none]) ?_ ?_ ?_ ?_
  · have : rng1D (.int 12) = some ((List.range 12).map nD) := rng1_nat (n := 12) (by decide)
    simp -dsimp -implicitDefEqProofs [this]
  · exact ⟨hb1, [r0], none, none, none, rfl, by simpa using hr0, rfl⟩
  · rintro as a rest _ st2 has ⟨hb2, rs, x7, x8, x14, hl, hg, rfl⟩
    have hal : as.length < 12 := by
      have := congrArg List.length has
      simp at this; omega
    refine ⟨_, rfl, ?_⟩
    simp -dsimp -implicitDefEqProofs [fits]
    refine for_typed (List.range d.land.people.length) nD (fun bs env st' => Box st' b ∧ ∃ (r : List Nat) (x14 : Option Slot), r.length = bs.length ∧ (∀ y ∈ r, y < 4) ∧ env = [some (.val (.scr ns)), some (.val (lawD d)), some (.val (.ref b)), some (.val (.int d.land.people.length)), some (.val (draftD d)), some (.val (.lst (pls.map rowD))), some (.own (.lst (rs.map rowD))), some (.val (nD a)), some (.val (rowD r)), none, some (.val (land3 d.land)), some (.val (.int d.many)), some (.val (.int d.low)), some (.val (.int d.high)), x14, none, none, none, none, none]) ?_ ?_ ?_ ?_
    · simp -dsimp -implicitDefEqProofs [rng1_nat (show d.land.people.length < 100000000 by omega)]
    · exact ⟨hb2, [], x14, rfl, by simp, rfl⟩
    · rintro bs c rest2 _ st3 hbs ⟨hb3, r, y14, hrl, hr4, rfl⟩
      have hbl : bs.length < d.land.people.length := by
        have := congrArg List.length hbs
        simp at this; omega
      refine ⟨_, rfl, ?_⟩
      have a1 : opD .add (.tup [.int (-1)]) (rowD r) = some (.tup (.int (-1) :: r.map nD)) := op_tt (by simp; omega)
      have a2 : ∀ k : Nat, opD .add (.int ((k : Int) - 1)) (.int 2) = some (.int ((k + 1 : Nat) : Int)) := fun k => by rw [op_ii_add]; congr 2; omega
      have mx := maxl_m1T r
      have cn : cnt r ≤ 4 := cnt_le hr4
      have mn : biD .min2 [.int (d.many : Int), .int ((cnt r : Int) + 1)] = some (.int ((min d.many (cnt r + 1) : Nat) : Int)) := bi_min2_n d.many (cnt r + 1)
      generalize hmm : min d.many (cnt r + 1) = mm at *
      simp -dsimp -implicitDefEqProofs [negD, a1, mx, a2, -op_ii_add, mn, -bi_min2, fits]
      refine (dr_take H.toDr hb3 (m := (mm : Int)) (by omega) (by omega)).mono ?_
      rintro _ st4 ⟨v, rfl, v1, v2, u4⟩
      have sn := op_row_snoc (row := r) v.toNat (by omega)
      rw [show ((v.toNat : Nat) : Int) = v by omega] at sn
      simp -dsimp -implicitDefEqProofs [sn]
      refine hid ⟨u4.box, r ++ [v.toNat], some (.val (nD c)), by simp [hrl], ?_, rfl⟩
      intro y hy
      rcases List.mem_append.mp hy with h | h
      · exact hr4 y h
      · rw [List.mem_singleton] at h; omega
    · rintro _ st3 ⟨hb3, r, y14, hrl, hr4, rfl⟩
      simp -dsimp -implicitDefEqProofs [show rs.length < 16777216 by omega]
      refine hid ⟨hb3, rs ++ [r], some (.val (nD a)), some (.val (rowD r)), y14, by simp [hl], ?_, by rw [List.map_append]; rfl⟩
      intro q hq
      rcases List.mem_append.mp hq with h | h
      · exact hg q h
      · rw [List.mem_singleton] at h; subst h
        exact ⟨by simpa using hrl, hr4⟩
  · rintro _ st2 ⟨hb2, rs, x7, x8, x14, hl, hg, rfl⟩
    simp -dsimp -implicitDefEqProofs
    refine hid ⟨hb2, rs, x7, x8, x14, by simp at hl; omega, hg, ?_⟩
    rw [E03, hp]
end
end Bp.Q
set_option Elab.async false
set_option linter.all false
set_option maxRecDepth 100000
/-! BpR4: law k03, third part: values that are judged. -/
namespace Bp.Q
open PySem
theorem rows_data (rs : List (List Nat)) : D.data (rowsD rs) = true := by
  simp only [rowsD, D.data, D.dat]
  exact datL_map (fun r => dat_le (by decide) (row_dat r)) _
theorem Sm_row {r : List Nat} {k L : Nat} (hl : r.length ≤ L) (h : ∀ y ∈ r, y ≤ 1000000) : Sm (k + 1) L (rowD r) = true := Sm_tup.mpr ⟨by simpa using hl, fun x hx => by
  obtain ⟨y, hy, rfl⟩ := List.mem_map.mp hx
  have := h y hy
  exact Sm_int (by omega)⟩
theorem Sm_lstD {r : List Nat} {k L : Nat} (hl : r.length ≤ L) (h : ∀ y ∈ r, y ≤ 1000000) : Sm (k + 1) L (lstD r) = true := Sm_lst.mpr ⟨by simpa using hl, fun x hx => by
  obtain ⟨y, hy, rfl⟩ := List.mem_map.mp hx
  have := h y hy
  exact Sm_int (by omega)⟩
theorem Si_row {r : List Nat} {k L : Nat} (hl : r.length ≤ L) (h : ∀ y ∈ r, y ≤ 1000000) : Si (k + 1) L (rowD r) = true := by
  simp only [rowD, Si, Bool.and_eq_true, decide_eq_true_eq, SiL_iff]
  refine ⟨by simpa using hl, fun x hx => ?_⟩
  obtain ⟨y, hy, rfl⟩ := List.mem_map.mp hx
  have := h y hy
  simp [Si, nD]; omega
theorem op_mod_n {a m : Nat} (h : 1 ≤ m) : opD .mod (.int (a : Int)) (.int (m : Int)) = some (.int ((a % m : Nat) : Int)) := by
  rw [op_mod' (by omega), Int.fmod_eq_emod_of_nonneg _ (by omega)]
  rfl
def E3L (ns : List Int) (d : DraftV) (b : Nat) (pls : List (List Nat)) (x6 x7 x8 x9 x14 x15 x16 x17 x18 x19 : Option Slot) : Env := [some (.val (.scr ns)), some (.val (lawD d)), some (.val (.ref b)), some (.val (.int d.land.people.length)), some (.val (draftD d)), some (.val (.lst (pls.map rowD))), x6, x7, x8, x9, some (.val (land3 d.land)), some (.val (.int d.many)), some (.val (.int d.low)), some (.val (.int d.high)), x14, x15, x16, x17, x18, x19]
section
variable {p : Prog} {n : Nat} {st : Store}
theorem k03_d (H : K03 p) (ns : List Int) {d : DraftV} {b : Nat} (hd : d.Ok) (hb : Box st b) {rs : List (List Nat)} {x7 x8 x14 : Option Slot} (hrl : rs.length ≤ 13) (hg : ∀ r ∈ rs, GoodRow d r) {P : Out → Store → Prop} : Sat (evSs (p.cf (n + 12)) ((c46.body.drop 14).take 1) (E03 ns d b (some (.val (.lst (rs.map rowD)))) x7 x8 none x14 none none none none none) st) (midP (fun env st' => Box st' b ∧ ∃ (x8 x15 x16 : Option Slot), env = E03 ns d b (some (.val (.lst (rs.map rowD)))) x7 x8 none x14 x15 x16 none none none) P) := by
  have n1 := hd.land.n1
  have n8 := hd.land.n8
  have m1 := hd.m1
  have m4 := hd.m4
  rw [E03]
  generalize hp : plansN d.dn = pls at *
  simp -dsimp -implicitDefEqProofs [c46]
  refine for_typed rs rowD (fun as env st' => Box st' b ∧ ∃ (x8 x15 x16 : Option Slot), env = E3L ns d b pls (some (.val (.lst (rs.map rowD)))) x7 x8 none x14 x15 x16 none none none) ?_ ?_ ?_ ?_
  · simp -dsimp -implicitDefEqProofs
  · exact ⟨hb, x8, none, none, rfl⟩
  · rintro as r rest _ st2 has ⟨hb2, y8, x15, x16, rfl⟩
    have hr : r ∈ rs := by rw [has]; simp
    obtain ⟨rl, r4⟩ := hg r hr
    have cn : cnt r ≤ 4 := cnt_le r4
    have r0 : r ≠ [] := by intro e; rw [e] at rl; simp at rl; omega
    have rm : ∀ y ∈ r, y ≤ 1000000 := fun y hy => by have := r4 y hy; omega
    refine ⟨_, rfl, ?_⟩
    have s1 : slcD (rowD r) (some 1) none = some (.tup (cut (r.map nD) (some 1) none)) := rfl
    have s2 := op_row_snoc (row := r) 0 (by omega)
    have s3 : revD (rowD r) = some (rowD r.reverse) := by
      show some (D.tup (r.map nD).reverse) = _
      rw [rowD, List.map_reverse]
    have l1 : biD .list [rowD r] = some (lstD r) := rfl
    have s2' : opD .add (rowD r) (.tup [.int 0]) = some (rowD (r ++ [0])) := s2
    simp -dsimp -implicitDefEqProofs [E3L, partR, l1, s1, s2', s3, fits, comp_brw]
    refine Sat.of_eq (comp_mapT r nD (fun y => nD ((y + 1) % d.many)) ?_ ?_ (by omega)) ?_
    · simp -dsimp -implicitDefEqProofs [rowD]
    · intro y hy
      exact ⟨_, rfl, by simp -dsimp -implicitDefEqProofs [op_n_add1, -op_ii_add, -Int.natCast_add, op_mod_n m1]⟩
    simp -dsimp -implicitDefEqProofs
    refine (spoil H.toSpo 1 (n := n + 8) (L := 8) (deep := 1) hb2 (Si_row (k := 0) (by omega) rm) (by omega) (by omega)).mono ?_
    rintro v st3 ⟨u3, sv⟩
    have rt : D.tup (r.map fun y => nD ((y + 1) % d.many)) = rowD (r.map fun y => (y + 1) % d.many) := by rw [rowD, List.map_map]; rfl
    have sm : ∀ w ∈ [rowD r, lstD r, .tup (cut (r.map nD) (some 1) none), rowD (r ++ [0]), rowD r.reverse, .tup (r.map fun y => nD ((y + 1) % d.many)), .non, v], Sm 3 30 w = true := by
      intro w hw
      simp only [List.mem_cons, List.not_mem_nil, or_false] at hw
      rcases hw with rfl | rfl | rfl | rfl | rfl | rfl | rfl | rfl
      · exact Sm_row (by omega) rm
      · exact Sm_lstD (by omega) rm
      · refine Sm_tup.mpr ⟨?_, fun x hx => ?_⟩
        · have := cut_len (r.map nD) (some 1) none
          rw [List.length_map] at this; omega
        · obtain ⟨y, hy, rfl⟩ := List.mem_map.mp (cut_sub x hx)
          exact Sm_int (by have := rm y hy; omega)
      · refine Sm_row (by simp; omega) fun y hy => ?_
        rcases List.mem_append.mp hy with h | h
        · exact rm y h
        · rw [List.mem_singleton] at h; omega
      · exact Sm_row (by simp; omega) fun y hy => rm y (by simpa using hy)
      · rw [rt]
        refine Sm_row (by simp; omega) fun y hy => ?_
        obtain ⟨z, hz, rfl⟩ := List.mem_map.mp hy
        have := Nat.mod_lt (z + 1) (show 0 < d.many by omega)
        omega
      · rfl
      · exact Sm_mono (by omega) (by omega) sv
    simp -dsimp -implicitDefEqProofs
    generalize [rowD r, lstD r, .tup (cut (r.map nD) (some 1) none), rowD (r ++ [0]), rowD r.reverse, .tup (r.map fun y => nD ((y + 1) % d.many)), .non, v] = vs at *
    refine for_typed vs id (fun bs env st' => Box st' b ∧ ∃ x16 : Option Slot, env = E3L ns d b pls (some (.val (.lst (rs.map rowD)))) x7 (some (.val (rowD r))) none x14 (some (.val (.lst vs))) x16 none none none) ?_ ?_ ?_ ?_
    · simp -dsimp -implicitDefEqProofs
    · exact ⟨u3.box, x16, rfl⟩
    · rintro bs w rest2 _ st4 hbs ⟨hb4, z16, rfl⟩
      have sw : Sm 3 30 w = true := sm w (by rw [hbs]; simp)
      have dw : D.data w = true := Sm_data (by omega) sw
      have lw : ∀ ds, w = .tup ds → ds.length ≤ 16777216 := by
        rintro ds rfl
        have := (Sm_tup.mp sw).1
        omega
      have f1 := fun m s => sp_is_plan (n := m) (st := s) H.toIs hd dw
      have f2 := fun m s => lw_is_plan (n := m) (st := s) H.toLp hd dw lw
      have f3 := fun m s a c => lw_due (n := m) (st := s) H.f43 a c
      refine ⟨_, rfl, ?_⟩
      simp -dsimp -implicitDefEqProofs [E3L, f1, f2, f3]
      exact hid ⟨hb4, some (.val w), rfl⟩
    · rintro _ st4 ⟨hb4, z16, rfl⟩
      have ds := fun m s => sp_districts (n := m) (st := s) H.toPl r0 (by omega) (by omega)
      have un := fun m s k => lw_units (n := m) (st := s) H.toLp (row := r) k (by omega)
      have mx := max_row r0
      have hcp : cnt r - 1 + 1 = cnt r := by
        have := lt_cnt (List.getLast_mem r0)
        omega
      simp -dsimp -implicitDefEqProofs [E3L, ds, comp_brw]
      refine Sat.of_eq (comp_mapT (List.range (cnt r)) nD (fun k => rowD (dist r k)) ?_ ?_ (by rw [List.length_range]; omega)) ?_
      · simp -dsimp -implicitDefEqProofs [mx, op_n_add1, -op_ii_add, -Int.natCast_add, hcp, rng1_nat (show cnt r < 100000000 by omega)]
      · intro k hk
        have tl : ∀ us, biD .tuple [lstD us] = some (rowD us) := fun _ => rfl
        exact ⟨_, rfl, by simp -dsimp -implicitDefEqProofs [un, tl]⟩
      · have ne : cmD .ne (.tup ((List.range (cnt r)).map fun k => rowD (dist r k))) (.tup ((List.range (cnt r)).map fun k => rowD (dist r k))) = some false := cm_ne_refl (by
          have := rows_data ((List.range (cnt r)).map (dist r))
          rw [rowsD, List.map_map] at this
          exact this)
        simp -dsimp -implicitDefEqProofs [ne]
        exact hid ⟨hb4, some (.val (rowD r)), some (.val (.lst vs)), z16, rfl⟩
  · rintro _ st2 ⟨hb2, y8, x15, x16, rfl⟩
    simp -dsimp -implicitDefEqProofs
    refine hid ⟨hb2, y8, x15, x16, ?_⟩
    rw [E03, hp, E3L]
end
end Bp.Q
set_option Elab.async false
set_option linter.all false
set_option maxRecDepth 100000
/-! BpR5: law k03, fourth part: every row of a small land. -/
namespace Bp.Q
open PySem
def allR (m : Nat) : Nat → List (List Nat)
  | 0 => [[]]
  | k + 1 => (allR m k).flatMap fun r => (List.range m).map fun c => r ++ [c]
def ext1 (m : Nat) (rs : List (List Nat)) : List (List Nat) := rs.flatMap fun r => (List.range m).map fun c => r ++ [c]
theorem ext1_snoc (m : Nat) (rs : List (List Nat)) (r : List Nat) : ext1 m (rs ++ [r]) = ext1 m rs ++ (List.range m).map fun c => r ++ [c] := by simp [ext1]
theorem ext1_len (m : Nat) : ∀ rs : List (List Nat), (ext1 m rs).length = rs.length * m
  | [] => by simp [ext1]
  | r :: rs => by
    have := ext1_len m rs
    rw [ext1] at this ⊢
    rw [List.flatMap_cons, List.length_append, this, List.length_map, List.length_range, List.length_cons, Nat.succ_mul, Nat.add_comm]
theorem allR_len (m : Nat) : ∀ k, (allR m k).length = m ^ k
  | 0 => rfl
  | k + 1 => by
    have := ext1_len m (allR m k)
    rw [allR_len m k] at this
    exact this
theorem allR_mem (m : Nat) : ∀ k, ∀ r ∈ allR m k, r.length = k
  | 0, r, h => by rw [allR, List.mem_singleton] at h; rw [h]; rfl
  | k + 1, r, h => by
    rw [allR, List.mem_flatMap] at h
    obtain ⟨q, hq, h⟩ := h
    obtain ⟨c, _, rfl⟩ := List.mem_map.mp h
    rw [List.length_append, allR_mem m k q hq]; rfl
section
variable {p : Prog} {n : Nat} {st : Store}
theorem k03_e (H : K03 p) (ns : List Int) {d : DraftV} {b : Nat} (hd : d.Ok) (hb : Box st b) {x6 x7 x8 x14 x15 x16 : Option Slot} {P : Out → Store → Prop} : Sat (evSs (p.cf (n + 12)) ((c46.body.drop 15).take 1) (E03 ns d b x6 x7 x8 none x14 x15 x16 none none none) st) (midP (fun env st' => Box st' b ∧ ∃ (x8 x14 x17 x18 : Option Slot), env = E03 ns d b x6 x7 x8 none x14 x15 x16 x17 x18 none) P) := by
  have n1 := hd.land.n1
  have n8 := hd.land.n8
  have m1 := hd.m1
  have m4 := hd.m4
  have ip : ∀ r, isPlanB d.dn (rowD r) = decide (r ∈ plansN d.dn) := fun r => by rw [Bool.eq_iff_iff, isPlanB_row]; simp
  have f1 := fun m s r => sp_is_plan (n := m) (st := s) H.toIs hd (row_data r)
  have f3 := fun m s a c => lw_due (n := m) (st := s) H.f43 a c
  rw [E03]
  simp only [ip] at f1
  generalize hp : plansN d.dn = pls at *
  rcases Nat.lt_or_ge d.land.people.length 5 with c | c
  case inr =>
    have c1 : cmD .lt (.int (d.land.people.length : Int)) (.int 5) = some false := by rw [cm_lt, decide_eq_false (by omega)]
    simp -dsimp -implicitDefEqProofs [c46, c1, -cm_lt]
    refine hid ⟨hb, x8, x14, none, none, ?_⟩
    rw [E03, hp]
  have c1 : cmD .lt (.int (d.land.people.length : Int)) (.int 5) = some true := by rw [cm_lt, decide_eq_true (by omega)]
  simp -dsimp -implicitDefEqProofs [c46, c1, -cm_lt, fits]
  refine for_typed (List.range d.land.people.length) nD (fun as env st' => Box st' b ∧ ∃ (x8 x14 x18 : Option Slot), env = E3L ns d b pls x6 x7 x8 none x14 x15 x16 (some (.val (.lst ((allR d.many as.length).map rowD)))) x18 none) ?_ ?_ ?_ ?_
  · simp -dsimp -implicitDefEqProofs [rng1_nat (show d.land.people.length < 100000000 by omega)]
  · exact ⟨hb, x8, x14, none, rfl⟩
  · rintro as a rest _ st2 has ⟨hb2, y8, y14, x18, rfl⟩
    have hal : as.length < d.land.people.length := by
      have := congrArg List.length has
      simp at this; omega
    have hlen : (allR d.many as.length).length ≤ 65536 := by
      rw [allR_len]; exact pow4 m4 (by omega)
    refine ⟨_, rfl, ?_⟩
    simp -dsimp -implicitDefEqProofs [E3L, fits]
    refine for_typed (allR d.many as.length) rowD (fun bs env st' => Box st' b ∧ ∃ (x8 : Option Slot), env = E3L ns d b pls x6 x7 x8 none (some (.val (nD a))) x15 x16 (some (.val (.lst ((allR d.many as.length).map rowD)))) (some (.val (.lst ((ext1 d.many bs).map rowD)))) none) ?_ ?_ ?_ ?_
    · simp -dsimp -implicitDefEqProofs
    · exact ⟨hb2, y8, rfl⟩
    · rintro bs r rest2 _ st3 hbs ⟨hb3, z8, rfl⟩
      have hbl : bs.length < (allR d.many as.length).length := by
        have := congrArg List.length hbs
        rw [List.length_append, List.length_cons] at this; omega
      have hrl : r.length = as.length := allR_mem _ _ r (by rw [hbs]; simp)
      have el := ext1_len d.many bs
      have el2 : (ext1 d.many bs).length ≤ 65536 * 4 := by
        rw [el]; exact Nat.mul_le_mul (by omega) m4
      refine ⟨_, rfl, ?_⟩
      simp -dsimp -implicitDefEqProofs [E3L, comp_brw]
      refine Sat.of_eq (comp_mapT (List.range d.many) nD (fun c => rowD (r ++ [c])) ?_ ?_ (by rw [List.length_range]; omega)) ?_
      · simp -dsimp -implicitDefEqProofs [rng1_nat (show d.many < 100000000 by omega)]
      · intro c hc
        exact ⟨_, rfl, by simp -dsimp -implicitDefEqProofs [op_row_snoc (row := r) c (by omega), fits]⟩
      · have add : opD .add (.lst ((ext1 d.many bs).map rowD)) (.lst ((List.range d.many).map fun c => rowD (r ++ [c]))) = some (.lst ((ext1 d.many (bs ++ [r])).map rowD)) := by
          show (if fits (((ext1 d.many bs).map rowD).length + ((List.range d.many).map fun c => rowD (r ++ [c])).length) = true then some (D.lst _) else none) = _
          rw [if_pos (by simp [fits]; omega), ext1_snoc, List.map_append, List.map_map]
          rfl
        simp -dsimp -implicitDefEqProofs [add]
        exact hid ⟨hb3, some (.val (rowD r)), rfl⟩
    · rintro _ st3 ⟨hb3, z8, rfl⟩
      simp -dsimp -implicitDefEqProofs [E3L]
      refine hid ⟨hb3, z8, some (.val (nD a)), some (.val (.lst ((ext1 d.many (allR d.many as.length)).map rowD))), ?_⟩
      rw [List.length_append]; rfl
  · rintro _ st2 ⟨hb2, y8, y14, x18, rfl⟩
    rw [List.length_range]
    have hlen : (allR d.many d.land.people.length).length ≤ 65536 := by
      rw [allR_len]; exact pow4 m4 (by omega)
    simp -dsimp -implicitDefEqProofs [E3L, comp_brw]
    refine Sat.of_eq (comp_map (allR d.many d.land.people.length) rowD (fun _ => false) rowD ?_ ?_ (by omega)) ?_
    · simp -dsimp -implicitDefEqProofs
    · intro r hr
      have ri : cmD .isin (rowD r) (.lst (pls.map rowD)) = some (decide (r ∈ pls)) := row_in r pls
      exact ⟨_, rfl, by simp -dsimp -implicitDefEqProofs [f1, ri, f3], fun h => by simp at h⟩
    · have ne : cmD .ne (.lst []) (.lst []) = some false := cm_ne_refl (by simp [D.data, D.dat, D.datL])
      have ff : (allR d.many d.land.people.length).filter (fun _ => false) = [] := by simp
      rw [ff]
      simp -dsimp -implicitDefEqProofs [ne, fits]
      refine hid ⟨hb2, y8, y14, some (.val (.lst ((allR d.many d.land.people.length).map rowD))), x18, ?_⟩
      rw [E03, hp]
end
end Bp.Q
set_option Elab.async false
set_option linter.all false
set_option maxRecDepth 100000
/-! BpR6: law k03, last part. -/
namespace Bp.Q
open PySem
section
variable {p : Prog} {n : Nat} {st : Store}
theorem sp_districts_nil (H : Pl p) : p.cl (n + 1) 16 [.tup []] st = .ok (.tup []) st := by
  rw [cl_step H.f16 rfl]
  have e : biD .len [.tup []] = some (.int 0) := rfl
  rw [show c16.body = .iff (.cmp .eq (.app .len [(.var 0)]) (.cst (.int 0))) [.ret (.tup [])] [] :: c16.body.drop 1 from rfl, t_cons, iff_eq (q := true) (st' := st) (by simp -dsimp -implicitDefEqProofs [c16, e])]
  simp -dsimp -implicitDefEqProofs [c16, fits]
theorem k03_f (H : K03 p) (ns : List Int) {d : DraftV} {b : Nat} (hd : d.Ok) (hb : Box st b) {x6 x7 x8 x14 x15 x16 x17 x18 : Option Slot} {P : Out → Store → Prop} : Sat (evSs (p.cf (n + 12)) ((c46.body.drop 16).take 2) (E03 ns d b x6 x7 x8 none x14 x15 x16 x17 x18 none) st) (midP (fun env st' => ∃ (x8 : Option Slot), env = E03 ns d b x6 x7 x8 none x14 x15 x16 x17 x18 none) P) := by
  rw [E03]
  generalize hp : plansN d.dn = pls at *
  simp -dsimp -implicitDefEqProofs [c46, comp_brw]
  refine comp_sat (fun dn rest ys st' => Box st' b ∧ dn.length = ys.length ∧ 1 ≤ (dn ++ rest).length ∧ (dn ++ rest).length ≤ 8 ∧ ∀ y ∈ ys, ∃ i : Nat, y = .int i ∧ i < 8) ?_ ?_ ?_
  · simp -dsimp -implicitDefEqProofs
    refine (dr_take H.toDr hb (m := 8) (by omega) (by omega)).mono ?_
    rintro _ st1 ⟨v, rfl, v1, v2, u1⟩
    have rr := rng1_nat (n := v.toNat + 1) (by omega)
    rw [show ((v.toNat + 1 : Nat) : Int) = 1 + v by omega] at rr
    simp -dsimp -implicitDefEqProofs [rr]
    exact hid ⟨u1.box, rfl, by simp, by simp; omega, by simp⟩
  · rintro dn x rest ys st1 ⟨hb1, h1, h2, h3, h4⟩
    refine ⟨_, rfl, ?_⟩
    simp -dsimp -implicitDefEqProofs
    refine (dr_take H.toDr hb1 (m := 8) (by omega) (by omega)).mono ?_
    rintro _ st2 ⟨v, rfl, v1, v2, u2⟩
    simp -dsimp -implicitDefEqProofs
    refine hid ⟨u2.box, by simp [h1], by simp; omega, by simpa using h3, ?_⟩
    intro y hy
    rcases List.mem_append.mp hy with h | h
    · exact h4 y h
    · rw [List.mem_singleton] at h; subst h
      exact ⟨_, nat_of v1, by omega⟩
  · rintro dn ys st1 ⟨hb1, h1, h2, h3, h4⟩
    rw [List.append_nil] at h2 h3
    obtain ⟨r, rfl, hr⟩ := nats_list h4
    rw [List.length_map] at h1
    have r0 : r ≠ [] := by intro e; rw [e] at h1; simp only [List.length_nil] at h1; omega
    have rl : r.length ≤ 8 := by omega
    have cn : cnt r ≤ 8 := cnt_le hr
    refine ⟨by simp [fits]; omega, ?_⟩
    have fold : D.tup (r.map nD) = rowD r := rfl
    have ds := fun m s => sp_districts (n := m) (st := s) H.toPl r0 (by omega) (by omega)
    have d0 := fun m s => sp_districts_nil (n := m) (st := s) H.toPl
    have un := fun m s k => lw_units (n := m) (st := s) H.toLp (row := r) k (by omega)
    have mx := max_row r0
    have hcp : cnt r - 1 + 1 = cnt r := by
      have := lt_cnt (List.getLast_mem r0)
      omega
    have n0 : cmD .ne (.tup []) (.tup []) = some false := cm_ne_refl (by simp [D.data, D.dat, D.datL])
    simp -dsimp -implicitDefEqProofs [fold, fits, d0, n0, ds, comp_brw]
    refine Sat.of_eq (comp_mapT (List.range (cnt r)) nD (fun k => rowD (dist r k)) ?_ ?_ (by rw [List.length_range]; omega)) ?_
    · simp -dsimp -implicitDefEqProofs [mx, op_n_add1, -op_ii_add, -Int.natCast_add, hcp, rng1_nat (show cnt r < 100000000 by omega)]
    · intro k hk
      have tl : ∀ us, biD .tuple [lstD us] = some (rowD us) := fun _ => rfl
      exact ⟨_, rfl, by simp -dsimp -implicitDefEqProofs [un, tl]⟩
    · have ne : cmD .ne (.tup ((List.range (cnt r)).map fun k => rowD (dist r k))) (.tup ((List.range (cnt r)).map fun k => rowD (dist r k))) = some false := cm_ne_refl (by
        have := rows_data ((List.range (cnt r)).map (dist r))
        rw [rowsD, List.map_map] at this
        exact this)
      simp -dsimp -implicitDefEqProofs [ne]
      refine hid ⟨some (.val (rowD r)), ?_⟩
      rw [E03, hp]
end
end Bp.Q
set_option Elab.async false
set_option linter.all false
set_option maxRecDepth 100000
/-! BpR7: law k03, whole. -/
namespace Bp.Q
open PySem
theorem tup2_ne {a b : D} (ha : D.dat 1 a = true) (hb : D.dat 1 b = true) : cmD .ne (.tup [a, b]) (.tup [a, b]) = some false := cm_ne_refl (by
  have h1 := dat_le (show 1 ≤ 39 by decide) ha
  have h2 := dat_le (show 1 ≤ 39 by decide) hb
  simp [D.data, D.dat, D.datL, h1, h2])
section
variable {p : Prog} {n : Nat} {st : Store}
theorem told1 (H : K03 p) {l a : D} (ia : isD p.nc a = true) (ha : wiB a 1 4 = false) (b c : D) (m : Nat) (s : Store) : p.cl (m + 4) 37 [l, a, b, c] s = .ok (.tup [.str "number", a]) (s ++ [.inst 1 []]) := told_num H.toLd H.f37 H.xs0 (init_exc1 H.toLd ia ha)
theorem told2 (H : K03 p) {l b : D} {a : Int} (ha : wiB (.int a) 1 4 = true) (ib : isD p.nc b = true) (hb : wiB b 0 999 = false) (c : D) (m : Nat) (s : Store) : p.cl (m + 4) 37 [l, .int a, b, c] s = .ok (.tup [.str "number", b]) (s ++ [.inst 1 []]) := told_num H.toLd H.f37 H.xs0 (init_exc2 H.toLd rfl ha ib hb)
theorem told3 (H : K03 p) {l c : D} {a b : Int} (ha : wiB (.int a) 1 4 = true) (hb : wiB (.int b) 0 999 = true) (ic : isD p.nc c = true) (hc : wiB c b 999 = false) (m : Nat) (s : Store) : p.cl (m + 4) 37 [l, .int a, .int b, c] s = .ok (.tup [.str "number", c]) (s ++ [.inst 1 []]) := told_num H.toLd H.f37 H.xs0 (init_exc3 H.toLd rfl ha hb ic hc)
theorem k03_g (H : K03 p) (ns : List Int) {d : DraftV} {b : Nat} (hd : d.Ok) {x6 x7 x8 x14 x15 x16 x17 x18 : Option Slot} : Sat (evSs (p.cf (n + 12)) (c46.body.drop 18) (E03 ns d b x6 x7 x8 none x14 x15 x16 x17 x18 none) st) (outP fun d _ => d = .bl true) := by
  have m1 := hd.m1
  have m4 := hd.m4
  have wm : wiB (.int d.many) 1 4 = true := by simp [wiB]; omega
  rw [E03]
  generalize plansN d.dn = pls
  simp -dsimp -implicitDefEqProofs [c46, negD, fits]
  refine for_typed [.int 0, .int 5, .int (-1), .non, .bl true, .str "2"] id (fun as env st' => ∃ x9, env = E3L ns d b pls x6 x7 x8 x9 x14 x15 x16 x17 x18 none) ?_ ?_ ?_ ?_
  · simp -dsimp -implicitDefEqProofs [negD, fits]
  · exact ⟨none, rfl⟩
  · rintro as w rest _ st1 has ⟨y9, rfl⟩
    have hw : w ∈ [D.int 0, .int 5, .int (-1), .non, .bl true, .str "2"] := by rw [has]; simp
    have hw' : isD p.nc w = true ∧ wiB w 1 4 = false ∧ D.dat 1 w = true := by
      simp only [List.mem_cons, List.not_mem_nil, or_false] at hw
      rcases hw with rfl | rfl | rfl | rfl | rfl | rfl <;> exact ⟨rfl, by decide, by simp [D.dat]⟩
    have t1 := fun l m s => told1 H (l := l) hw'.1 hw'.2.1 .non .non m s
    have ne := tup2_ne (a := .str "number") (by simp [D.dat]) hw'.2.2
    refine ⟨_, rfl, ?_⟩
    simp -dsimp -implicitDefEqProofs [E3L, fld_land H.toLd, t1, fits, ne]
    exact hid ⟨some (.val w), rfl⟩
  rintro _ st1 ⟨y9, rfl⟩
  simp -dsimp -implicitDefEqProofs [E3L]
  refine for_typed [.int (-1), .int 1000, .non, .bl true, .str "2"] id (fun as env st' => ∃ x9, env = E3L ns d b pls x6 x7 x8 x9 x14 x15 x16 x17 x18 none) ?_ ?_ ?_ ?_
  · simp -dsimp -implicitDefEqProofs [negD, fits]
  · exact ⟨y9, rfl⟩
  · rintro as w rest _ st2 has ⟨z9, rfl⟩
    have hw : w ∈ [D.int (-1), .int 1000, .non, .bl true, .str "2"] := by rw [has]; simp
    have hw' : isD p.nc w = true ∧ wiB w 0 999 = false ∧ D.dat 1 w = true := by
      simp only [List.mem_cons, List.not_mem_nil, or_false] at hw
      rcases hw with rfl | rfl | rfl | rfl | rfl <;> exact ⟨rfl, by decide, by simp [D.dat]⟩
    have t2 := fun l m s => told2 H (l := l) wm hw'.1 hw'.2.1 .non m s
    have t3 := fun l m s => told3 H (l := l) wm (b := 0) (by decide) hw'.1 hw'.2.1 m s
    have ne := tup2_ne (a := .str "number") (by simp [D.dat]) hw'.2.2
    refine ⟨_, rfl, ?_⟩
    simp -dsimp -implicitDefEqProofs [E3L, fld_land H.toLd, t2, t3, fits, ne]
    exact hid ⟨some (.val w), rfl⟩
  rintro _ st2 ⟨z9, rfl⟩
  have t3 := fun l m s => told3 H (l := l) (c := .int 4) wm (b := 5) (by decide) rfl (by decide) m s
  have hk : DraftV.Ok ⟨d.land, 4, 999, 999⟩ := ⟨hd.land, show 1 ≤ 4 by decide, show 4 ≤ 4 by decide, show 999 ≤ 999 by decide, show 999 ≤ 999 by decide⟩
  have t4 : ∀ m s, p.cl (m + 4) 37 [landD d.land, .int 4, .int 999, .int 999] s = .ok (.tup [.str "kept", .int 4, .int 999, .int 999]) s := fun m s => told_kept (n := m) (st := s) H.toLd H.f37 hk
  have q1 : cmD .eq (.tup [.str "number", .int 4]) (.tup [.str "number", .int 4]) = some true := cm_eq_refl (by simp [D.data, D.dat, D.datL])
  have q2 : cmD .eq (.tup [.str "kept", .int 4, .int 999, .int 999]) (.tup [.str "kept", .int 4, .int 999, .int 999]) = some true := cm_eq_refl (by simp [D.data, D.dat, D.datL])
  simp -dsimp -implicitDefEqProofs [E3L, fld_land H.toLd, t3, t4, q1, q2, fits]
theorem law03 (H : K03 p) (ns : List Int) (hns : ns.length ≤ 63) : Sat (p.cl (n + 13) 46 [.scr ns] st) (fun d _ => d = .bl true) := by
  refine sat_cl H.f46 rfl ?_
  refine sat_cut 5 _ (k03_a H ns hns) ?_
  rintro _ st1 ⟨d, b, hd, hlow, hb, rfl⟩
  refine sat_cut 6 _ (k03_b H ns hd hlow hb) ?_
  rintro _ st2 ⟨hb2, rfl⟩
  rw [List.drop_drop]
  refine sat_cut 3 _ (k03_c H ns hd hb2) ?_
  rintro _ st3 ⟨hb3, rs, x7, x8, x14, hrl, hg, rfl⟩
  rw [List.drop_drop]
  refine sat_cut 1 _ (k03_d H ns hd hb3 hrl hg) ?_
  rintro _ st4 ⟨hb4, x8, x15, x16, rfl⟩
  rw [List.drop_drop]
  refine sat_cut 1 _ (k03_e H ns hd hb4) ?_
  rintro _ st5 ⟨hb5, x8, x14, x17, x18, rfl⟩
  rw [List.drop_drop]
  refine sat_cut 2 _ (k03_f H ns hd hb5) ?_
  rintro _ st6 ⟨x8, rfl⟩
  rw [List.drop_drop]
  exact k03_g H ns hd
end
end Bp.Q
set_option Elab.async false
set_option linter.all false
set_option maxRecDepth 100000
set_option maxHeartbeats 0
namespace Lw
open PySem PySem.Spec PyProof.Rows L2 Bp
def top (i : Nat) : Stmt := PySem.Challenge.pw_borderplans_k03_whole_plans.main.body.getD i (.Pass ⟨0, 0, 0, 0⟩)
def fdT : List (Nat × Fd) := [(0, c0), (1, c1), (2, c2), (3, c3), (4, c4), (5, c5), (6, c6), (7, c7), (8, c8), (9, c9), (10, c10), (11, c11), (12, c12), (13, c13), (14, c14), (15, c15), (39, c39), (16, c16), (17, c17), (18, c18), (40, c40), (19, c19), (41, c41), (42, c42), (23, c23), (24, c24), (25, c25), (26, c26), (27, c27), (43, c43), (44, c44), (28, c28), (29, c29), (30, c30), (31, c31), (32, c32), (33, c33), (34, c34), (35, c35), (36, c36), (37, c37), (45, c45), (46, c46)]
def conT : List (Nat × D) := [(0, (.int 8)), (1, (.int 16)), (2, (.int 99)), (3, (.int 99)), (4, (.int 4)), (5, (.int 999))]
def fsT : List (List Nat) := [[0, 1, 2, 3], [4, 5, 6, 7]]
def iniT : List (Nat × Nat) := [(0, 8), (1, 13)]
def pr : Prog := ⟨fun f => fdT.lookup f, fun k => conT.lookup k, fun c => fsT.getD c [], fun c => iniT.lookup c, 2, [0, 1, 2, 3, 4]⟩
def gm : Gm := { fn := [(("is_integer" : Str), ((0 : Nat), (1 : Nat))), (("is_within" : Str), ((1 : Nat), (3 : Nat))), (("is_tuple" : Str), ((2 : Nat), (3 : Nat))), (("are_within" : Str), ((3 : Nat), (4 : Nat))), (("is_ascending" : Str), ((4 : Nat), (1 : Nat))), (("are_people" : Str), ((5 : Nat), (1 : Nat))), (("is_pair" : Str), ((6 : Nat), (2 : Nat))), (("are_ties" : Str), ((7 : Nat), (2 : Nat))), (("are_tied" : Str), ((11 : Nat), (3 : Nat))), (("hang_together" : Str), ((12 : Nat), (2 : Nat))), (("numberings" : Str), ((15 : Nat), (2 : Nat))), (("is_numbering" : Str), ((39 : Nat), (1 : Nat))), (("districts" : Str), ((16 : Nat), (1 : Nat))), (("people_of" : Str), ((17 : Nat), (2 : Nat))), (("is_fair" : Str), ((18 : Nat), (2 : Nat))), (("is_plan" : Str), ((40 : Nat), (2 : Nat))), (("plans" : Str), ((19 : Nat), (1 : Nat))), (("count" : Str), ((41 : Nat), (1 : Nat))), (("first_plan" : Str), ((42 : Nat), (1 : Nat))), (("_law_box" : Str), ((23 : Nat), (2 : Nat))), (("_law_take" : Str), ((24 : Nat), (2 : Nat))), (("_law_pick" : Str), ((25 : Nat), (2 : Nat))), (("_law_whole" : Str), ((26 : Nat), (1 : Nat))), (("_law_is_numbers" : Str), ((27 : Nat), (2 : Nat))), (("_law_is_due" : Str), ((43 : Nat), (2 : Nat))), (("_law_spoilt" : Str), ((44 : Nat), (3 : Nat))), (("_law_shuffled" : Str), ((28 : Nat), (2 : Nat))), (("_law_ties" : Str), ((29 : Nat), (2 : Nat))), (("_law_land" : Str), ((30 : Nat), (2 : Nat))), (("_law_draft" : Str), ((31 : Nat), (2 : Nat))), (("_law_hang" : Str), ((32 : Nat), (2 : Nat))), (("_law_units" : Str), ((33 : Nat), (2 : Nat))), (("_law_is_plan" : Str), ((34 : Nat), (2 : Nat))), (("_law_plans" : Str), ((35 : Nat), (1 : Nat))), (("_law_made" : Str), ((36 : Nat), (1 : Nat))), (("_law_told" : Str), ((37 : Nat), (4 : Nat))), (("_law_first" : Str), ((45 : Nat), (1 : Nat))), (("law" : Str), ((46 : Nat), (1 : Nat)))], cl := [(("Land" : Str), (0 : Nat)), (("Draft" : Str), (1 : Nat))], ini := [((0 : Nat), ((8 : Nat), (4 : Nat))), ((1 : Nat), ((13 : Nat), (5 : Nat)))], er := [(("InvalidNumber" : Str), (0 : Nat)), (("InvalidPeople" : Str), (1 : Nat)), (("InvalidLeads" : Str), (2 : Nat)), (("InvalidTies" : Str), (3 : Nat)), (("Undefined" : Str), (4 : Nat))], ef := [((0 : Nat), ("value" : Str)), ((1 : Nat), ("value" : Str)), ((2 : Nat), ("value" : Str)), ((3 : Nat), ("value" : Str)), ((4 : Nat), ("what" : Str))], con := [(("MOST_UNITS" : Str), (0 : Nat)), (("MOST_TIES" : Str), (1 : Nat)), (("MOST_PEOPLE" : Str), (2 : Nat)), (("MOST_LEAD" : Str), (3 : Nat)), (("MOST_DISTRICTS" : Str), (4 : Nat)), (("MOST_BOUND" : Str), (5 : Nat))], bi := [("len" : Str), ("abs" : Str), ("int" : Str), ("str" : Str), ("sum" : Str), ("all" : Str), ("min" : Str), ("max" : Str), ("sorted" : Str), ("tuple" : Str), ("list" : Str), ("isinstance" : Str), ("range" : Str), ("enumerate" : Str), ("set" : Str), ("bool" : Str)], at_ := [(("people" : Str), (0 : Nat)), (("leads" : Str), (1 : Nat)), (("ties" : Str), (2 : Nat)), (("_mates" : Str), (3 : Nat)), (("land" : Str), (4 : Nat)), (("many" : Str), (5 : Nat)), (("low" : Str), (6 : Nat)), (("high" : Str), (7 : Nat))], nc := 2, me := [(((0 : Nat), ("__eq__" : Str)), ((10 : Nat), (2 : Nat))), (((1 : Nat), ("__eq__" : Str)), ((14 : Nat), (2 : Nat)))] }

theorem k0 : chSs gm ⟨["value"], defScope (top 8), fun _ => true⟩ c0.body (defBody (top 8)) = true := by decide +kernel
theorem k1 : chSs gm ⟨["value", "low", "high"], defScope (top 9), fun _ => true⟩ c1.body (defBody (top 9)) = true := by decide +kernel
theorem k2 : chSs gm ⟨["value", "least", "most"], defScope (top 10), fun _ => true⟩ c2.body (defBody (top 10)) = true := by decide +kernel
theorem k3 : chSs gm ⟨["value", "many", "low", "high", "part"], defScope (top 11), fun _ => true⟩ c3.body (defBody (top 11)) = true := by decide +kernel
theorem k4 : chSs gm ⟨["value", "at"], defScope (top 12), fun _ => true⟩ c4.body (defBody (top 12)) = true := by decide +kernel
theorem k5 : chSs gm ⟨["value", "part"], defScope (top 18), fun _ => true⟩ c5.body (defBody (top 18)) = true := by decide +kernel
theorem k6 : chSs gm ⟨["value", "units"], defScope (top 19), fun _ => true⟩ c6.body (defBody (top 19)) = true := by decide +kernel
theorem k7 : chSs gm ⟨["value", "units", "tie"], defScope (top 20), fun _ => true⟩ c7.body (defBody (top 20)) = true := by decide +kernel
theorem k8 : chSs gm ⟨["self", "people", "leads", "ties", "unit", "other"], defScope (inClass (top 21) 0), fun _ => true⟩ c8.body (defBody (inClass (top 21) 0)) = true := by decide +kernel
theorem k9 : chSs gm ⟨["self"], defScope (inClass (top 21) 1), fun _ => true⟩ c9.body (defBody (inClass (top 21) 1)) = true := by decide +kernel
theorem k10 : chSs gm ⟨["self", "other"], defScope (inClass (top 21) 2), fun _ => true⟩ c10.body (defBody (inClass (top 21) 2)) = true := by decide +kernel
theorem k11 : chSs gm ⟨["land", "one", "other"], defScope (top 22), fun _ => true⟩ c11.body (defBody (top 22)) = true := by decide +kernel
theorem k12 : chSs gm ⟨["land", "units", "found", "at", "other"], defScope (top 23), fun _ => true⟩ c12.body (defBody (top 23)) = true := by decide +kernel
theorem k13 : chSs gm ⟨["self", "land", "many", "low", "high"], defScope (inClass (top 27) 0), fun _ => true⟩ c13.body (defBody (inClass (top 27) 0)) = true := by decide +kernel
theorem k14 : chSs gm ⟨["self", "other", "same"], defScope (inClass (top 27) 1), fun _ => true⟩ c14.body (defBody (inClass (top 27) 1)) = true := by decide +kernel
theorem k15 : chSs gm ⟨["units", "many", "rows", "_", "row", "number"], defScope (top 28), fun _ => true⟩ c15.body (defBody (top 28)) = true := by decide +kernel
theorem k39 : chSs gm ⟨["value", "at", "number"], defScope (top 29), fun _ => true⟩ c39.body (defBody (top 29)) = true := by decide +kernel
theorem k16 : chSs gm ⟨["plan", "found", "number", "unit", "own"], defScope (top 30), fun _ => true⟩ c16.body (defBody (top 30)) = true := by decide +kernel
theorem k17 : chSs gm ⟨["land", "units", "unit"], defScope (top 31), fun _ => true⟩ c17.body (defBody (top 31)) = true := by decide +kernel
theorem k18 : chSs gm ⟨["draft", "row", "units"], defScope (top 32), fun _ => true⟩ c18.body (defBody (top 32)) = true := by decide +kernel
theorem k40 : chSs gm ⟨["draft", "value"], defScope (top 33), fun _ => true⟩ c40.body (defBody (top 33)) = true := by decide +kernel
theorem k19 : chSs gm ⟨["draft", "row"], defScope (top 34), fun _ => true⟩ c19.body (defBody (top 34)) = true := by decide +kernel
theorem k41 : chSs gm ⟨["draft"], defScope (top 35), fun _ => true⟩ c41.body (defBody (top 35)) = true := by decide +kernel
theorem k42 : chSs gm ⟨["draft", "found"], defScope (top 36), fun _ => true⟩ c42.body (defBody (top 36)) = true := by decide +kernel
theorem k23 : chSs gm ⟨["script", "k", "cell", "great"], defScope (top 38), fun _ => true⟩ c23.body (defBody (top 38)) = true := by decide +kernel
theorem k24 : chSs gm ⟨["box", "many", "got"], defScope (top 39), fun _ => true⟩ c24.body (defBody (top 39)) = true := by decide +kernel
theorem k25 : chSs gm ⟨["box", "some"], defScope (top 40), fun _ => true⟩ c25.body (defBody (top 40)) = true := by decide +kernel
theorem k26 : chSs gm ⟨["value"], defScope (top 41), fun _ => true⟩ c26.body (defBody (top 41)) = true := by decide +kernel
theorem k27 : chSs gm ⟨["value", "many", "one"], defScope (top 42), fun _ => true⟩ c27.body (defBody (top 42)) = true := by decide +kernel
theorem k43 : chSs gm ⟨["told", "due"], defScope (top 43), fun _ => true⟩ c43.body (defBody (top 43)) = true := by decide +kernel
theorem k44 : chSs gm ⟨["box", "value", "deep", "at", "how"], defScope (top 44), fun _ => true⟩ c44.body (defBody (top 44)) = true := by decide +kernel
theorem k28 : chSs gm ⟨["box", "some", "found", "one"], defScope (top 45), fun _ => true⟩ c28.body (defBody (top 45)) = true := by decide +kernel
theorem k29 : chSs gm ⟨["box", "n", "how", "order", "found", "more", "k", "pairs", "pair", "both"], defScope (top 46), fun _ => true⟩ c29.body (defBody (top 46)) = true := by decide +kernel
theorem k30 : chSs gm ⟨["box", "most", "n", "wide", "low", "people", "far", "leads", "unit"], defScope (top 47), fun _ => true⟩ c30.body (defBody (top 47)) = true := by decide +kernel
theorem k31 : chSs gm ⟨["script", "most", "box", "land", "many", "total", "even", "slack", "low", "high"], defScope (top 48), fun _ => true⟩ c31.body (defBody (top 48)) = true := by decide +kernel
theorem k32 : chSs gm ⟨["ties", "units", "found", "turn", "a", "b"], defScope (top 49), fun _ => true⟩ c32.body (defBody (top 49)) = true := by decide +kernel
theorem k33 : chSs gm ⟨["plan", "district", "unit"], defScope (top 50), fun _ => true⟩ c33.body (defBody (top 50)) = true := by decide +kernel
theorem k34 : chSs gm ⟨["draft", "value", "unit", "district", "land", "many", "low", "high", "units", "size"], defScope (top 51), fun _ => true⟩ c34.body (defBody (top 51)) = true := by decide +kernel
theorem k35 : chSs gm ⟨["draft", "found", "unit", "land", "many", "low", "high", "longer", "row", "district", "size", "k"], defScope (top 52), fun _ => true⟩ c35.body (defBody (top 52)) = true := by decide +kernel
theorem k36 : chSs gm ⟨["draft", "land", "many", "low", "high"], defScope (top 53), fun _ => true⟩ c36.body (defBody (top 53)) = true := by decide +kernel
theorem k37 : chSs gm ⟨["land", "many", "low", "high", "e", "made"], defScope (top 54), fun _ => true⟩ c37.body (defBody (top 54)) = true := by decide +kernel
theorem k45 : chSs gm ⟨["made", "e"], defScope (top 55), fun _ => true⟩ c45.body (defBody (top 55)) = true := by decide +kernel
theorem k46 : chSs gm ⟨["script", "draft", "box", "n", "made", "due", "some", "k", "row", "odd", "land", "many", "low", "high", "unit", "values", "value", "rows", "longer", "one"], defScope (top 56), fun _ => true⟩ c46.body (defBody (top 56)) = true := by decide +kernel
def d0 : He.DefD := ⟨("is_integer", none), "is_integer", "is_integer", defArgs (top 8), defBody (top 8), defScope (top 8), [], []⟩
def d1 : He.DefD := ⟨("is_within", none), "is_within", "is_within", defArgs (top 9), defBody (top 9), defScope (top 9), [], []⟩
def d2 : He.DefD := ⟨("is_tuple", none), "is_tuple", "is_tuple", defArgs (top 10), defBody (top 10), defScope (top 10), [], []⟩
def d3 : He.DefD := ⟨("are_within", none), "are_within", "are_within", defArgs (top 11), defBody (top 11), defScope (top 11), [], []⟩
def d4 : He.DefD := ⟨("is_ascending", none), "is_ascending", "is_ascending", defArgs (top 12), defBody (top 12), defScope (top 12), [], []⟩
def d5 : He.DefD := ⟨("are_people", none), "are_people", "are_people", defArgs (top 18), defBody (top 18), defScope (top 18), [], []⟩
def d6 : He.DefD := ⟨("is_pair", none), "is_pair", "is_pair", defArgs (top 19), defBody (top 19), defScope (top 19), [], []⟩
def d7 : He.DefD := ⟨("are_ties", none), "are_ties", "are_ties", defArgs (top 20), defBody (top 20), defScope (top 20), [], []⟩
def d8 : He.DefD := ⟨("Land", some "__init__"), "__init__", "Land.__init__", defArgs (inClass (top 21) 0), defBody (inClass (top 21) 0), defScope (inClass (top 21) 0), [], []⟩
def d9 : He.DefD := ⟨("Land", some "__eq__"), "__eq__", "Land.__eq__", defArgs (inClass (top 21) 2), defBody (inClass (top 21) 2), defScope (inClass (top 21) 2), [], []⟩
def d10 : He.DefD := ⟨("are_tied", none), "are_tied", "are_tied", defArgs (top 22), defBody (top 22), defScope (top 22), [], []⟩
def d11 : He.DefD := ⟨("hang_together", none), "hang_together", "hang_together", defArgs (top 23), defBody (top 23), defScope (top 23), [], []⟩
def d12 : He.DefD := ⟨("Draft", some "__init__"), "__init__", "Draft.__init__", defArgs (inClass (top 27) 0), defBody (inClass (top 27) 0), defScope (inClass (top 27) 0), [], []⟩
def d13 : He.DefD := ⟨("Draft", some "__eq__"), "__eq__", "Draft.__eq__", defArgs (inClass (top 27) 1), defBody (inClass (top 27) 1), defScope (inClass (top 27) 1), [], []⟩
def d14 : He.DefD := ⟨("numberings", none), "numberings", "numberings", defArgs (top 28), defBody (top 28), defScope (top 28), [], []⟩
def d15 : He.DefD := ⟨("is_numbering", none), "is_numbering", "is_numbering", defArgs (top 29), defBody (top 29), defScope (top 29), [], []⟩
def d16 : He.DefD := ⟨("districts", none), "districts", "districts", defArgs (top 30), defBody (top 30), defScope (top 30), [], []⟩
def d17 : He.DefD := ⟨("people_of", none), "people_of", "people_of", defArgs (top 31), defBody (top 31), defScope (top 31), [], []⟩
def d18 : He.DefD := ⟨("is_fair", none), "is_fair", "is_fair", defArgs (top 32), defBody (top 32), defScope (top 32), [], []⟩
def d19 : He.DefD := ⟨("is_plan", none), "is_plan", "is_plan", defArgs (top 33), defBody (top 33), defScope (top 33), [], []⟩
def d20 : He.DefD := ⟨("plans", none), "plans", "plans", defArgs (top 34), defBody (top 34), defScope (top 34), [], []⟩
def d21 : He.DefD := ⟨("count", none), "count", "count", defArgs (top 35), defBody (top 35), defScope (top 35), [], []⟩
def d22 : He.DefD := ⟨("first_plan", none), "first_plan", "first_plan", defArgs (top 36), defBody (top 36), defScope (top 36), [], []⟩
def d23 : He.DefD := ⟨("_law_box", none), "_law_box", "_law_box", defArgs (top 38), defBody (top 38), defScope (top 38), [], []⟩
def d24 : He.DefD := ⟨("_law_take", none), "_law_take", "_law_take", defArgs (top 39), defBody (top 39), defScope (top 39), [], []⟩
def d25 : He.DefD := ⟨("_law_pick", none), "_law_pick", "_law_pick", defArgs (top 40), defBody (top 40), defScope (top 40), [], []⟩
def d26 : He.DefD := ⟨("_law_whole", none), "_law_whole", "_law_whole", defArgs (top 41), defBody (top 41), defScope (top 41), [], []⟩
def d27 : He.DefD := ⟨("_law_is_numbers", none), "_law_is_numbers", "_law_is_numbers", defArgs (top 42), defBody (top 42), defScope (top 42), [], []⟩
def d28 : He.DefD := ⟨("_law_is_due", none), "_law_is_due", "_law_is_due", defArgs (top 43), defBody (top 43), defScope (top 43), [], []⟩
def d29 : He.DefD := ⟨("_law_spoilt", none), "_law_spoilt", "_law_spoilt", defArgs (top 44), defBody (top 44), defScope (top 44), [], []⟩
def d30 : He.DefD := ⟨("_law_shuffled", none), "_law_shuffled", "_law_shuffled", defArgs (top 45), defBody (top 45), defScope (top 45), [], []⟩
def d31 : He.DefD := ⟨("_law_ties", none), "_law_ties", "_law_ties", defArgs (top 46), defBody (top 46), defScope (top 46), [], []⟩
def d32 : He.DefD := ⟨("_law_land", none), "_law_land", "_law_land", defArgs (top 47), defBody (top 47), defScope (top 47), [], []⟩
def d33 : He.DefD := ⟨("_law_draft", none), "_law_draft", "_law_draft", defArgs (top 48), defBody (top 48), defScope (top 48), [], []⟩
def d34 : He.DefD := ⟨("_law_hang", none), "_law_hang", "_law_hang", defArgs (top 49), defBody (top 49), defScope (top 49), [], []⟩
def d35 : He.DefD := ⟨("_law_units", none), "_law_units", "_law_units", defArgs (top 50), defBody (top 50), defScope (top 50), [], []⟩
def d36 : He.DefD := ⟨("_law_is_plan", none), "_law_is_plan", "_law_is_plan", defArgs (top 51), defBody (top 51), defScope (top 51), [], []⟩
def d37 : He.DefD := ⟨("_law_plans", none), "_law_plans", "_law_plans", defArgs (top 52), defBody (top 52), defScope (top 52), [], []⟩
def d38 : He.DefD := ⟨("_law_made", none), "_law_made", "_law_made", defArgs (top 53), defBody (top 53), defScope (top 53), [], []⟩
def d39 : He.DefD := ⟨("_law_told", none), "_law_told", "_law_told", defArgs (top 54), defBody (top 54), defScope (top 54), [], []⟩
def d40 : He.DefD := ⟨("_law_first", none), "_law_first", "_law_first", defArgs (top 55), defBody (top 55), defScope (top 55), [], []⟩
def d41 : He.DefD := ⟨("law", none), "law", "law", defArgs (top 56), defBody (top 56), defScope (top 56), [], []⟩
def d42 : He.DefD := ⟨("InvalidNumber", some "__init__"), "__init__", "InvalidNumber.__init__", defArgs (inClass (top 2) 0), defBody (inClass (top 2) 0), defScope (inClass (top 2) 0), [], []⟩
def d43 : He.DefD := ⟨("InvalidPeople", some "__init__"), "__init__", "InvalidPeople.__init__", defArgs (inClass (top 3) 0), defBody (inClass (top 3) 0), defScope (inClass (top 3) 0), [], []⟩
def d44 : He.DefD := ⟨("InvalidLeads", some "__init__"), "__init__", "InvalidLeads.__init__", defArgs (inClass (top 4) 0), defBody (inClass (top 4) 0), defScope (inClass (top 4) 0), [], []⟩
def d45 : He.DefD := ⟨("InvalidTies", some "__init__"), "__init__", "InvalidTies.__init__", defArgs (inClass (top 5) 0), defBody (inClass (top 5) 0), defScope (inClass (top 5) 0), [], []⟩
def d46 : He.DefD := ⟨("Undefined", some "__init__"), "__init__", "Undefined.__init__", defArgs (inClass (top 6) 0), defBody (inClass (top 6) 0), defScope (inClass (top 6) 0), [], []⟩
def fn : List He.DefD := [d0, d1, d2, d3, d4, d5, d6, d7, d8, d9, d10, d11, d12, d13, d14, d15, d16, d17, d18, d19, d20, d21, d22, d23, d24, d25, d26, d27, d28, d29] ++ [d30, d31, d32, d33, d34, d35, d36, d37, d38, d39, d40, d41, d42, d43, d44, d45, d46]
def tab : Tab := ⟨["Land", "Draft"], ["InvalidNumber", "InvalidPeople", "InvalidLeads", "InvalidTies", "Undefined"], ["value", "value", "value", "value", "what"], ["people", "leads", "ties", "_mates", "land", "many", "low", "high", "kind", "known", "groups", "draft", "watched", "_kept", "_words", "_done", "_undone"], [(("MOST_UNITS" : Str), (0 : Nat), (8 : Int)), (("MOST_TIES" : Str), (1 : Nat), (16 : Int)), (("MOST_PEOPLE" : Str), (2 : Nat), (99 : Int)), (("MOST_LEAD" : Str), (3 : Nat), (99 : Int)), (("MOST_DISTRICTS" : Str), (4 : Nat), (4 : Int)), (("MOST_BOUND" : Str), (5 : Nat), (999 : Int))]⟩
def ns0 : List Str := ["BorderError", "InvalidNumber", "InvalidPeople", "InvalidLeads", "InvalidTies", "Undefined", "is_integer", "is_within", "is_tuple", "are_within", "is_ascending", "MOST_UNITS", "MOST_TIES", "MOST_PEOPLE", "MOST_LEAD", "are_people", "is_pair", "are_ties", "Land", "are_tied", "hang_together", "MOST_DISTRICTS", "MOST_BOUND", "Draft", "numberings", "is_numbering", "districts", "people_of", "is_fair", "is_plan"]
def ns1 : List Str := ["plans", "count", "first_plan", "_law_box", "_law_take", "_law_pick", "_law_whole", "_law_is_numbers", "_law_is_due", "_law_spoilt", "_law_shuffled", "_law_ties", "_law_land", "_law_draft", "_law_hang", "_law_units", "_law_is_plan", "_law_plans", "_law_made", "_law_told", "_law_first"]
def names : List Str := ns0 ++ ns1
theorem tab_ok : tabB gm pr tab = true := by decide +kernel
abbrev R : PySem.W.OpenRow := PySem.W.OpenLaw.row PySem.Challenge.rw_borderplans_k03_whole_plans
abbrev hk : PySem.W.Hook := hookB 6 (chkK gm pr tab) fn
def ob (s : PySem.W.SharedT) : He.AlD := obsBG 6 (chkK gm pr tab) fn (HandSHeadRun.getT s)
theorem ob_eq (s : PySem.W.SharedT) : ob s = hk.obs s.abs := obsBG_eq (HandSHeadRun.getT_eq s)
theorem run (w : World) : HandSHeadRun.RunEq R (PySem.W.view R.prog [56]) hk ob 20000 names w := by
  intro os
  kernel_rfl
section
variable {P : Program} {w : World} {K : Bp.Frag} {mg : Str → Option Value} {base : Heap}
abbrev gl (P : Program) (w : World) (K : Bp.Frag) (mg : Str → Option Value) (base : Heap) : Glob := tab.glob pr.fs P w K mg base
theorem s0 : FnScope ["value"] ["value"] (defScope (top 8)) := ⟨rfl, rfl, rfl, by decide +kernel, rfl, by decide +kernel, by decide +kernel⟩
theorem f_is_integer (c : He.SaysD [] fn K) : DefFact (gl P w K mg base) gm pr 0 1 (He.fAd K d0.at_) := mk_def (c.def_ 0 (d := d0) rfl) (fdc := c0) rfl (fun _ _ _ _ _ _ us hl => match us, hl with | [_], _ => rfl) s0 rfl rfl rfl (by decide) k0
theorem s1 : FnScope ["value", "low", "high"] ["value", "low", "high"] (defScope (top 9)) := ⟨rfl, rfl, rfl, by decide +kernel, rfl, by decide +kernel, by decide +kernel⟩
theorem f_is_within (c : He.SaysD [] fn K) : DefFact (gl P w K mg base) gm pr 1 3 (He.fAd K d1.at_) := mk_def (c.def_ 1 (d := d1) rfl) (fdc := c1) rfl (fun _ _ _ _ _ _ us hl => match us, hl with | [_, _, _], _ => rfl) s1 rfl rfl rfl (by decide) k1
theorem s2 : FnScope ["value", "least", "most"] ["value", "least", "most"] (defScope (top 10)) := ⟨rfl, rfl, rfl, by decide +kernel, rfl, by decide +kernel, by decide +kernel⟩
theorem f_is_tuple (c : He.SaysD [] fn K) : DefFact (gl P w K mg base) gm pr 2 3 (He.fAd K d2.at_) := mk_def (c.def_ 2 (d := d2) rfl) (fdc := c2) rfl (fun _ _ _ _ _ _ us hl => match us, hl with | [_, _, _], _ => rfl) s2 rfl rfl rfl (by decide) k2
theorem s3 : FnScope ["value", "many", "low", "high", "part"] ["value", "many", "low", "high"] (defScope (top 11)) := ⟨rfl, rfl, rfl, by decide +kernel, rfl, by decide +kernel, by decide +kernel⟩
theorem f_are_within (c : He.SaysD [] fn K) : DefFact (gl P w K mg base) gm pr 3 4 (He.fAd K d3.at_) := mk_def (c.def_ 3 (d := d3) rfl) (fdc := c3) rfl (fun _ _ _ _ _ _ us hl => match us, hl with | [_, _, _, _], _ => rfl) s3 rfl rfl rfl (by decide) k3
theorem s4 : FnScope ["value", "at"] ["value"] (defScope (top 12)) := ⟨rfl, rfl, rfl, by decide +kernel, rfl, by decide +kernel, by decide +kernel⟩
theorem f_is_ascending (c : He.SaysD [] fn K) : DefFact (gl P w K mg base) gm pr 4 1 (He.fAd K d4.at_) := mk_def (c.def_ 4 (d := d4) rfl) (fdc := c4) rfl (fun _ _ _ _ _ _ us hl => match us, hl with | [_], _ => rfl) s4 rfl rfl rfl (by decide) k4
theorem s5 : FnScope ["value", "part"] ["value"] (defScope (top 18)) := ⟨rfl, rfl, rfl, by decide +kernel, rfl, by decide +kernel, by decide +kernel⟩
theorem f_are_people (c : He.SaysD [] fn K) : DefFact (gl P w K mg base) gm pr 5 1 (He.fAd K d5.at_) := mk_def (c.def_ 5 (d := d5) rfl) (fdc := c5) rfl (fun _ _ _ _ _ _ us hl => match us, hl with | [_], _ => rfl) s5 rfl rfl rfl (by decide) k5
theorem s6 : FnScope ["value", "units"] ["value", "units"] (defScope (top 19)) := ⟨rfl, rfl, rfl, by decide +kernel, rfl, by decide +kernel, by decide +kernel⟩
theorem f_is_pair (c : He.SaysD [] fn K) : DefFact (gl P w K mg base) gm pr 6 2 (He.fAd K d6.at_) := mk_def (c.def_ 6 (d := d6) rfl) (fdc := c6) rfl (fun _ _ _ _ _ _ us hl => match us, hl with | [_, _], _ => rfl) s6 rfl rfl rfl (by decide) k6
theorem s7 : FnScope ["value", "units", "tie"] ["value", "units"] (defScope (top 20)) := ⟨rfl, rfl, rfl, by decide +kernel, rfl, by decide +kernel, by decide +kernel⟩
theorem f_are_ties (c : He.SaysD [] fn K) : DefFact (gl P w K mg base) gm pr 7 2 (He.fAd K d7.at_) := mk_def (c.def_ 7 (d := d7) rfl) (fdc := c7) rfl (fun _ _ _ _ _ _ us hl => match us, hl with | [_, _], _ => rfl) s7 rfl rfl rfl (by decide) k7
theorem s8 : FnScope ["self", "people", "leads", "ties", "unit", "other"] ["self", "people", "leads", "ties"] (defScope (inClass (top 21) 0)) := ⟨rfl, rfl, rfl, by decide +kernel, rfl, by decide +kernel, by decide +kernel⟩
theorem f_Land (c : He.SaysD [] fn K) : DefFact (gl P w K mg base) gm pr 8 4 (He.fAd K d8.at_) := mk_def (c.def_ 8 (d := d8) rfl) (fdc := c8) rfl (fun _ _ _ _ _ _ us hl => match us, hl with | [_, _, _, _], _ => rfl) s8 rfl rfl rfl (by decide) k8
theorem s10 : FnScope ["self", "other"] ["self", "other"] (defScope (inClass (top 21) 2)) := ⟨rfl, rfl, rfl, by decide +kernel, rfl, by decide +kernel, by decide +kernel⟩
theorem f_Land__eq__ (c : He.SaysD [] fn K) : DefFact (gl P w K mg base) gm pr 10 2 (He.fAd K d9.at_) := mk_def (c.def_ 9 (d := d9) rfl) (fdc := c10) rfl (fun _ _ _ _ _ _ us hl => match us, hl with | [_, _], _ => rfl) s10 rfl rfl rfl (by decide) k10
theorem s11 : FnScope ["land", "one", "other"] ["land", "one", "other"] (defScope (top 22)) := ⟨rfl, rfl, rfl, by decide +kernel, rfl, by decide +kernel, by decide +kernel⟩
theorem f_are_tied (c : He.SaysD [] fn K) : DefFact (gl P w K mg base) gm pr 11 3 (He.fAd K d10.at_) := mk_def (c.def_ 10 (d := d10) rfl) (fdc := c11) rfl (fun _ _ _ _ _ _ us hl => match us, hl with | [_, _, _], _ => rfl) s11 rfl rfl rfl (by decide) k11
theorem s12 : FnScope ["land", "units", "found", "at", "other"] ["land", "units"] (defScope (top 23)) := ⟨rfl, rfl, rfl, by decide +kernel, rfl, by decide +kernel, by decide +kernel⟩
theorem f_hang_together (c : He.SaysD [] fn K) : DefFact (gl P w K mg base) gm pr 12 2 (He.fAd K d11.at_) := mk_def (c.def_ 11 (d := d11) rfl) (fdc := c12) rfl (fun _ _ _ _ _ _ us hl => match us, hl with | [_, _], _ => rfl) s12 rfl rfl rfl (by decide) k12
theorem s13 : FnScope ["self", "land", "many", "low", "high"] ["self", "land", "many", "low", "high"] (defScope (inClass (top 27) 0)) := ⟨rfl, rfl, rfl, by decide +kernel, rfl, by decide +kernel, by decide +kernel⟩
theorem f_Draft (c : He.SaysD [] fn K) : DefFact (gl P w K mg base) gm pr 13 5 (He.fAd K d12.at_) := mk_def (c.def_ 12 (d := d12) rfl) (fdc := c13) rfl (fun _ _ _ _ _ _ us hl => match us, hl with | [_, _, _, _, _], _ => rfl) s13 rfl rfl rfl (by decide) k13
theorem s14 : FnScope ["self", "other", "same"] ["self", "other"] (defScope (inClass (top 27) 1)) := ⟨rfl, rfl, rfl, by decide +kernel, rfl, by decide +kernel, by decide +kernel⟩
theorem f_Draft__eq__ (c : He.SaysD [] fn K) : DefFact (gl P w K mg base) gm pr 14 2 (He.fAd K d13.at_) := mk_def (c.def_ 13 (d := d13) rfl) (fdc := c14) rfl (fun _ _ _ _ _ _ us hl => match us, hl with | [_, _], _ => rfl) s14 rfl rfl rfl (by decide) k14
theorem s15 : FnScope ["units", "many", "rows", "_", "row", "number"] ["units", "many"] (defScope (top 28)) := ⟨rfl, rfl, rfl, by decide +kernel, rfl, by decide +kernel, by decide +kernel⟩
theorem f_numberings (c : He.SaysD [] fn K) : DefFact (gl P w K mg base) gm pr 15 2 (He.fAd K d14.at_) := mk_def (c.def_ 14 (d := d14) rfl) (fdc := c15) rfl (fun _ _ _ _ _ _ us hl => match us, hl with | [_, _], _ => rfl) s15 rfl rfl rfl (by decide) k15
theorem s39 : FnScope ["value", "at", "number"] ["value"] (defScope (top 29)) := ⟨rfl, rfl, rfl, by decide +kernel, rfl, by decide +kernel, by decide +kernel⟩
theorem f_is_numbering (c : He.SaysD [] fn K) : DefFact (gl P w K mg base) gm pr 39 1 (He.fAd K d15.at_) := mk_def (c.def_ 15 (d := d15) rfl) (fdc := c39) rfl (fun _ _ _ _ _ _ us hl => match us, hl with | [_], _ => rfl) s39 rfl rfl rfl (by decide) k39
theorem s16 : FnScope ["plan", "found", "number", "unit", "own"] ["plan"] (defScope (top 30)) := ⟨rfl, rfl, rfl, by decide +kernel, rfl, by decide +kernel, by decide +kernel⟩
theorem f_districts (c : He.SaysD [] fn K) : DefFact (gl P w K mg base) gm pr 16 1 (He.fAd K d16.at_) := mk_def (c.def_ 16 (d := d16) rfl) (fdc := c16) rfl (fun _ _ _ _ _ _ us hl => match us, hl with | [_], _ => rfl) s16 rfl rfl rfl (by decide) k16
theorem s17 : FnScope ["land", "units", "unit"] ["land", "units"] (defScope (top 31)) := ⟨rfl, rfl, rfl, by decide +kernel, rfl, by decide +kernel, by decide +kernel⟩
theorem f_people_of (c : He.SaysD [] fn K) : DefFact (gl P w K mg base) gm pr 17 2 (He.fAd K d17.at_) := mk_def (c.def_ 17 (d := d17) rfl) (fdc := c17) rfl (fun _ _ _ _ _ _ us hl => match us, hl with | [_, _], _ => rfl) s17 rfl rfl rfl (by decide) k17
theorem s18 : FnScope ["draft", "row", "units"] ["draft", "row"] (defScope (top 32)) := ⟨rfl, rfl, rfl, by decide +kernel, rfl, by decide +kernel, by decide +kernel⟩
theorem f_is_fair (c : He.SaysD [] fn K) : DefFact (gl P w K mg base) gm pr 18 2 (He.fAd K d18.at_) := mk_def (c.def_ 18 (d := d18) rfl) (fdc := c18) rfl (fun _ _ _ _ _ _ us hl => match us, hl with | [_, _], _ => rfl) s18 rfl rfl rfl (by decide) k18
theorem s40 : FnScope ["draft", "value"] ["draft", "value"] (defScope (top 33)) := ⟨rfl, rfl, rfl, by decide +kernel, rfl, by decide +kernel, by decide +kernel⟩
theorem f_is_plan (c : He.SaysD [] fn K) : DefFact (gl P w K mg base) gm pr 40 2 (He.fAd K d19.at_) := mk_def (c.def_ 19 (d := d19) rfl) (fdc := c40) rfl (fun _ _ _ _ _ _ us hl => match us, hl with | [_, _], _ => rfl) s40 rfl rfl rfl (by decide) k40
theorem s19 : FnScope ["draft", "row"] ["draft"] (defScope (top 34)) := ⟨rfl, rfl, rfl, by decide +kernel, rfl, by decide +kernel, by decide +kernel⟩
theorem f_plans (c : He.SaysD [] fn K) : DefFact (gl P w K mg base) gm pr 19 1 (He.fAd K d20.at_) := mk_def (c.def_ 20 (d := d20) rfl) (fdc := c19) rfl (fun _ _ _ _ _ _ us hl => match us, hl with | [_], _ => rfl) s19 rfl rfl rfl (by decide) k19
theorem s41 : FnScope ["draft"] ["draft"] (defScope (top 35)) := ⟨rfl, rfl, rfl, by decide +kernel, rfl, by decide +kernel, by decide +kernel⟩
theorem f_count (c : He.SaysD [] fn K) : DefFact (gl P w K mg base) gm pr 41 1 (He.fAd K d21.at_) := mk_def (c.def_ 21 (d := d21) rfl) (fdc := c41) rfl (fun _ _ _ _ _ _ us hl => match us, hl with | [_], _ => rfl) s41 rfl rfl rfl (by decide) k41
theorem s42 : FnScope ["draft", "found"] ["draft"] (defScope (top 36)) := ⟨rfl, rfl, rfl, by decide +kernel, rfl, by decide +kernel, by decide +kernel⟩
theorem f_first_plan (c : He.SaysD [] fn K) : DefFact (gl P w K mg base) gm pr 42 1 (He.fAd K d22.at_) := mk_def (c.def_ 22 (d := d22) rfl) (fdc := c42) rfl (fun _ _ _ _ _ _ us hl => match us, hl with | [_], _ => rfl) s42 rfl rfl rfl (by decide) k42
theorem s23 : FnScope ["script", "k", "cell", "great"] ["script", "k"] (defScope (top 38)) := ⟨rfl, rfl, rfl, by decide +kernel, rfl, by decide +kernel, by decide +kernel⟩
theorem f__law_box (c : He.SaysD [] fn K) : DefFact (gl P w K mg base) gm pr 23 2 (He.fAd K d23.at_) := mk_def (c.def_ 23 (d := d23) rfl) (fdc := c23) rfl (fun _ _ _ _ _ _ us hl => match us, hl with | [_, _], _ => rfl) s23 rfl rfl rfl (by decide) k23
theorem s24 : FnScope ["box", "many", "got"] ["box", "many"] (defScope (top 39)) := ⟨rfl, rfl, rfl, by decide +kernel, rfl, by decide +kernel, by decide +kernel⟩
theorem f__law_take (c : He.SaysD [] fn K) : DefFact (gl P w K mg base) gm pr 24 2 (He.fAd K d24.at_) := mk_def (c.def_ 24 (d := d24) rfl) (fdc := c24) rfl (fun _ _ _ _ _ _ us hl => match us, hl with | [_, _], _ => rfl) s24 rfl rfl rfl (by decide) k24
theorem s25 : FnScope ["box", "some"] ["box", "some"] (defScope (top 40)) := ⟨rfl, rfl, rfl, by decide +kernel, rfl, by decide +kernel, by decide +kernel⟩
theorem f__law_pick (c : He.SaysD [] fn K) : DefFact (gl P w K mg base) gm pr 25 2 (He.fAd K d25.at_) := mk_def (c.def_ 25 (d := d25) rfl) (fdc := c25) rfl (fun _ _ _ _ _ _ us hl => match us, hl with | [_, _], _ => rfl) s25 rfl rfl rfl (by decide) k25
theorem s26 : FnScope ["value"] ["value"] (defScope (top 41)) := ⟨rfl, rfl, rfl, by decide +kernel, rfl, by decide +kernel, by decide +kernel⟩
theorem f__law_whole (c : He.SaysD [] fn K) : DefFact (gl P w K mg base) gm pr 26 1 (He.fAd K d26.at_) := mk_def (c.def_ 26 (d := d26) rfl) (fdc := c26) rfl (fun _ _ _ _ _ _ us hl => match us, hl with | [_], _ => rfl) s26 rfl rfl rfl (by decide) k26
theorem s27 : FnScope ["value", "many", "one"] ["value", "many"] (defScope (top 42)) := ⟨rfl, rfl, rfl, by decide +kernel, rfl, by decide +kernel, by decide +kernel⟩
theorem f__law_is_numbers (c : He.SaysD [] fn K) : DefFact (gl P w K mg base) gm pr 27 2 (He.fAd K d27.at_) := mk_def (c.def_ 27 (d := d27) rfl) (fdc := c27) rfl (fun _ _ _ _ _ _ us hl => match us, hl with | [_, _], _ => rfl) s27 rfl rfl rfl (by decide) k27
theorem s43 : FnScope ["told", "due"] ["told", "due"] (defScope (top 43)) := ⟨rfl, rfl, rfl, by decide +kernel, rfl, by decide +kernel, by decide +kernel⟩
theorem f__law_is_due (c : He.SaysD [] fn K) : DefFact (gl P w K mg base) gm pr 43 2 (He.fAd K d28.at_) := mk_def (c.def_ 28 (d := d28) rfl) (fdc := c43) rfl (fun _ _ _ _ _ _ us hl => match us, hl with | [_, _], _ => rfl) s43 rfl rfl rfl (by decide) k43
theorem s44 : FnScope ["box", "value", "deep", "at", "how"] ["box", "value", "deep"] (defScope (top 44)) := ⟨rfl, rfl, rfl, by decide +kernel, rfl, by decide +kernel, by decide +kernel⟩
theorem f__law_spoilt (c : He.SaysD [] fn K) : DefFact (gl P w K mg base) gm pr 44 3 (He.fAd K d29.at_) := mk_def (c.def_ 29 (d := d29) rfl) (fdc := c44) rfl (fun _ _ _ _ _ _ us hl => match us, hl with | [_, _, _], _ => rfl) s44 rfl rfl rfl (by decide) k44
theorem s28 : FnScope ["box", "some", "found", "one"] ["box", "some"] (defScope (top 45)) := ⟨rfl, rfl, rfl, by decide +kernel, rfl, by decide +kernel, by decide +kernel⟩
theorem f__law_shuffled (c : He.SaysD [] fn K) : DefFact (gl P w K mg base) gm pr 28 2 (He.fAd K d30.at_) := mk_def (c.def_ 30 (d := d30) rfl) (fdc := c28) rfl (fun _ _ _ _ _ _ us hl => match us, hl with | [_, _], _ => rfl) s28 rfl rfl rfl (by decide) k28
theorem s29 : FnScope ["box", "n", "how", "order", "found", "more", "k", "pairs", "pair", "both"] ["box", "n"] (defScope (top 46)) := ⟨rfl, rfl, rfl, by decide +kernel, rfl, by decide +kernel, by decide +kernel⟩
theorem f__law_ties (c : He.SaysD [] fn K) : DefFact (gl P w K mg base) gm pr 29 2 (He.fAd K d31.at_) := mk_def (c.def_ 31 (d := d31) rfl) (fdc := c29) rfl (fun _ _ _ _ _ _ us hl => match us, hl with | [_, _], _ => rfl) s29 rfl rfl rfl (by decide) k29
theorem s30 : FnScope ["box", "most", "n", "wide", "low", "people", "far", "leads", "unit"] ["box", "most"] (defScope (top 47)) := ⟨rfl, rfl, rfl, by decide +kernel, rfl, by decide +kernel, by decide +kernel⟩
theorem f__law_land (c : He.SaysD [] fn K) : DefFact (gl P w K mg base) gm pr 30 2 (He.fAd K d32.at_) := mk_def (c.def_ 32 (d := d32) rfl) (fdc := c30) rfl (fun _ _ _ _ _ _ us hl => match us, hl with | [_, _], _ => rfl) s30 rfl rfl rfl (by decide) k30
theorem s31 : FnScope ["script", "most", "box", "land", "many", "total", "even", "slack", "low", "high"] ["script", "most"] (defScope (top 48)) := ⟨rfl, rfl, rfl, by decide +kernel, rfl, by decide +kernel, by decide +kernel⟩
theorem f__law_draft (c : He.SaysD [] fn K) : DefFact (gl P w K mg base) gm pr 31 2 (He.fAd K d33.at_) := mk_def (c.def_ 33 (d := d33) rfl) (fdc := c31) rfl (fun _ _ _ _ _ _ us hl => match us, hl with | [_, _], _ => rfl) s31 rfl rfl rfl (by decide) k31
theorem s32 : FnScope ["ties", "units", "found", "turn", "a", "b"] ["ties", "units"] (defScope (top 49)) := ⟨rfl, rfl, rfl, by decide +kernel, rfl, by decide +kernel, by decide +kernel⟩
theorem f__law_hang (c : He.SaysD [] fn K) : DefFact (gl P w K mg base) gm pr 32 2 (He.fAd K d34.at_) := mk_def (c.def_ 34 (d := d34) rfl) (fdc := c32) rfl (fun _ _ _ _ _ _ us hl => match us, hl with | [_, _], _ => rfl) s32 rfl rfl rfl (by decide) k32
theorem s33 : FnScope ["plan", "district", "unit"] ["plan", "district"] (defScope (top 50)) := ⟨rfl, rfl, rfl, by decide +kernel, rfl, by decide +kernel, by decide +kernel⟩
theorem f__law_units (c : He.SaysD [] fn K) : DefFact (gl P w K mg base) gm pr 33 2 (He.fAd K d35.at_) := mk_def (c.def_ 35 (d := d35) rfl) (fdc := c33) rfl (fun _ _ _ _ _ _ us hl => match us, hl with | [_, _], _ => rfl) s33 rfl rfl rfl (by decide) k33
theorem s34 : FnScope ["draft", "value", "unit", "district", "land", "many", "low", "high", "units", "size"] ["draft", "value"] (defScope (top 51)) := ⟨rfl, rfl, rfl, by decide +kernel, rfl, by decide +kernel, by decide +kernel⟩
theorem f__law_is_plan (c : He.SaysD [] fn K) : DefFact (gl P w K mg base) gm pr 34 2 (He.fAd K d36.at_) := mk_def (c.def_ 36 (d := d36) rfl) (fdc := c34) rfl (fun _ _ _ _ _ _ us hl => match us, hl with | [_, _], _ => rfl) s34 rfl rfl rfl (by decide) k34
theorem s35 : FnScope ["draft", "found", "unit", "land", "many", "low", "high", "longer", "row", "district", "size", "k"] ["draft"] (defScope (top 52)) := ⟨rfl, rfl, rfl, by decide +kernel, rfl, by decide +kernel, by decide +kernel⟩
theorem f__law_plans (c : He.SaysD [] fn K) : DefFact (gl P w K mg base) gm pr 35 1 (He.fAd K d37.at_) := mk_def (c.def_ 37 (d := d37) rfl) (fdc := c35) rfl (fun _ _ _ _ _ _ us hl => match us, hl with | [_], _ => rfl) s35 rfl rfl rfl (by decide) k35
theorem s36 : FnScope ["draft", "land", "many", "low", "high"] ["draft"] (defScope (top 53)) := ⟨rfl, rfl, rfl, by decide +kernel, rfl, by decide +kernel, by decide +kernel⟩
theorem f__law_made (c : He.SaysD [] fn K) : DefFact (gl P w K mg base) gm pr 36 1 (He.fAd K d38.at_) := mk_def (c.def_ 38 (d := d38) rfl) (fdc := c36) rfl (fun _ _ _ _ _ _ us hl => match us, hl with | [_], _ => rfl) s36 rfl rfl rfl (by decide) k36
theorem s37 : FnScope ["land", "many", "low", "high", "e", "made"] ["land", "many", "low", "high"] (defScope (top 54)) := ⟨rfl, rfl, rfl, by decide +kernel, rfl, by decide +kernel, by decide +kernel⟩
theorem f__law_told (c : He.SaysD [] fn K) : DefFact (gl P w K mg base) gm pr 37 4 (He.fAd K d39.at_) := mk_def (c.def_ 39 (d := d39) rfl) (fdc := c37) rfl (fun _ _ _ _ _ _ us hl => match us, hl with | [_, _, _, _], _ => rfl) s37 rfl rfl rfl (by decide) k37
theorem s45 : FnScope ["made", "e"] ["made"] (defScope (top 55)) := ⟨rfl, rfl, rfl, by decide +kernel, rfl, by decide +kernel, by decide +kernel⟩
theorem f__law_first (c : He.SaysD [] fn K) : DefFact (gl P w K mg base) gm pr 45 1 (He.fAd K d40.at_) := mk_def (c.def_ 40 (d := d40) rfl) (fdc := c45) rfl (fun _ _ _ _ _ _ us hl => match us, hl with | [_], _ => rfl) s45 rfl rfl rfl (by decide) k45
theorem s46 : FnScope ["script", "draft", "box", "n", "made", "due", "some", "k", "row", "odd", "land", "many", "low", "high", "unit", "values", "value", "rows", "longer", "one"] ["script"] (defScope (top 56)) := ⟨rfl, rfl, rfl, by decide +kernel, rfl, by decide +kernel, by decide +kernel⟩
theorem f_law (c : He.SaysD [] fn K) : DefFact (gl P w K mg base) gm pr 46 1 (He.fAd K d41.at_) := mk_def (c.def_ 41 (d := d41) rfl) (fdc := c46) rfl (fun _ _ _ _ _ _ us hl => match us, hl with | [_], _ => rfl) s46 rfl rfl rfl (by decide) k46
theorem e0 (c : He.SaysD [] fn K) (h : chkK gm pr tab K = true) : ∃ fd ps, L2.Binds K fd ps [] ∧ FnOk P w K mg base (L2.CX P w) 1 (He.fAd K (tab.xN.getD 0 "", some "__init__")) fd ps (spX (tab.xA K 0) (tab.xF.getD 0 "")) := by
  obtain ⟨fd, F⟩ := c.def_ 42 (d := d42) rfl
  obtain ⟨o1, o2⟩ := err_of h (q := ("InvalidNumber", 0)) (by decide +kernel)
  exact ⟨fd, ["self", "value"], F.bindsN (fun _ _ _ _ _ _ us hl => match us, hl with | [_, _], _ => rfl), err_init (g := gl P w K mg base) F ⟨rfl, rfl, rfl, by decide +kernel, rfl, by decide +kernel, by decide +kernel⟩ o1 o2 (by decide +kernel) (by decide +kernel) (by decide +kernel) (by decide +kernel)⟩
theorem e1 (c : He.SaysD [] fn K) (h : chkK gm pr tab K = true) : ∃ fd ps, L2.Binds K fd ps [] ∧ FnOk P w K mg base (L2.CX P w) 1 (He.fAd K (tab.xN.getD 1 "", some "__init__")) fd ps (spX (tab.xA K 1) (tab.xF.getD 1 "")) := by
  obtain ⟨fd, F⟩ := c.def_ 43 (d := d43) rfl
  obtain ⟨o1, o2⟩ := err_of h (q := ("InvalidPeople", 1)) (by decide +kernel)
  exact ⟨fd, ["self", "value"], F.bindsN (fun _ _ _ _ _ _ us hl => match us, hl with | [_, _], _ => rfl), err_init (g := gl P w K mg base) F ⟨rfl, rfl, rfl, by decide +kernel, rfl, by decide +kernel, by decide +kernel⟩ o1 o2 (by decide +kernel) (by decide +kernel) (by decide +kernel) (by decide +kernel)⟩
theorem e2 (c : He.SaysD [] fn K) (h : chkK gm pr tab K = true) : ∃ fd ps, L2.Binds K fd ps [] ∧ FnOk P w K mg base (L2.CX P w) 1 (He.fAd K (tab.xN.getD 2 "", some "__init__")) fd ps (spX (tab.xA K 2) (tab.xF.getD 2 "")) := by
  obtain ⟨fd, F⟩ := c.def_ 44 (d := d44) rfl
  obtain ⟨o1, o2⟩ := err_of h (q := ("InvalidLeads", 2)) (by decide +kernel)
  exact ⟨fd, ["self", "value"], F.bindsN (fun _ _ _ _ _ _ us hl => match us, hl with | [_, _], _ => rfl), err_init (g := gl P w K mg base) F ⟨rfl, rfl, rfl, by decide +kernel, rfl, by decide +kernel, by decide +kernel⟩ o1 o2 (by decide +kernel) (by decide +kernel) (by decide +kernel) (by decide +kernel)⟩
theorem e3 (c : He.SaysD [] fn K) (h : chkK gm pr tab K = true) : ∃ fd ps, L2.Binds K fd ps [] ∧ FnOk P w K mg base (L2.CX P w) 1 (He.fAd K (tab.xN.getD 3 "", some "__init__")) fd ps (spX (tab.xA K 3) (tab.xF.getD 3 "")) := by
  obtain ⟨fd, F⟩ := c.def_ 45 (d := d45) rfl
  obtain ⟨o1, o2⟩ := err_of h (q := ("InvalidTies", 3)) (by decide +kernel)
  exact ⟨fd, ["self", "value"], F.bindsN (fun _ _ _ _ _ _ us hl => match us, hl with | [_, _], _ => rfl), err_init (g := gl P w K mg base) F ⟨rfl, rfl, rfl, by decide +kernel, rfl, by decide +kernel, by decide +kernel⟩ o1 o2 (by decide +kernel) (by decide +kernel) (by decide +kernel) (by decide +kernel)⟩
theorem e4 (c : He.SaysD [] fn K) (h : chkK gm pr tab K = true) : ∃ fd ps, L2.Binds K fd ps [] ∧ FnOk P w K mg base (L2.CX P w) 1 (He.fAd K (tab.xN.getD 4 "", some "__init__")) fd ps (spX (tab.xA K 4) (tab.xF.getD 4 "")) := by
  obtain ⟨fd, F⟩ := c.def_ 46 (d := d46) rfl
  obtain ⟨o1, o2⟩ := err_of h (q := ("Undefined", 4)) (by decide +kernel)
  exact ⟨fd, ["self", "what"], F.bindsN (fun _ _ _ _ _ _ us hl => match us, hl with | [_, _], _ => rfl), err_init (g := gl P w K mg base) F ⟨rfl, rfl, rfl, by decide +kernel, rfl, by decide +kernel, by decide +kernel⟩ o1 o2 (by decide +kernel) (by decide +kernel) (by decide +kernel) (by decide +kernel)⟩
theorem hfn (c : He.SaysD [] fn K) : ∀ q ∈ gm.fn, DefFact (gl P w K mg base) gm pr q.2.1 q.2.2 (He.fAd K (q.1, none)) :=
  all_cons (f_is_integer c) (all_cons (f_is_within c) (all_cons (f_is_tuple c) (all_cons (f_are_within c) (all_cons (f_is_ascending c) (all_cons (f_are_people c) (all_cons (f_is_pair c) (all_cons (f_are_ties c) (all_cons (f_are_tied c) (all_cons (f_hang_together c) (all_cons (f_numberings c) (all_cons (f_is_numbering c) (all_cons (f_districts c) (all_cons (f_people_of c) (all_cons (f_is_fair c) (all_cons (f_is_plan c) (all_cons (f_plans c) (all_cons (f_count c) (all_cons (f_first_plan c) (all_cons (f__law_box c) (all_cons (f__law_take c) (all_cons (f__law_pick c) (all_cons (f__law_whole c) (all_cons (f__law_is_numbers c) (all_cons (f__law_is_due c) (all_cons (f__law_spoilt c) (all_cons (f__law_shuffled c) (all_cons (f__law_ties c) (all_cons (f__law_land c) (all_cons (f__law_draft c) (all_cons (f__law_hang c) (all_cons (f__law_units c) (all_cons (f__law_is_plan c) (all_cons (f__law_plans c) (all_cons (f__law_made c) (all_cons (f__law_told c) (all_cons (f__law_first c) (all_cons (f_law c) (all_nil))))))))))))))))))))))))))))))))))))))
theorem hini (c : He.SaysD [] fn K) : ∀ q ∈ gm.ini, pr.ini q.1 = some q.2.1 ∧ DefFact (gl P w K mg base) gm pr q.2.1 q.2.2 (He.fAd K (tab.cN.getD q.1 "", some "__init__")) :=
  all_cons (⟨rfl, f_Land c⟩) (all_cons (⟨rfl, f_Draft c⟩) (all_nil))
theorem hme (c : He.SaysD [] fn K) : ∀ q ∈ gm.me, DefFact (gl P w K mg base) gm pr q.2.1 q.2.2 (He.fAd K (tab.cN.getD q.1.1 "", some q.1.2)) :=
  all_cons (f_Land__eq__ c) (all_cons (f_Draft__eq__ c) (all_nil))
theorem her (c : He.SaysD [] fn K) (h : chkK gm pr tab K = true) : ∀ q ∈ gm.er, ∃ fd ps, L2.Binds K fd ps [] ∧ FnOk P w K mg base (L2.CX P w) 1 (He.fAd K (tab.xN.getD q.2 "", some "__init__")) fd ps (spX (tab.xA K q.2) (tab.xF.getD q.2 "")) :=
  all_cons (e0 c h) (all_cons (e1 c h) (all_cons (e2 c h) (all_cons (e3 c h) (all_cons (e4 c h) (all_nil)))))
end
/-- the law's answer is the plain part -/
def LawTrue : Prop := ∀ ns : List Int, ns.length ≤ 63 → ∃ st, pr.cl 20 46 [.scr ns] [] = .ok (.bl true) st
theorem facts (hl : LawTrue) {P : Program} {w : World} {K : Bp.Frag} {h : Heap} {mg : Str → Option Value} {f : Addr} (X : K.In h) (G : h.Ns mainGlobals mg) (hfa : mg ("law" : Str) = some (.ref f)) (c : obsB (chkK gm pr tab) fn K = He.valD fn) :
    ∃ fd : FuncData, (∀ (s : Shared) (v : Value), BindsTo s fd ⟨[v], []⟩ [("script", v)]) ∧ ∀ base : Heap, K.In base → base.Ns mainGlobals mg → FnOk P w K mg base L2.CX0 41 f fd ["script"] (spLaw K 63) := by
  obtain ⟨c1, c2⟩ := saysB c
  obtain ⟨fd, F⟩ := c2.def_ 41 (d := d41) rfl
  have e := hfa.symm.trans (He.glo_ok X G (List.all_eq_true.mp (and_true c1).1 (("law" : Str), (46, 1)) (by decide +kernel)))
  cases e
  have b := FunD.bindsA (ps := ["script"]) F fun _ _ _ _ _ _ us hl => match us, hl with | [_], _ => rfl
  refine ⟨fd, fun s v => b s [v] rfl, fun base _ _ => ?_⟩
  refine toCX0 (P := P) (w := w) ?_ (fun vs H Q E q => q)
  exact law_fn (g := gl P w K mg base) (gm_fact tab_ok c1 X G (hfn c2) (hini c2) (hme c2) (her c2 c1)) (fdc := c46) rfl F s46 rfl rfl (by decide) k46 hl
end Lw
open PySem PySem.W PySem.Calls PyProof.Rows
theorem law_holds_of (hl : Lw.LawTrue) : PySem.Challenge.rw_borderplans_k03_whole_plans.Holds := by
  w_on; o_law
  refine HandSHeadRun.head_any (r := OpenLaw.row PySem.Challenge.rw_borderplans_k03_whole_plans) (q := view (OpenLaw.row PySem.Challenge.rw_borderplans_k03_whole_plans).prog [56]) (H := Lw.hk) (ob := Lw.ob) (M := 20000) (loose := Lw.names) (d := HandSHeadRun.topDef (OpenLaw.row PySem.Challenge.rw_borderplans_k03_whole_plans).prog 56) (kwd := []) Lw.ob_eq
    (by kernel_rfl) (fun s => by kernel_rfl) Lw.run (by kernel_rfl) (by kernel_rfl) (by kernel_rfl) (by rfl) (by first | assumption | decide +kernel) (by decide +kernel) ⟨rfl, rfl, rfl, rfl, rfl, by decide +kernel⟩ ?hw ?hc
  case hw => w_witness2
  case hc =>
    refine L2.walk_ofE (l := PySem.Challenge.rw_borderplans_k03_whole_plans) (n := 63) (k := 41) (x := "script") (CX := L2.CX0) rfl (by decide) (by kernel_rfl) ⟨rfl, by decide, by decide⟩ ?F (fun _ _ _ _ z => z)
    intro w mg fa h Y G hmg0
    obtain ⟨K, KX, c⟩ := Y
    have hmg : mg ("law" : PySem.Str) = some (.ref fa) := by
      have e : (HandSHeadRun.topDef (OpenLaw.row PySem.Challenge.rw_borderplans_k03_whole_plans).prog 56).name = ("law" : PySem.Str) := by kernel_rfl
      rw [← e]
      exact hmg0
    obtain ⟨fd, hb, hF⟩ := Lw.facts hl (P := (PySem.Challenge.rw_borderplans_k03_whole_plans).prog) (w := w) KX G hmg c
    exact ⟨K, fd, Bp.spLaw K 63, KX, hb, fun H a ns hl _ hS => ⟨a, ns, rfl, hl, hS, fun _ => rfl⟩, hF⟩
set_option Elab.async false
set_option linter.all false
set_option maxRecDepth 100000
namespace Lw
open PySem Bp Bp.Q
theorem k03p : K03 pr where
  f1 := .inl ⟨rfl, rfl⟩
  f2 := rfl
  f3 := rfl
  f4 := rfl
  nc := by decide
  fs0 := rfl
  fs1 := rfl
  f5 := rfl
  f6 := rfl
  f7 := .inl ⟨rfl, rfl⟩
  f8 := .inl ⟨rfl, rfl⟩
  f11 := rfl
  f12 := rfl
  f13 := rfl
  g0 := rfl
  g2 := rfl
  g4 := rfl
  g5 := rfl
  i0 := rfl
  i1 := rfl
  f15 := rfl
  f16 := rfl
  f17 := rfl
  f18 := rfl
  f19 := rfl
  f26 := rfl
  f27 := rfl
  f32 := rfl
  f33 := rfl
  f34 := rfl
  f35 := rfl
  f23 := rfl
  f24 := rfl
  f25 := rfl
  f28 := rfl
  f29 := rfl
  f30 := rfl
  f31 := rfl
  f39 := rfl
  f40 := rfl
  f41 := rfl
  f42 := rfl
  f44 := rfl
  f10 := rfl
  f14 := rfl
  f36 := rfl
  f37 := rfl
  f43 := rfl
  f45 := rfl
  f46 := rfl
  xs0 := by decide
  xs4 := by decide
theorem lawTrue : LawTrue := fun ns hns => by
  obtain ⟨d, st, e, h⟩ := (law03 (n := 7) (st := []) k03p ns hns).ex
  exact ⟨st, h ▸ e⟩
end Lw
theorem PySem.Challenge.cw_borderplans_k03_whole_plans_holds : PySem.Challenge.rw_borderplans_k03_whole_plans.Holds := by
  exact law_holds_of Lw.lawTrue
