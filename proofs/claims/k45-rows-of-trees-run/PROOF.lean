import PyProof.Rows.All
import Wide.All
import OpenK.AllK
import Wide.FinOn
import HandS.Conv
import HandS.Ends
import HandS.Flow
import HandS.ForMost
import HandS.IsInst
import HandS.More
import HandS.Rev
import HandS.SortInts
import HandS.Style
import HandS.TupAny
import HandS.TupLe
import HandS.TupMul
import HandS.WideBits
import HandS.Words
import HandS.Zip
import KE.DataEq
import KE.KRevSl
import PySem.Challenge.RW_readwhilechanged_k45_rows_of_trees_run
set_option Elab.async false
set_option linter.all false
set_option maxRecDepth 100000
set_option autoImplicit false
/-! Ev1: a small language with value semantics: data, terms, the evaluator. -/
namespace Ev
open PySem L2
noncomputable section
/-- a number that nobody works out -/
def cap (n : Int) : Int := Classical.choose (⟨n, rfl⟩ : ∃ m : Int, m = n)
theorem cap_eq (n : Int) : cap n = n := Classical.choose_spec (⟨n, rfl⟩ : ∃ m : Int, m = n)

/-! ### data -/
inductive D where
  | non | bl (b : Bool) | int (i : Int) | str (s : Str)
  | tup (xs : List D) | lst (xs : List D) | scr (xs : List D) | dic (kvs : List (D × D)) | set (xs : List D) | obj (c : Nat) (fs : List D)
instance : Inhabited D := ⟨.non⟩
mutual
def deqD : (a b : D) → Decidable (a = b)
  | .non, b => match b with
    | .non => .isTrue rfl
    | .bl _ => .isFalse (by intro h; cases h)
    | .int _ => .isFalse (by intro h; cases h)
    | .str _ => .isFalse (by intro h; cases h)
    | .tup _ => .isFalse (by intro h; cases h)
    | .lst _ => .isFalse (by intro h; cases h)
    | .scr _ => .isFalse (by intro h; cases h)
    | .dic _ => .isFalse (by intro h; cases h)
    | .set _ => .isFalse (by intro h; cases h)
    | .obj _ _ => .isFalse (by intro h; cases h)
  | .bl x1, b => match b with
    | .bl x2 => if e : x1 = x2 then .isTrue (by rw [e]) else .isFalse (by intro h; cases h; exact e rfl)
    | .non => .isFalse (by intro h; cases h)
    | .int _ => .isFalse (by intro h; cases h)
    | .str _ => .isFalse (by intro h; cases h)
    | .tup _ => .isFalse (by intro h; cases h)
    | .lst _ => .isFalse (by intro h; cases h)
    | .scr _ => .isFalse (by intro h; cases h)
    | .dic _ => .isFalse (by intro h; cases h)
    | .set _ => .isFalse (by intro h; cases h)
    | .obj _ _ => .isFalse (by intro h; cases h)
  | .int x1, b => match b with
    | .int x2 => if e : x1 = x2 then .isTrue (by rw [e]) else .isFalse (by intro h; cases h; exact e rfl)
    | .non => .isFalse (by intro h; cases h)
    | .bl _ => .isFalse (by intro h; cases h)
    | .str _ => .isFalse (by intro h; cases h)
    | .tup _ => .isFalse (by intro h; cases h)
    | .lst _ => .isFalse (by intro h; cases h)
    | .scr _ => .isFalse (by intro h; cases h)
    | .dic _ => .isFalse (by intro h; cases h)
    | .set _ => .isFalse (by intro h; cases h)
    | .obj _ _ => .isFalse (by intro h; cases h)
  | .str x1, b => match b with
    | .str x2 => if e : x1 = x2 then .isTrue (by rw [e]) else .isFalse (by intro h; cases h; exact e rfl)
    | .non => .isFalse (by intro h; cases h)
    | .bl _ => .isFalse (by intro h; cases h)
    | .int _ => .isFalse (by intro h; cases h)
    | .tup _ => .isFalse (by intro h; cases h)
    | .lst _ => .isFalse (by intro h; cases h)
    | .scr _ => .isFalse (by intro h; cases h)
    | .dic _ => .isFalse (by intro h; cases h)
    | .set _ => .isFalse (by intro h; cases h)
    | .obj _ _ => .isFalse (by intro h; cases h)
  | .tup L1, b => match b with
    | .tup L2 => match deqDs L1 L2 with
      | .isTrue e => .isTrue (by rw [e])
      | .isFalse e => .isFalse (by intro h; cases h; exact e rfl)
    | .non => .isFalse (by intro h; cases h)
    | .bl _ => .isFalse (by intro h; cases h)
    | .int _ => .isFalse (by intro h; cases h)
    | .str _ => .isFalse (by intro h; cases h)
    | .lst _ => .isFalse (by intro h; cases h)
    | .scr _ => .isFalse (by intro h; cases h)
    | .dic _ => .isFalse (by intro h; cases h)
    | .set _ => .isFalse (by intro h; cases h)
    | .obj _ _ => .isFalse (by intro h; cases h)
  | .lst L1, b => match b with
    | .lst L2 => match deqDs L1 L2 with
      | .isTrue e => .isTrue (by rw [e])
      | .isFalse e => .isFalse (by intro h; cases h; exact e rfl)
    | .non => .isFalse (by intro h; cases h)
    | .bl _ => .isFalse (by intro h; cases h)
    | .int _ => .isFalse (by intro h; cases h)
    | .str _ => .isFalse (by intro h; cases h)
    | .tup _ => .isFalse (by intro h; cases h)
    | .scr _ => .isFalse (by intro h; cases h)
    | .dic _ => .isFalse (by intro h; cases h)
    | .set _ => .isFalse (by intro h; cases h)
    | .obj _ _ => .isFalse (by intro h; cases h)
  | .scr L1, b => match b with
    | .scr L2 => match deqDs L1 L2 with
      | .isTrue e => .isTrue (by rw [e])
      | .isFalse e => .isFalse (by intro h; cases h; exact e rfl)
    | .non => .isFalse (by intro h; cases h)
    | .bl _ => .isFalse (by intro h; cases h)
    | .int _ => .isFalse (by intro h; cases h)
    | .str _ => .isFalse (by intro h; cases h)
    | .tup _ => .isFalse (by intro h; cases h)
    | .lst _ => .isFalse (by intro h; cases h)
    | .dic _ => .isFalse (by intro h; cases h)
    | .set _ => .isFalse (by intro h; cases h)
    | .obj _ _ => .isFalse (by intro h; cases h)
  | .dic K1, b => match b with
    | .dic K2 => match deqKs K1 K2 with
      | .isTrue e => .isTrue (by rw [e])
      | .isFalse e => .isFalse (by intro h; cases h; exact e rfl)
    | .non => .isFalse (by intro h; cases h)
    | .bl _ => .isFalse (by intro h; cases h)
    | .int _ => .isFalse (by intro h; cases h)
    | .str _ => .isFalse (by intro h; cases h)
    | .tup _ => .isFalse (by intro h; cases h)
    | .lst _ => .isFalse (by intro h; cases h)
    | .scr _ => .isFalse (by intro h; cases h)
    | .set _ => .isFalse (by intro h; cases h)
    | .obj _ _ => .isFalse (by intro h; cases h)
  | .set L1, b => match b with
    | .set L2 => match deqDs L1 L2 with
      | .isTrue e => .isTrue (by rw [e])
      | .isFalse e => .isFalse (by intro h; cases h; exact e rfl)
    | .non => .isFalse (by intro h; cases h)
    | .bl _ => .isFalse (by intro h; cases h)
    | .int _ => .isFalse (by intro h; cases h)
    | .str _ => .isFalse (by intro h; cases h)
    | .tup _ => .isFalse (by intro h; cases h)
    | .lst _ => .isFalse (by intro h; cases h)
    | .scr _ => .isFalse (by intro h; cases h)
    | .dic _ => .isFalse (by intro h; cases h)
    | .obj _ _ => .isFalse (by intro h; cases h)
  | .obj c1 L1, b => match b with
    | .obj c2 L2 => if e : c1 = c2 then (match deqDs L1 L2 with
      | .isTrue e2 => .isTrue (by rw [e, e2])
      | .isFalse e2 => .isFalse (by intro h; cases h; exact e2 rfl)) else .isFalse (by intro h; cases h; exact e rfl)
    | .non => .isFalse (by intro h; cases h)
    | .bl _ => .isFalse (by intro h; cases h)
    | .int _ => .isFalse (by intro h; cases h)
    | .str _ => .isFalse (by intro h; cases h)
    | .tup _ => .isFalse (by intro h; cases h)
    | .lst _ => .isFalse (by intro h; cases h)
    | .scr _ => .isFalse (by intro h; cases h)
    | .dic _ => .isFalse (by intro h; cases h)
    | .set _ => .isFalse (by intro h; cases h)
def deqDs : (a b : List D) → Decidable (a = b)
  | [], b => match b with
    | [] => isTrue rfl
    | _ :: _ => isFalse (by intro h; cases h)
  | x :: xs, b => match b with
    | [] => isFalse (by intro h; cases h)
    | y :: ys => match deqD x y with
      | .isTrue e => (match deqDs xs ys with
        | .isTrue e2 => isTrue (by rw [e, e2])
        | .isFalse e2 => isFalse (by intro h; cases h; exact e2 rfl))
      | .isFalse e => isFalse (by intro h; cases h; exact e rfl)
def deqKs : (a b : List (D × D)) → Decidable (a = b)
  | [], b => match b with
    | [] => isTrue rfl
    | _ :: _ => isFalse (by intro h; cases h)
  | (x, v) :: xs, b => match b with
    | [] => isFalse (by intro h; cases h)
    | (y, w) :: ys => match deqD x y, deqD v w with
      | .isTrue e, .isTrue e1 => (match deqKs xs ys with
        | .isTrue e2 => isTrue (by rw [e, e1, e2])
        | .isFalse e2 => isFalse (by intro h; cases h; exact e2 rfl))
      | .isFalse e, _ => isFalse (by intro h; cases h; exact e rfl)
      | _, .isFalse e => isFalse (by intro h; cases h; exact e rfl)
end
instance : DecidableEq D := deqD

/-! nothing that may be changed lies within -/
mutual
def noMut : D → Bool
  | .non | .bl _ | .int _ | .str _ | .scr _ => true
  | .tup xs => noMuts xs
  | .lst _ | .dic _ | .set _ | .obj _ _ => false
def noMuts : List D → Bool
  | [] => true
  | x :: xs => noMut x && noMuts xs
end
/-! no truth value, dict, set, object within -/
mutual
def plb : D → Bool
  | .non | .int _ | .str _ => true
  | .tup xs | .lst xs => plbs xs
  | .bl _ | .scr _ | .dic _ | .set _ | .obj _ _ => false
def plbs : List D → Bool
  | [] => true
  | x :: xs => plb x && plbs xs
end
mutual
def dep : D → Nat
  | .tup xs | .lst xs => deps xs + 1
  | _ => 0
def deps : List D → Nat
  | [] => 0
  | x :: xs => max (dep x) (deps xs)
end

/-! ### flags of values and variables -/
/-- deep: all nodes are one's own; top: the first node is, the rest is frozen; fro: frozen; bor: borrowed for a moment -/
inductive Fl where
  | deep | top | fro | bor
  deriving DecidableEq
abbrev Vl := D × Fl
/-- a name's cell: none: no value -/
abbrev Cell := Option Vl
abbrev En := List Cell
structure Xc where
  cls : Nat
  fs : List D
inductive R (α : Type) where
  | ok (a : α) (e : En)
  | ex (x : Xc) (e : En)
  | bad
def R.bind {α β : Type} (r : R α) (f : α → En → R β) : R β := match r with
  | .ok a e => f a e
  | .ex x e => .ex x e
  | .bad => .bad
def R.of {α : Type} (o : Option α) (e : En) : R α := match o with
  | some a => .ok a e
  | none => .bad
/-- a call's end: the value, the parameters that were handed in to be changed -/
inductive CR where
  | ok (v : Vl) (outs : List (Nat × Vl))
  | ex (x : Xc)
  | bad
/-- a statement's end -/
inductive RS where
  | nx (e : En) | bk (e : En) | ct (e : En)
  | rt (v : Vl) (e : En)
  | ex (x : Xc) (e : En)
  | bad
def RS.bind (r : RS) (f : En → RS) : RS := match r with
  | .nx e => f e
  | r => r
def R.toS {α : Type} (r : R α) (f : α → En → RS) : RS := match r with
  | .ok a e => f a e
  | .ex x e => .ex x e
  | .bad => .bad

/-! ### terms -/
inductive Ty where
  | bool | int | str | tuple | list | dict | non
  deriving DecidableEq
inductive Bi where
  | len | abs | int | min2 | max2 | sum | sorted | list | tuple | all | any | mins | maxs
  deriving DecidableEq
inductive Mu where
  | append | pop | clear | reverse | extend | insert
  deriving DecidableEq
mutual
inductive PX where
  | nm (i : Nat) | tk (i : Nat) | mv (i : Nat) | io (i : Nat)
  | cI (i : Int) | cB (b : Bool) | cN | cS (s : Str)
  | bin (o : Operator) (a b : PX)
  | neg (a : PX) | inv (a : PX) | not (a : PX)
  | and (a b : PX) | or (a b : PX)
  | cmp (o : CmpOp) (a b : PX)
  | chn (o o' : CmpOp) (a b c : PX)
  | ife (t a b : PX)
  | tup (es : PXs) | lst (es : PXs) | dic
  | ix (a i : PX)
  | sl (a : PX) (lo hi : PO)
  | rev (a : PX)
  | call (f : Nat) (es : PXs)
  | bi (b : Bi) (es : PXs)
  | mu (m : Mu) (o : PX) (es : PXs)
  | lc (tg : PT) (it : PI) (cs : PXs) (elt : PX) (own : List Nat)
  | isi (a : PX) (t : Ty)
  | lrng (it : PI) | trng (it : PI)
  | never
inductive PXs where
  | nil | cons (e : PX) (es : PXs)
inductive PO where
  | none | some (e : PX)
inductive PI where
  | vl (e : PX) | rg1 (a : PX) | rg2 (a b : PX) | rgd (a b : PX) | rv (e : PX) | zip (a b : PX) | enm (a : PX)
inductive PT where
  | nm (i : Nat) (keep : Bool) | tp (ts : PTs) | sub (o : PX) (ix : PX)
inductive PTs where
  | nil | cons (t : PT) (ts : PTs)
end
mutual
inductive PS where
  | asg (t : PT) (e : PX)
  | aug (i : Nat) (keep : Bool) (o : Operator) (e : PX)
  | auS (b : PX) (ix : PX) (o : Operator) (e : PX)
  | exp (e : PX)
  | ret (e : PX) | retN
  | ife (t : PX) (a b : PSs)
  | for (tg : PT) (it : PI) (body : PSs)
  | whl (t : PX) (body : PSs)
  | brk | cnt | pas | never
inductive PSs where
  | nil | cons (s : PS) (ss : PSs)
end

/-! ### values -/
def esc (x : Vl) : Option Vl := if noMut x.1 then some (x.1, .deep) else match x.2 with
  | .bor => none
  | f => some (x.1, f)
/-- the elements of a sequence at hand -/
def escs (xs : List D) (f : Fl) : Option Fl := if noMuts xs then some .deep else match f with
  | .bor => none
  | f => some f
def elFl : Fl → Fl
  | .top => .fro
  | f => f
def catFl : Fl → Fl → Fl
  | .deep, .deep => .deep
  | _, _ => .top
def tupFl : Fl → Fl → Fl
  | .deep, .deep => .deep
  | _, _ => .fro
@[irreducible] def repOk (n : Nat) (k : Int) : Bool := decide (-(cap (2 ^ 63)) ≤ k) && decide (k < cap (2 ^ 63)) && decide (n * k.toNat ≤ sizeLine)
@[irreducible] def insOk (i : Int) : Bool := decide (0 ≤ i) && decide (i < cap (2 ^ 63))
@[irreducible] def repTOk (n : Nat) (k : Int) : Bool := decide (0 < n ∧ n ≤ 1000) && decide (2 ≤ k) && decide (k ≤ 1000)
theorem repTOk_iff {n : Nat} {k : Int} : repTOk n k = true ↔ (0 < n ∧ n ≤ 1000) ∧ 2 ≤ k ∧ k ≤ 1000 := by
  unfold repTOk
  rw [Bool.and_eq_true, Bool.and_eq_true, decide_eq_true_eq, decide_eq_true_eq, decide_eq_true_eq, and_assoc]
theorem repOk_iff {n : Nat} {k : Int} : repOk n k = true ↔ -(2 ^ 63) ≤ k ∧ k < 2 ^ 63 ∧ n * k.toNat ≤ sizeLine := by
  unfold repOk
  rw [Bool.and_eq_true, Bool.and_eq_true, decide_eq_true_eq, decide_eq_true_eq, decide_eq_true_eq, and_assoc, cap_eq]
theorem insOk_iff {i : Int} : insOk i = true ↔ 0 ≤ i ∧ i < 2 ^ 63 := by
  unfold insOk
  rw [Bool.and_eq_true, decide_eq_true_eq, decide_eq_true_eq, cap_eq]
@[irreducible] def CMulD (i j : Int) : Bool := (decide (-(cap (2 ^ 64)) < i) && decide (i < cap (2 ^ 64))) || (decide (-(cap (2 ^ 64)) < j) && decide (j < cap (2 ^ 64)))
theorem CMulD_iff {i j : Int} : CMulD i j = true ↔ (-(2 ^ 64) < i ∧ i < 2 ^ 64) ∨ (-(2 ^ 64) < j ∧ j < 2 ^ 64) := by
  unfold CMulD
  rw [Bool.or_eq_true, Bool.and_eq_true, Bool.and_eq_true, decide_eq_true_eq, decide_eq_true_eq, decide_eq_true_eq, decide_eq_true_eq, cap_eq]
def binS (o : Operator) (x y : Vl) : Option Vl := match o, x, y with
  | .Add, (.int i, _), (.int j, _) => some (.int (i + j), .deep)
  | .Sub, (.int i, _), (.int j, _) => some (.int (i - j), .deep)
  | .Mult, (.int i, _), (.int j, _) => if CMulD i j then some (.int (i * j), .deep) else none
  | .FloorDiv, (.int i, _), (.int j, _) => if j ≠ 0 ∧ j.natAbs < 1073741824 then some (.int (i.fdiv j), .deep) else none
  | .Mod, (.int i, _), (.int j, _) => if j ≠ 0 then some (.int (i.fmod j), .deep) else none
  | .Pow, (.int i, _), (.int j, _) => if 0 ≤ j ∧ j ≤ 1000000 ∧ i.natAbs < 2 ^ 64 then some (.int (i ^ j.toNat), .deep) else none
  | .LShift, (.int i, _), (.int j, _) => if 0 ≤ j ∧ j ≤ 1000000 ∧ i.natAbs < 2 ^ 64 then some (.int (i * 2 ^ j.toNat), .deep) else none
  | .RShift, (.int i, _), (.int j, _) => if 0 ≤ j then some (.int (i / 2 ^ j.toNat), .deep) else none
  | .BitAnd, (.int i, _), (.int j, _) => some (.int (Builtin.bitAnd i j), .deep)
  | .BitOr, (.int i, _), (.int j, _) => some (.int (Builtin.bitOr i j), .deep)
  | .BitXor, (.int i, _), (.int j, _) => some (.int (Builtin.bitXor i j), .deep)
  | .Add, (.str i, _), (.str j, _) => if i.length + j.length ≤ sizeLine then some (.str (i ++ j), .deep) else none
  | .Add, (.lst xs, f), (.lst ys, g) => match escs xs f, escs ys g with
    | some f', some g' => if xs.length + ys.length ≤ sizeLine then some (.lst (xs ++ ys), catFl f' g') else none
    | _, _ => none
  | .Add, (.tup xs, f), (.tup ys, g) => match escs xs f, escs ys g with
    | some f', some g' => if xs.length + ys.length ≤ sizeLine then some (.tup (xs ++ ys), tupFl f' g') else none
    | _, _ => none
  | .Mult, (.lst xs, f), (.int k, _) => match escs xs f with
    | some _ => if repOk xs.length k = true then some (.lst (List.replicate k.toNat xs).flatten, if noMuts xs = true then .deep else .top) else none
    | none => none
  | .Mult, (.tup xs, _), (.int k, _) => if repTOk xs.length k = true ∧ noMuts xs = true then some (.tup (List.replicate k.toNat xs).flatten, .deep) else none
  | _, _, _ => none
/-- == where both are data without truth values, dicts, sets, objects; or two truth values -/
def eqS (a b : D) : Option Bool := match a, b with
  | .bl x, .bl y => some (x == y)
  | a, b => if plb a && plb b && decide (min (dep a) (dep b) ≤ 60) then some (decide (a = b)) else none
def anyEq (x : D) : List D → Option Bool
  | [] => some false
  | y :: ys => match eqS y x with
    | some true => some true
    | some false => anyEq x ys
    | none => none
def isKey : D → Bool
  | .int _ | .str _ => true
  | _ => false
def getK (k : D) : List (D × D) → Option D
  | [] => none
  | (x, v) :: r => if x = k then some v else getK k r
def putK (k v : D) : List (D × D) → List (D × D)
  | [] => [(k, v)]
  | (x, w) :: r => if x = k then (x, v) :: r else (x, w) :: putK k v r
def inS (x : D) (c : D) : Option Bool := match c with
  | .lst xs | .tup xs => if plb x && plbs xs && decide (dep x ≤ 60) then some (xs.any fun y => decide (y = x)) else none
  | .dic kvs => if isKey x then some (getK x kvs).isSome else none
  | .str z => match x with
    | .str c => if c.cps.size = 1 then some (decide (c.cps[0]! ∈ z.cps.toList)) else none
    | _ => none
  | _ => none
def cmpS (o : CmpOp) (a b : D) : Option Bool := match o with
  | .Eq => eqS a b
  | .NotEq => (eqS a b).map (!·)
  | .Lt => match a, b with
    | .int i, .int j => some (decide (i < j))
    | _, _ => none
  | .LtE => match a, b with
    | .int i, .int j => some (decide (i ≤ j))
    | _, _ => none
  | .Gt => match a, b with
    | .int i, .int j => some (decide (j < i))
    | _, _ => none
  | .GtE => match a, b with
    | .int i, .int j => some (decide (j ≤ i))
    | _, _ => none
  | .Is => match a, b with
    | .bl x, .bl y => some (x == y)
    | a, .non => some (decide (a = .non))
    | _, _ => none
  | .IsNot => match a, b with
    | .bl x, .bl y => some (!(x == y))
    | a, .non => some (!decide (a = .non))
    | _, _ => none
  | .In => inS a b
  | .NotIn => (inS a b).map (!·)
def truth : D → Option Bool
  | .non => some false
  | .bl b => some b
  | .int i => some (i != 0)
  | .str s => if s.length ≤ sizeLine then some ((s.length : Int) != 0) else none
  | .tup xs | .lst xs => some (!xs.isEmpty)
  | .dic kvs => some (!kvs.isEmpty)
  | _ => none
def cutD (xs : List D) (lo hi : Option Int) : List D := (xs.drop (HT.sIx xs.length 0 lo)).take (HT.sIx xs.length xs.length hi - HT.sIx xs.length 0 lo)
def slS (x : Vl) (lo hi : Option Int) : Option Vl := match x with
  | (.scr xs, _) => some (.lst (cutD xs lo hi), if noMuts xs then .deep else .top)
  | (.lst xs, f) => (escs xs f).map fun f' => (.lst (cutD xs lo hi), if f' = .deep then .deep else .top)
  | (.tup xs, f) => some (.tup (cutD xs lo hi), if f = .deep then .deep else if f = .bor then .bor else .fro)
  | _ => none
def revS (x : Vl) : Option Vl := match x with
  | (.lst xs, f) => (escs xs f).map fun f' => (.lst xs.reverse, if f' = .deep then .deep else .top)
  | (.tup xs, f) => some (.tup xs.reverse, if f = .deep then .deep else if f = .bor then .bor else .fro)
  | _ => none
def ixS (x : Vl) (i : D) : Option Vl := match x, i with
  | (.lst xs, f), .int i | (.tup xs, f), .int i => (atI xs i).map fun d => (d, elFl f)
  | (.str s, _), .int i => if s.length ≤ sizeLine then (atI s.cps.toList i).map fun c => (.str ⟨#[c]⟩, .deep) else none
  | (.dic kvs, f), k => if isKey k then (getK k kvs).map fun d => (d, elFl f) else none
  | _, _ => none
def tyS (d : D) (t : Ty) : Option Bool := match d with
  | .non => some (decide (t = .non))
  | .bl _ => some (decide (t = .bool ∨ t = .int))
  | .int _ => some (decide (t = .int))
  | .str _ => some (decide (t = .str))
  | .tup _ => some (decide (t = .tuple))
  | .lst _ => some (decide (t = .list))
  | .dic _ => some (decide (t = .dict))
  | _ => none
def intsOf : List D → Option (List Int)
  | [] => some []
  | .int i :: r => (intsOf r).map (i :: ·)
  | _ :: _ => none
def blsOf : List D → Option (List Bool)
  | [] => some []
  | .bl b :: r => (blsOf r).map (b :: ·)
  | _ :: _ => none
/-- sorted, of ints -/
def sortI (ns : List Int) : List Int := ns.mergeSort (fun a b => decide (a ≤ b))
def biS (b : Bi) (xs : List Vl) : Option Vl := match b, xs with
  | .len, [(.lst ys, _)] | .len, [(.tup ys, _)] | .len, [(.scr ys, _)] => some (.int ys.length, .deep)
  | .len, [(.str s, _)] => if s.length ≤ sizeLine then some (.int s.length, .deep) else none
  | .len, [(.dic kvs, _)] => some (.int kvs.length, .deep)
  | .abs, [(.int i, _)] => some (.int (if i < 0 then -i else i), .deep)
  | .int, [(.int i, _)] => some (.int i, .deep)
  | .min2, [(.int i, _), (.int j, _)] => some (.int (if j < i then j else i), .deep)
  | .max2, [(.int i, _), (.int j, _)] => some (.int (if j > i then j else i), .deep)
  | .sum, [(.lst ys, _)] => (intsOf ys).map fun ns => (.int ns.sum, .deep)
  | .sorted, [(.lst ys, _)] => (intsOf ys).map fun ns => (.lst ((sortI ns).map .int), .deep)
  | .list, [(.lst ys, f)] | .list, [(.tup ys, f)] => (escs ys f).map fun f' => (.lst ys, if f' = .deep then .deep else .top)
  | .tuple, [(.lst ys, f)] => (escs ys f).map fun f' => (.tup ys, if f' = .deep then .deep else .fro)
  | .tuple, [(.tup ys, f)] => some (.tup ys, f)
  | .all, [(.lst ys, _)] => (blsOf ys).map fun bs => (.bl (bs.all id), .deep)
  | .any, [(.lst ys, _)] => (blsOf ys).map fun bs => (.bl (bs.any id), .deep)
  | _, _ => none
/-- a method that changes its list: the list behind, its flag, the value -/
def muS (m : Mu) (x : Vl) (as : List Vl) : Option (Vl × Vl) := match m, x, as with
  | .append, (.lst xs, f), [a] => match esc a with
    | some (d, g) => if xs.length < sizeLine then some ((.lst (xs ++ [d]), if f = .deep ∧ (g = .deep ∨ noMut d) then .deep else .top), (.non, .deep)) else none
    | none => none
  | .pop, (.lst xs, f), [] => match xs.getLast? with
    | some d => some ((.lst xs.dropLast, f), (d, elFl f))
    | none => none
  | .pop, (.lst xs, f), [(.int i, _)] => match ixN xs.length i with
    | some k => match xs[k]? with
      | some d => some ((.lst (xs.eraseIdx k), f), (d, elFl f))
      | none => none
    | none => none
  | .clear, (.lst _, f), [] => some ((.lst [], f), (.non, .deep))
  | .reverse, (.lst xs, f), [] => some ((.lst xs.reverse, f), (.non, .deep))
  | .insert, (.lst xs, f), [(.int i, _), a] => match esc a with
    | some (d, g) => if xs.length < sizeLine ∧ insOk i = true then some ((.lst (xs.take i.toNat ++ [d] ++ xs.drop i.toNat), if f = .deep ∧ (g = .deep ∨ noMut d) then .deep else .top), (.non, .deep)) else none
    | none => none
  | .extend, (.lst xs, f), [(.lst ys, g)] => match escs ys g with
    | some g' => if xs.length + ys.length ≤ sizeLine then some ((.lst (xs ++ ys), if f = .deep ∧ g' = .deep then .deep else .top), (.non, .deep)) else none
    | none => none
  | _, _, _ => none
/-- x[i] = v, by values: what stands behind, its flag -/
def putS (x : Vl) (i : D) (a : Vl) : Option Vl := match x, i with
  | (.lst xs, f), .int i => match esc a, ixN xs.length i with
    | some (d, g), some k => some (.lst (xs.set k d), if f = .deep ∧ (g = .deep ∨ noMut d) then .deep else .top)
    | _, _ => none
  | (.dic kvs, f), k => match esc a with
    | some (d, g) => if isKey k ∧ kvs.length < sizeLine then some (.dic (putK k d kvs), if f = .deep ∧ (g = .deep ∨ noMut d) then .deep else .top) else none
    | none => none
  | _, _ => none
/-- a change at the end of a path of list places; all on the way is one's own -/
def alter {β : Type} (f : Vl → Option (Vl × β)) : List D → Vl → Option (Vl × β)
  | [], x => if x.2 = .deep ∨ x.2 = .top then f x else none
  | p :: ps, (.lst xs, .deep) => match p with
    | .int i => match ixN xs.length i with
      | some k => match xs[k]? with
        | some d => match alter f ps (d, .deep) with
          | some ((d', g), b) => some ((.lst (xs.set k d'), if g = .deep then .deep else .top), b)
          | none => none
        | none => none
      | none => none
    | _ => none
  | _ :: _, _ => none

/-! ### the evaluator -/
/-- two lists, two tuples -/
def sameSeq : D → D → Bool
  | .lst _, .lst _ => true
  | .tup _, .tup _ => true
  | _, _ => false
def isLst : D → Bool
  | .lst _ => true
  | _ => false
structure CX where
  call : Nat → List Vl → CR
  wh : (En → R Bool) → (En → RS) → En → RS
  pin : List Nat
def R.val (r : R Vl) : R Vl := r.bind fun v e => R.of (esc v) e
def R.tru (r : R Vl) : R Bool := r.bind fun v e => R.of (truth v.1) e
def cellAt (e : En) (i : Nat) : Option Vl := (e[i]?).join
/-- the flag with which a name is read -/
def rdFl : Fl → Fl
  | .fro => .fro
  | _ => .bor
/-- what is frozen stays so -/
def keepFl (f f' : Fl) : Fl := if f = .fro then .fro else f'
def bindN (i : Nat) (v : Vl) (keep : Bool) (e : En) : Option En := match esc v with
  | some (d, f) => if i < e.length then some (e.set i (some (d, if keep then keepFl v.2 f else .fro))) else none
  | none => none
/-- the parts of a tuple -/
def partFl (f : Fl) : Fl := f
mutual
/-- no change within -/
def pur : PX → Bool
  | .nm _ | .tk _ | .cI _ | .cB _ | .cN | .cS _ | .dic | .never => true
  | .mv _ | .io _ | .mu _ _ _ => false
  | .bin _ a b | .and a b | .or a b | .cmp _ a b | .ix a b => pur a && pur b
  | .neg a | .inv a | .not a | .rev a | .isi a _ => pur a
  | .chn _ _ a b c | .ife a b c => pur a && pur b && pur c
  | .tup es | .lst es | .call _ es | .bi _ es => pures es
  | .sl a lo hi => pur a && pureO lo && pureO hi
  | .lc _ it cs elt _ => pureI it && pures cs && pur elt
  | .lrng it | .trng it => pureI it
def pures : PXs → Bool
  | .nil => true
  | .cons e es => pur e && pures es
def pureO : PO → Bool
  | .none => true
  | .some e => pur e
def pureI : PI → Bool
  | .vl e | .rg1 e | .rv e | .enm e => pur e
  | .rg2 a b | .rgd a b | .zip a b => pur a && pur b
end
/-- a comprehension's own names hold nothing of one's own around it -/
def ownOk (e : En) (own : List Nat) : Bool := own.all fun i => match cellAt e i with
  | none => true
  | some (_, f) => decide (f = .fro)
def wipeE (e : En) : List Nat → En
  | [] => e
  | i :: is => (wipeE e is).set i none
/-- the own names as they were -/
def backE (e e0 : En) : List Nat → En
  | [] => e
  | i :: is => (backE e e0 is).set i ((e0[i]?).join)
/-- a list comprehension's turns -/
def lcGo (bind : D → En → Option En) (cond : En → R Bool) (elt : En → R Vl) (own : List Nat) : List D → List D → Fl → En → R Vl
  | [], acc, f, e => if ownOk e own then .ok (.lst acc, f) e else .bad
  | d :: ds, acc, f, e => if ownOk e own then match bind d (wipeE e own) with
    | none => .bad
    | some e1 => (cond e1).bind fun b e2 =>
      if b = true then (elt e2).bind fun v e3 => match esc v with
        | some (y, g) => if acc.length < sizeLine then lcGo bind cond elt own ds (acc ++ [y]) (catFl f g) e3 else .bad
        | none => .bad
      else lcGo bind cond elt own ds acc f e2
    else .bad
def forGo (bind : D → En → Option En) (body : En → RS) : List D → En → RS
  | [], e => .nx e
  | d :: ds, e => match bind d e with
    | none => .bad
    | some e1 => match body e1 with
      | .nx e2 | .ct e2 => forGo bind body ds e2
      | .bk e2 => .nx e2
      | r => r
def rangeL (lo : Int) (n : Nat) : List D := (List.range n).map fun (i : Nat) => D.int (lo + i)
@[irreducible] def rgOk (i : Int) : Bool := decide (-(cap (2 ^ 62)) ≤ i) && decide (i < cap (2 ^ 62))
theorem rgOk_iff {i : Int} : rgOk i = true ↔ -(2 ^ 62) ≤ i ∧ i < 2 ^ 62 := by
  unfold rgOk
  rw [Bool.and_eq_true, decide_eq_true_eq, decide_eq_true_eq, cap_eq]
/-- what is walked: the items; all of them frozen from here on; a borrowed list only where nothing is changed meanwhile -/
def itemsS (x : Vl) (still : Bool) : Option (List D) := match x with
  | (.lst xs, .bor) => if still && noMuts xs then some xs else none
  | (.tup xs, .bor) => if noMuts xs then some xs else none
  | (.lst xs, _) | (.tup xs, _) => some xs
  | _ => none
def zipD : List D → List D → List D
  | x :: xs, y :: ys => .tup [x, y] :: zipD xs ys
  | _, _ => []
mutual
/-- a name, or a tuple of names -/
def asgN (pin : List Nat) : PT → Vl → En → Option En
  | .nm i keep, v, e => if pin.contains i then none else bindN i v keep e
  | .tp ts, (.tup xs, f), e => match escs xs f with
    | some f' => asgNs pin ts xs (keepFl f (elFl f')) e
    | none => none
  | _, _, _ => none
def asgNs (pin : List Nat) : PTs → List D → Fl → En → Option En
  | .nil, [], _, e => some e
  | .cons t ts, x :: xs, f, e => match asgN pin t (x, f) e with
    | some e1 => asgNs pin ts xs f e1
    | none => none
  | _, _, _, _ => none
end
/-- a loop's target: what is walked is frozen -/
def bindT (t : PT) (d : D) (e : En) : Option En := asgN [] t (d, .fro) e
/-- borrowed for a call: frozen meanwhile -/
def unb : Vl → Vl
  | (d, .bor) => (d, .fro)
  | x => x
mutual
def ptSlots : PT → List Nat
  | .nm i _ => [i]
  | .tp ts => ptsSlots ts
  | .sub _ _ => []
def ptsSlots : PTs → List Nat
  | .nil => []
  | .cons t ts => ptSlots t ++ ptsSlots ts
end
def PXs.isNil : PXs → Bool
  | .nil => true
  | _ => false
/-- no part of it stands elsewhere -/
def free : Vl → Bool
  | (_, .deep) => true
  | (.lst xs, .top) => noMuts xs
  | (d, _) => noMut d
/-- what was handed in to be changed, back in its cells -/
def ioSet (outs : List (Nat × Vl)) : Nat → PXs → En → En
  | _, .nil, e => e
  | k, .cons a es, e => match a with
    | .io i => ioSet outs (k + 1) es (e.set i (outs.lookup k))
    | _ => ioSet outs (k + 1) es e
section
variable (cx : CX)
mutual
def evE : PX → En → R Vl
  | .nm i, e => match cellAt e i with
    | some (d, f) => .ok (d, rdFl f) e
    | none => .bad
  | .tk i, e => match cellAt e i with
    | some (d, _) => .ok (d, .fro) (e.set i (some (d, .fro)))
    | none => .bad
  | .mv i, e => match cellAt e i with
    | some (d, f) => .ok (d, f) (e.set i none)
    | none => .bad
  | .io _, _ => .bad
  | .cI i, e => .ok (.int i, .deep) e
  | .cB b, e => .ok (.bl b, .deep) e
  | .cN, e => .ok (.non, .deep) e
  | .cS s, e => .ok (.str s, .deep) e
  | .bin o a b, e => (evE a e).bind fun x e1 => if x.2 = .bor && !pur b then .bad else (evE b e1).bind fun y e2 => R.of (binS o x y) e2
  | .neg a, e => (evE a e).bind fun x e1 => match x.1 with
    | .int i => .ok (.int (-i), .deep) e1
    | _ => .bad
  | .inv a, e => (evE a e).bind fun x e1 => match x.1 with
    | .int i => .ok (.int (Builtin.bitNot i), .deep) e1
    | _ => .bad
  | .not a, e => (evE a e).tru.bind fun b e1 => .ok (.bl (!b), .deep) e1
  | .and a b, e => (evE a e).bind fun x e1 => (R.of (truth x.1) e1).bind fun t e1 => if t = true then evE b e1 else .ok x e1
  | .or a b, e => (evE a e).bind fun x e1 => (R.of (truth x.1) e1).bind fun t e1 => if t = true then .ok x e1 else evE b e1
  | .cmp o a b, e => (evE a e).bind fun x e1 => if x.2 = .bor && !pur b then .bad else (evE b e1).bind fun y e2 => (R.of (cmpS o x.1 y.1) e2).bind fun t e2 => .ok (.bl t, .deep) e2
  | .chn o o' a b c, e => (evE a e).bind fun x e1 => if x.2 = .bor && !pur b then .bad else (evE b e1).bind fun y e2 => (R.of (cmpS o x.1 y.1) e2).bind fun t e2 =>
      if t = true then (if y.2 = .bor && !pur c then .bad else (evE c e2).bind fun z e3 => (R.of (cmpS o' y.1 z.1) e3).bind fun u e3 => .ok (.bl u, .deep) e3) else .ok (.bl false, .deep) e2
  | .ife t a b, e => (evE t e).tru.bind fun c e1 => if c = true then evE a e1 else evE b e1
  | .tup es, e => (evL es e).bind fun vs e1 => if vs.length ≤ sizeLine then .ok (.tup (vs.map (·.1)), if vs.all (·.2 = .deep) then .deep else if vs.all (·.2 ≠ .bor) then .fro else .bor) e1 else .bad
  | .lst es, e => (evL es e).bind fun vs e1 => match vs.mapM esc with
    | some ws => if vs.length ≤ sizeLine then .ok (.lst (vs.map (·.1)), if ws.all (·.2 = .deep) then .deep else .top) e1 else .bad
    | none => .bad
  | .dic, e => .ok (.dic [], .deep) e
  | .ix a i, e => (evE a e).bind fun x e1 => if x.2 = .bor && !pur i then .bad else (evE i e1).bind fun y e2 => R.of (ixS x y.1) e2
  | .sl a lo hi, e => (evE a e).bind fun x e1 => if x.2 = .bor && !(pureO lo && pureO hi) then .bad else (evO lo e1).bind fun l e2 => (evO hi e2).bind fun h e3 => R.of (slS x l h) e3
  | .rev a, e => (evE a e).bind fun x e1 => R.of (revS x) e1
  | .call f es, e => (evA es e).bind fun as e1 => match cx.call f (as.map unb) with
    | .ok v outs => if as.all (fun a => a.2 ≠ .bor) || free v && outs.all (fun o => free o.2) then
        .ok v (ioSet outs 0 es e1) else .bad
    | .ex x => .ex x e1
    | .bad => .bad
  | .bi b es, e => (evL es e).bind fun vs e1 => R.of (biS b vs) e1
  | .mu m o es, e => (evP o e).bind fun ip e1 => if isLst ip.2.2 && (ip.2.1.isEmpty || pures es) then (evL es e1).bind fun as e2 => match cellAt e2 ip.1 with
    | some x => match alter (fun y => muS m y as) ip.2.1 x with
      | some (x', v) => .ok v (e2.set ip.1 (some x'))
      | none => .bad
    | none => .bad
    else .bad
  | .lc tg it cs elt own, e => (evI it (pur elt && pures cs) e).bind fun ds e1 => if ownOk e1 own && (ptSlots tg).all own.contains then
      (lcGo (bindT tg) (evC cs) (evE elt) own ds [] .deep e1).bind fun v e2 => .ok v (backE e2 e1 own) else .bad
  | .isi a t, e => (evE a e).bind fun x e1 => (R.of (tyS x.1 t) e1).bind fun b e1 => .ok (.bl b, .deep) e1
  | .lrng it, e => (evI it false e).bind fun ds e1 => if ds.length ≤ sizeLine then .ok (.lst ds, .deep) e1 else .bad
  | .trng it, e => (evI it false e).bind fun ds e1 => if ds.length ≤ sizeLine then .ok (.tup ds, .deep) e1 else .bad
  | .never, _ => .bad
/-- a place: a name, and the places on the way; what stands there -/
def evP : PX → En → R (Nat × List D × D)
  | .nm i, e => match cellAt e i with
    | some x => .ok (i, [], x.1) e
    | none => .bad
  | .ix a p, e => (evP a e).bind fun q e1 => if pur p then (evE p e1).bind fun y e2 => match q.2.2, y.1 with
      | .lst xs, .int k => match atI xs k with
        | some d => .ok (q.1, q.2.1 ++ [.int k], d) e2
        | none => .bad
      | _, _ => .bad
    else .bad
  | _, _ => .bad
/-- arguments, displays, from the left; a borrowed one wants that nothing is changed behind it -/
def evL : PXs → En → R (List Vl)
  | .nil, e => .ok [] e
  | .cons a es, e => (evE a e).bind fun x e1 => if x.2 = .bor && !pures es then .bad else (evL es e1).bind fun xs e2 => .ok (x :: xs) e2
/-- the arguments of a call of a def: those handed in to be changed are taken out of their cells -/
def evA : PXs → En → R (List Vl)
  | .nil, e => .ok [] e
  | .cons a es, e => match a with
    | .io i => match cellAt e i with
      | some (d, f) => if f = .deep ∨ f = .top then (evA es (e.set i none)).bind fun xs e2 => .ok ((d, f) :: xs) e2 else .bad
      | none => .bad
    | a => (evE a e).bind fun x e1 => if x.2 = .bor && !pures es then .bad else (evA es e1).bind fun xs e2 => .ok ((x.1, if x.2 = .bor then .bor else x.2) :: xs) e2
/-- a clause's tests: none or one -/
def evC : PXs → En → R Bool
  | .nil, e => .ok true e
  | .cons a .nil, e => (evE a e).tru
  | _, _ => .bad
def evO : PO → En → R (Option Int)
  | .none, e => .ok none e
  | .some a, e => (evE a e).bind fun x e1 => match x.1 with
    | .int i => .ok (some i) e1
    | _ => .bad
def evI : PI → Bool → En → R (List D)
  | .vl a, still, e => (evE a e).bind fun x e1 => R.of (itemsS x still) e1
  | .rg1 a, _, e => (evE a e).bind fun x e1 => match x.1 with
    | .int j => if rgOk j then .ok (rangeL 0 j.toNat) e1 else .bad
    | _ => .bad
  | .rg2 a b, _, e => (evE a e).bind fun x e1 => (evE b e1).bind fun y e2 => match x.1, y.1 with
    | .int i, .int j => if rgOk i && rgOk j then .ok (rangeL i (j - i).toNat) e2 else .bad
    | _, _ => .bad
  | .rgd _ _, _, _ => .bad
  | .rv a, still, e => (evE a e).bind fun x e1 => (R.of (itemsS x still) e1).bind fun ds e2 => .ok ds.reverse e2
  | .zip a b, still, e => (evE a e).bind fun x e1 => if x.2 = .bor && !pur b then .bad else (evE b e1).bind fun y e2 => if sameSeq x.1 y.1 then (R.of (itemsS x still) e2).bind fun ds e2 => (R.of (itemsS y still) e2).bind fun ds' e2 => .ok (zipD ds ds') e2 else .bad
  | .enm a, still, e => (evE a e).bind fun x e1 => if isLst x.1 then (R.of (itemsS x still) e1).bind fun ds e2 => .ok (zipD (rangeL 0 ds.length) ds) e2 else .bad
end
/-! statements -/
/-- x[..][i] = v: v is at hand -/
def subE (cx : CX) (o : PX) (ix : PX) (v : Vl) (e : En) : RS :=
  (evP cx o e).toS fun ip e1 => if pur ix then (evE cx ix e1).toS fun k e2 => match cellAt e2 ip.1 with
    | some x => match alter (fun y => (putS y k.1 v).map fun z => (z, (D.non, Fl.deep))) ip.2.1 x with
      | some (x', _) => .nx (e2.set ip.1 (some x'))
      | none => .bad
    | none => .bad
  else .bad
def scal : D → Bool
  | .int _ | .str _ => true
  | _ => false
def augOk : Operator → Bool
  | .Add | .Sub | .Mult | .BitAnd | .BitOr | .BitXor => true
  | _ => false
def augS (o : Operator) (x y : Vl) : Option Vl := match x, y with
  | (.int _, _), (.int _, _) => if augOk o then binS o x y else none
  | (.str _, _), (.str _, _) => binS o x y
  | _, _ => none
mutual
def evS : PS → En → RS
  | .asg t a, e => match t with
    | .sub o ix => (evE cx a e).toS fun v e1 => match esc v with
      | some v' => subE cx o ix v' e1
      | none => .bad
    | t => (evE cx a e).toS fun v e1 => match asgN cx.pin t v e1 with
      | some e2 => .nx e2
      | none => .bad
  | .aug i keep o a, e => if cx.pin.contains i then .bad else match cellAt e i with
    | some x => if pur a then (evE cx a e).toS fun y e1 => match augS o x y with
        | some z => match bindN i z keep e1 with
          | some e2 => .nx e2
          | none => .bad
        | none => .bad
      else .bad
    | none => .bad
  | .auS b ix o a, e => (evP cx b e).toS fun ip e1 => if pur ix && pur a then
      (evE cx ix e1).toS fun k e2 => match ixS (ip.2.2, .bor) k.1 with
      | some old => if scal old.1 then (evE cx a e2).toS fun y e3 => match augS o old y, cellAt e3 ip.1 with
        | some w, some x => match alter (fun z => (putS z k.1 w).map fun r => (r, (D.non, Fl.deep))) ip.2.1 x with
          | some (x', _) => .nx (e3.set ip.1 (some x'))
          | none => .bad
        | _, _ => .bad
        else .bad
      | none => .bad
    else .bad
  | .exp a, e => (evE cx a e).toS fun _ e1 => .nx e1
  | .ret a, e => (evE cx a e).toS fun v e1 => match esc v with
    | some v' => .rt v' e1
    | none => .bad
  | .retN, e => .rt (.non, .deep) e
  | .ife t a b, e => (evE cx t e).tru.toS fun c e1 => if c = true then evSs a e1 else evSs b e1
  | .for tg it body, e => if (ptSlots tg).all fun i => !cx.pin.contains i then (evI cx it false e).toS fun ds e1 => forGo (bindT tg) (evSs body) ds e1 else .bad
  | .whl t body, e => cx.wh (fun e => (evE cx t e).tru) (evSs body) e
  | .brk, e => .bk e
  | .cnt, e => .ct e
  | .pas, e => .nx e
  | .never, _ => .bad
def evSs : PSs → En → RS
  | .nil, e => .nx e
  | .cons s ss, e => (evS s e).bind fun e1 => evSs ss e1
end
end
/-! ### while: by its turns -/
def whN (c : En → R Bool) (b : En → RS) : Nat → En → Option RS
  | 0, _ => none
  | n + 1, e => match c e with
    | .ok false e1 => some (.nx e1)
    | .ok true e1 => match b e1 with
      | .nx e2 | .ct e2 => whN c b n e2
      | .bk e2 => some (.nx e2)
      | r => some r
    | .ex x e1 => some (.ex x e1)
    | .bad => some .bad
open Classical in
def whR (c : En → R Bool) (b : En → RS) (e : En) : RS := if h : ∃ n, (whN c b n e).isSome then (whN c b h.choose e).getD .bad else .bad
def whF (n : Nat) (c : En → R Bool) (b : En → RS) (e : En) : RS := (whN c b n e).getD .bad
theorem whN_mono (c : En → R Bool) (b : En → RS) : ∀ (n m : Nat) (e : En) (r : RS), whN c b n e = some r → n ≤ m → whN c b m e = some r
  | 0, _, _, _, h, _ => by cases h
  | n + 1, 0, _, _, _, h => by omega
  | n + 1, m + 1, e, r, h, hm => by
    unfold whN at h ⊢
    cases hc : c e with
    | ok t e1 =>
      rw [hc] at h
      cases t with
      | false => exact h
      | true =>
        cases hb : b e1 with
        | nx e2 => simp only [hb] at h ⊢; exact whN_mono c b n m e2 r h (by omega)
        | ct e2 => simp only [hb] at h ⊢; exact whN_mono c b n m e2 r h (by omega)
        | bk e2 => simp only [hb] at h ⊢; exact h
        | rt v e2 => simp only [hb] at h ⊢; exact h
        | ex x e2 => simp only [hb] at h ⊢; exact h
        | bad => simp only [hb] at h ⊢; exact h
    | ex x e1 => rw [hc] at h; exact h
    | bad => rw [hc] at h; exact h
theorem whR_of {c : En → R Bool} {b : En → RS} {n : Nat} {e : En} {r : RS} (h : whN c b n e = some r) : whR c b e = r := by
  have hx : ∃ n, (whN c b n e).isSome := ⟨n, by rw [h]; rfl⟩
  unfold whR
  rw [dif_pos hx]
  have hs := hx.choose_spec
  cases hq : whN c b hx.choose e with
  | none => rw [hq] at hs; cases hs
  | some r' =>
    have h1 := whN_mono c b _ (max n hx.choose) e r h (Nat.le_max_left _ _)
    have h2 := whN_mono c b _ (max n hx.choose) e r' hq (Nat.le_max_right _ _)
    rw [h1] at h2
    cases h2
    rfl
theorem whR_bad {c : En → R Bool} {b : En → RS} {e : En} (h : ∀ n, whN c b n e = none) : whR c b e = .bad := by
  unfold whR
  rw [dif_neg]
  rintro ⟨n, q⟩
  rw [h] at q
  cases q
/-- what is not bad comes from so many turns -/
theorem whR_turns {c : En → R Bool} {b : En → RS} {e : En} (h : whR c b e ≠ .bad) : ∃ n, whN c b n e = some (whR c b e) := by
  by_cases hx : ∃ n r, whN c b n e = some r
  · obtain ⟨n, r, q⟩ := hx
    exact ⟨n, by rw [whR_of q]; exact q⟩
  · exact absurd (whR_bad fun n => by
      cases q : whN c b n e with
      | none => rfl
      | some r => exact absurd ⟨n, r, q⟩ hx) h
/-- THE EQUATION of a while -/
theorem whR_eq (c : En → R Bool) (b : En → RS) (e : En) : whR c b e = match c e with
    | .ok false e1 => .nx e1
    | .ok true e1 => match b e1 with
      | .nx e2 | .ct e2 => whR c b e2
      | .bk e2 => .nx e2
      | r => r
    | .ex x e1 => .ex x e1
    | .bad => .bad := by
  cases hc : c e with
  | ok t e1 =>
    cases t with
    | false => exact whR_of (n := 1) (by unfold whN; rw [hc])
    | true =>
      have go : ∀ e2, (b e1 = .nx e2 ∨ b e1 = .ct e2) → whR c b e = whR c b e2 := fun e2 hb => by
        by_cases hx : ∃ n r, whN c b n e2 = some r
        · obtain ⟨n, r, q⟩ := hx
          rw [whR_of q]
          refine whR_of (n := n + 1) ?_
          unfold whN
          rw [hc]
          rcases hb with hb | hb <;> simp only [hb] <;> exact q
        · have h2 : ∀ n, whN c b n e2 = none := fun n => by
            cases q : whN c b n e2 with
            | none => rfl
            | some r => exact absurd ⟨n, r, q⟩ hx
          rw [whR_bad h2]
          refine whR_bad fun n => ?_
          cases n with
          | zero => rfl
          | succ n =>
            unfold whN
            rw [hc]
            rcases hb with hb | hb <;> simp only [hb] <;> exact h2 n
      cases hb : b e1 with
      | nx e2 => simp only [hb]; exact go e2 (.inl hb)
      | ct e2 => simp only [hb]; exact go e2 (.inr hb)
      | bk e2 => simp only [hb]; exact whR_of (n := 1) (by unfold whN; rw [hc]; simp only [hb])
      | rt v e2 => simp only [hb]; exact whR_of (n := 1) (by unfold whN; rw [hc]; simp only [hb])
      | ex x e2 => simp only [hb]; exact whR_of (n := 1) (by unfold whN; rw [hc]; simp only [hb])
      | bad => simp only [hb]; exact whR_of (n := 1) (by unfold whN; rw [hc]; simp only [hb])
  | ex x e1 => exact whR_of (n := 1) (by unfold whN; rw [hc])
  | bad => exact whR_of (n := 1) (by unfold whN; rw [hc])

/-! ### defs -/
structure Fn where
  ps : Nat
  nl : Nat
  io : List Nat
  body : PSs
/-- what a parameter holds at the end that was to be changed, where it is still one's own -/
def outsOf (e : En) : List Nat → List (Nat × Vl)
  | [] => []
  | i :: is => match cellAt e i with
    | some (d, .deep) => (i, (d, .deep)) :: outsOf e is
    | some (d, .top) => (i, (d, .top)) :: outsOf e is
    | _ => outsOf e is
/-- the parameters' cells at the start: one's own where the def changes it -/
def startAs (io : List Nat) : Nat → List Vl → En
  | _, [] => []
  | k, (d, f) :: as => some (d, if io.contains k ∧ (f = .deep ∨ f = .top) then f else .fro) :: startAs io (k + 1) as
def startE (io : List Nat) (as : List Vl) (nl : Nat) : En := startAs io 0 as ++ List.replicate (nl - as.length) none
def endF (fn : Fn) : RS → CR
  | .rt v e => .ok v (outsOf e fn.io)
  | .nx e => .ok (.non, .deep) (outsOf e fn.io)
  | .ex x _ => .ex x
  | _ => .bad
def callF (wh : (En → R Bool) → (En → RS) → En → RS) (fs : Nat → Option Fn) : Nat → Nat → List Vl → CR
  | 0, _, _ => .bad
  | n + 1, f, as => match fs f with
    | none => .bad
    | some fn => if as.length = fn.ps then endF fn (evSs { call := callF wh fs n, wh := wh, pin := fn.io } fn.body (startE fn.io as fn.nl)) else .bad
abbrev callN (fs : Nat → Option Fn) : Nat → Nat → List Vl → CR := callF whR fs
end
end Ev

/-! Ev2: how data lie in the abstract heap: what is one's own, what is frozen. -/
namespace Ev
open PySem L2

/-! ### data in the abstract heap; fp: the nodes that may be changed -/
def kD : Key → D
  | .inl i => .int i
  | .inr s => .str s
/-- a list that never changes -/
def FzL (K : PySem.W.Frag) (H : Hp) (a : Addr) (xs : List V) : Prop := (∃ o, H a = some (.frz o (.lst xs))) ∨
    ∃ (o : Obj) (its : Array Value) (n : Nat), K.lookup a = some o ∧ o.cls = .type "list" ∧ o.dict = none ∧ o.data = .seq its n ∧ its.size ≤ sizeLine ∧ Vals xs its.toList
theorem FzL.sq {K : PySem.W.Frag} {H : Hp} {a : Addr} {xs : List V} (h : FzL K H a xs) : SqL K H a xs := h.elim (fun ⟨o, e⟩ => .inl (.inr ⟨o, e⟩)) .inr
mutual
inductive Rep (K : PySem.W.Frag) (H : Hp) : V → D → List Addr → Prop
  | non : Rep K H .non .non []
  | bl (b : Bool) : Rep K H (.bl b) (.bl b) []
  | int (i : Int) : Rep K H (.int i) (.int i) []
  | str (s : Str) : Rep K H (.str s) (.str s) []
  | tup {a : Addr} {xs : List V} {ds : List D} {fp : List Addr} : SqT K H a xs → Reps K H xs ds fp → Rep K H (.ref a) (.tup ds) fp
  | lst {a : Addr} {xs : List V} {ds : List D} {fp : List Addr} : H a = some (.lst xs) → Reps K H xs ds fp → Rep K H (.ref a) (.lst ds) (a :: fp)
  | scr {a : Addr} {xs : List V} {ds : List D} : FzL K H a xs → Reps K H xs ds [] → Rep K H (.ref a) (.scr ds) []
  | dic {a : Addr} {kvs : List (Key × V)} {ds : List (D × D)} {fp : List Addr} : H a = some (.dK kvs) → RepK K H kvs ds fp → Rep K H (.ref a) (.dic ds) (a :: fp)
inductive Reps (K : PySem.W.Frag) (H : Hp) : List V → List D → List Addr → Prop
  | nil : Reps K H [] [] []
  | cons {v : V} {vs : List V} {d : D} {ds : List D} {f g : List Addr} : Rep K H v d f → Reps K H vs ds g → Reps K H (v :: vs) (d :: ds) (f ++ g)
inductive RepK (K : PySem.W.Frag) (H : Hp) : List (Key × V) → List (D × D) → List Addr → Prop
  | nil : RepK K H [] [] []
  | cons {k : Key} {v : V} {kvs : List (Key × V)} {d : D} {ds : List (D × D)} {f g : List Addr} : Rep K H v d f → RepK K H kvs ds g → RepK K H ((k, v) :: kvs) ((kD k, d) :: ds) (f ++ g)
end
section
variable {K : PySem.W.Frag} {H H' : Hp} {v : V} {vs : List V} {d : D} {ds : List D} {fp : List Addr} {a : Addr} {xs : List V}

theorem sqT_keepI (h : SqT K H a xs) (im : ∀ b o, H b = some o → ¬ Mut (some o) → H' b = some o) : SqT K H' a xs := by
  rcases h with (h | ⟨o, h⟩) | h
  · exact .inl (.inl (im _ _ h fun z => z))
  · exact .inl (.inr ⟨o, im _ _ h fun z => z⟩)
  · exact .inr h
theorem fzL_keepI (h : FzL K H a xs) (im : ∀ b o, H b = some o → ¬ Mut (some o) → H' b = some o) : FzL K H' a xs := by
  rcases h with ⟨o, h⟩ | h
  · exact .inl ⟨o, im _ _ h fun z => z⟩
  · exact .inr h
mutual
theorem Rep.keep (im : ∀ b o, H b = some o → ¬ Mut (some o) → H' b = some o) : ∀ {v : V} {d : D} {fp : List Addr}, Rep K H v d fp → (∀ b ∈ fp, H' b = H b) → Rep K H' v d fp
  | _, _, _, .non, _ => .non
  | _, _, _, .bl b, _ => .bl b
  | _, _, _, .int i, _ => .int i
  | _, _, _, .str s, _ => .str s
  | _, _, _, .tup h r, k => .tup (sqT_keepI h im) (Reps.keep im r k)
  | _, _, _, .lst h r, k => .lst ((k _ List.mem_cons_self).trans h) (Reps.keep im r fun b hb => k b (List.mem_cons_of_mem _ hb))
  | _, _, _, .scr h r, k => .scr (fzL_keepI h im) (Reps.keep im r k)
  | _, _, _, .dic h r, k => .dic ((k _ List.mem_cons_self).trans h) (RepK.keep im r fun b hb => k b (List.mem_cons_of_mem _ hb))
theorem Reps.keep (im : ∀ b o, H b = some o → ¬ Mut (some o) → H' b = some o) : ∀ {vs : List V} {ds : List D} {fp : List Addr}, Reps K H vs ds fp → (∀ b ∈ fp, H' b = H b) → Reps K H' vs ds fp
  | _, _, _, .nil, _ => .nil
  | _, _, _, .cons h r, k => .cons (Rep.keep im h fun b hb => k b (List.mem_append_left _ hb)) (Reps.keep im r fun b hb => k b (List.mem_append_right _ hb))
theorem RepK.keep (im : ∀ b o, H b = some o → ¬ Mut (some o) → H' b = some o) : ∀ {vs : List (Key × V)} {ds : List (D × D)} {fp : List Addr}, RepK K H vs ds fp → (∀ b ∈ fp, H' b = H b) → RepK K H' vs ds fp
  | _, _, _, .nil, _ => .nil
  | _, _, _, .cons h r, k => .cons (Rep.keep im h fun b hb => k b (List.mem_append_left _ hb)) (RepK.keep im r fun b hb => k b (List.mem_append_right _ hb))
end
mutual
/-- the nodes that may be changed are tracked so -/
theorem Rep.mut : ∀ {v : V} {d : D} {fp : List Addr}, Rep K H v d fp → ∀ b ∈ fp, Mut (H b)
  | _, _, _, .non, _, h => nomatch h
  | _, _, _, .bl b, _, h => nomatch h
  | _, _, _, .int i, _, h => nomatch h
  | _, _, _, .str s, _, h => nomatch h
  | _, _, _, .tup _ r, b, h => Reps.mut r b h
  | _, _, _, .lst e r, b, h => by
    rcases List.mem_cons.mp h with rfl | h
    · rw [e]; trivial
    · exact Reps.mut r b h
  | _, _, _, .scr _ r, b, h => nomatch h
  | _, _, _, .dic e r, b, h => by
    rcases List.mem_cons.mp h with rfl | h
    · rw [e]; trivial
    · exact RepK.mut r b h
theorem Reps.mut : ∀ {vs : List V} {ds : List D} {fp : List Addr}, Reps K H vs ds fp → ∀ b ∈ fp, Mut (H b)
  | _, _, _, .nil, _, h => nomatch h
  | _, _, _, .cons x r, b, h => (List.mem_append.mp h).elim (Rep.mut x b) (Reps.mut r b)
theorem RepK.mut : ∀ {vs : List (Key × V)} {ds : List (D × D)} {fp : List Addr}, RepK K H vs ds fp → ∀ b ∈ fp, Mut (H b)
  | _, _, _, .nil, _, h => nomatch h
  | _, _, _, .cons x r, b, h => (List.mem_append.mp h).elim (Rep.mut x b) (RepK.mut r b)
end
mutual
theorem Rep.noMut : ∀ {v : V} {d : D} {fp : List Addr}, Rep K H v d fp → Ev.noMut d = true → fp = []
  | _, _, _, .non, _ => rfl
  | _, _, _, .bl b, _ => rfl
  | _, _, _, .int i, _ => rfl
  | _, _, _, .str s, _ => rfl
  | _, _, _, .tup _ r, h => Reps.noMut r h
  | _, _, _, .lst e r, h => nomatch h
  | _, _, _, .scr e r, _ => rfl
  | _, _, _, .dic e r, h => nomatch h
theorem Reps.noMut : ∀ {vs : List V} {ds : List D} {fp : List Addr}, Reps K H vs ds fp → noMuts ds = true → fp = []
  | _, _, _, .nil, _ => rfl
  | _, _, _, .cons (d := d) (ds := ds) x r, h => by
    have h' : Ev.noMut d = true ∧ noMuts ds = true := by simpa [noMuts] using h
    rw [Rep.noMut x h'.1, Reps.noMut r h'.2]; rfl
end
theorem Reps.length : ∀ {vs : List V} {ds : List D} {fp : List Addr}, Reps K H vs ds fp → vs.length = ds.length
  | _, _, _, .nil => rfl
  | _, _, _, .cons _ r => congrArg (· + 1) r.length
theorem RepK.length : ∀ {vs : List (Key × V)} {ds : List (D × D)} {fp : List Addr}, RepK K H vs ds fp → vs.length = ds.length
  | _, _, _, .nil => rfl
  | _, _, _, .cons _ r => congrArg (· + 1) r.length
theorem Reps.append : ∀ {vs ws : List V} {ds es : List D} {f g : List Addr}, Reps K H vs ds f → Reps K H ws es g → Reps K H (vs ++ ws) (ds ++ es) (f ++ g)
  | _, _, _, _, _, _, .nil, s => s
  | _, _, _, _, _, _, .cons x r, s => by rw [List.append_assoc]; exact .cons x (r.append s)
/-- the item there -/
theorem Reps.get : ∀ {vs : List V} {ds : List D} {fp : List Addr} {k : Nat} {d : D}, Reps K H vs ds fp → ds[k]? = some d → ∃ v f, vs[k]? = some v ∧ Rep K H v d f ∧ (∃ l r, fp = l ++ f ++ r)
  | _, _, _, k, _, .nil, h => by simp at h
  | _, _, _, 0, _, .cons (f := f) (g := g) x r, h => by
    have e : _ = _ := Option.some.inj h
    subst e
    exact ⟨_, f, rfl, x, [], g, by simp⟩
  | _, _, _, k + 1, d, .cons (f := f) (g := g) x r, h => by
    obtain ⟨v, f', e, p, l, q, e2⟩ := r.get (k := k) (d := d) h
    exact ⟨v, f', e, p, f ++ l, q, by rw [e2]; simp [List.append_assoc]⟩
theorem Reps.sub (h : Reps K H vs ds fp) {k : Nat} {d : D} (e : ds[k]? = some d) : ∃ v f, vs[k]? = some v ∧ Rep K H v d f ∧ (∀ b ∈ f, b ∈ fp) ∧ f.Sublist fp := by
  obtain ⟨v, f, e1, r, l, q, rfl⟩ := h.get e
  refine ⟨v, f, e1, r, fun b hb => by simp [hb], ?_⟩
  rw [List.append_assoc]
  exact (List.sublist_append_left f q).trans (List.sublist_append_right l _)
/-- some items, in their order -/
theorem Reps.drop : ∀ (n : Nat) {vs : List V} {ds : List D} {fp : List Addr}, Reps K H vs ds fp → ∃ g, Reps K H (vs.drop n) (ds.drop n) g ∧ g.Sublist fp
  | 0, _, _, fp, h => ⟨fp, h, List.Sublist.refl _⟩
  | n + 1, _, _, _, .nil => ⟨[], .nil, List.Sublist.refl _⟩
  | n + 1, _, _, _, .cons (f := f) (g := g) x r => by
    obtain ⟨g', h, s⟩ := r.drop n
    exact ⟨g', h, s.trans (List.sublist_append_right f g)⟩
theorem Reps.take : ∀ (n : Nat) {vs : List V} {ds : List D} {fp : List Addr}, Reps K H vs ds fp → ∃ g, Reps K H (vs.take n) (ds.take n) g ∧ g.Sublist fp
  | 0, _, _, fp, h => ⟨[], .nil, List.nil_sublist _⟩
  | n + 1, _, _, _, .nil => ⟨[], .nil, List.Sublist.refl _⟩
  | n + 1, _, _, _, .cons (f := f) (g := g) x r => by
    obtain ⟨g', h, s⟩ := r.take n
    exact ⟨f ++ g', .cons x h, s.append_left f⟩
theorem Reps.reverse : ∀ {vs : List V} {ds : List D} {fp : List Addr}, Reps K H vs ds fp → ∃ g, Reps K H vs.reverse ds.reverse g ∧ g.Perm fp
  | _, _, _, .nil => ⟨[], .nil, .nil⟩
  | _, _, _, .cons (f := f) (g := g) x r => by
    obtain ⟨g', h, p⟩ := r.reverse
    refine ⟨g' ++ f, ?_, (List.perm_append_comm).trans (p.append_left f)⟩
    rw [List.reverse_cons, List.reverse_cons]
    have := h.append (Reps.cons x .nil)
    simpa using this
theorem Reps.eraseIdx : ∀ (n : Nat) {vs : List V} {ds : List D} {fp : List Addr}, Reps K H vs ds fp → ∃ g, Reps K H (vs.eraseIdx n) (ds.eraseIdx n) g ∧ g.Sublist fp
  | _, _, _, _, .nil => ⟨[], .nil, List.Sublist.refl _⟩
  | 0, _, _, _, .cons (f := f) (g := g) x r => ⟨g, r, List.sublist_append_right f g⟩
  | n + 1, _, _, _, .cons (f := f) (g := g) x r => by
    obtain ⟨g', h, s⟩ := r.eraseIdx n
    exact ⟨f ++ g', .cons x h, s.append_left f⟩
/-- an item erased and the item: apart -/
theorem Reps.erase_get : ∀ {n : Nat} {vs : List V} {ds : List D} {fp : List Addr} {d : D}, Reps K H vs ds fp → ds[n]? = some d → ∃ v f g, vs[n]? = some v ∧ Rep K H v d f ∧ Reps K H (vs.eraseIdx n) (ds.eraseIdx n) g ∧ (f ++ g).Perm fp
  | _, _, _, _, _, .nil, h => by simp at h
  | 0, _, _, _, _, .cons (f := f) (g := g) x r, h => by
    have e : _ = _ := Option.some.inj h
    subst e
    exact ⟨_, f, g, rfl, x, r, .refl _⟩
  | n + 1, _, _, _, _, .cons (f := f) (g := g) x r, h => by
    obtain ⟨v, f', g', e, p, q, s⟩ := r.erase_get (n := n) h
    refine ⟨v, f', f ++ g', e, p, .cons x q, ?_⟩
    have h1 : (f' ++ (f ++ g')).Perm (f ++ (f' ++ g')) := by
      rw [← List.append_assoc, ← List.append_assoc]
      exact (List.perm_append_comm).append_right g'
    exact h1.trans (s.append_left f)
/-- an item exchanged -/
theorem Reps.set : ∀ {n : Nat} {vs : List V} {ds : List D} {fp : List Addr} {d d' : D} {v' : V} {f' : List Addr}, Reps K H vs ds fp → ds[n]? = some d → Rep K H v' d' f' →
    ∃ f g1 g2, fp = g1 ++ f ++ g2 ∧ Reps K H (vs.set n v') (ds.set n d') (g1 ++ f' ++ g2)
  | _, _, _, _, _, _, _, _, .nil, h, _ => by simp at h
  | 0, _, _, _, _, _, _, f', .cons (f := f) (g := g) x r, h, p => ⟨f, [], g, by simp, by simpa using Reps.cons p r⟩
  | n + 1, _, _, _, _, _, _, f', .cons (f := f) (g := g) x r, h, p => by
    obtain ⟨f1, g1, g2, e, q⟩ := r.set (n := n) h p
    refine ⟨f1, f ++ g1, g2, by rw [e]; simp [List.append_assoc], ?_⟩
    have := Reps.cons x q
    simpa [List.append_assoc] using this
theorem Reps.ints : ∀ (ns : List Int), Reps K H (ns.map V.int) (ns.map D.int) []
  | [] => .nil
  | n :: ns => .cons (f := []) (.int n) (Reps.ints ns)
/-- a list is to be read -/
theorem Rep.list (h : Rep K H v (.lst ds) fp) : ∃ a xs g, v = .ref a ∧ H a = some (.lst xs) ∧ Reps K H xs ds g ∧ fp = a :: g := by
  cases h with
  | lst h r => exact ⟨_, _, _, rfl, h, r, rfl⟩
theorem Rep.script (h : Rep K H v (.scr ds) fp) : ∃ a xs, v = .ref a ∧ SqL K H a xs ∧ Reps K H xs ds [] ∧ fp = [] := by
  cases h with
  | scr h r => exact ⟨_, _, rfl, h.sq, r, rfl⟩
theorem Rep.tuple (h : Rep K H v (.tup ds) fp) : ∃ a xs, v = .ref a ∧ SqT K H a xs ∧ Reps K H xs ds fp := by
  cases h with
  | tup h r => exact ⟨_, _, rfl, h, r⟩
theorem Rep.dict {kvs : List (D × D)} (h : Rep K H v (.dic kvs) fp) : ∃ a ks g, v = .ref a ∧ H a = some (.dK ks) ∧ RepK K H ks kvs g ∧ fp = a :: g := by
  cases h with
  | dic h r => exact ⟨_, _, _, rfl, h, r, rfl⟩
theorem Rep.int_v {i : Int} (h : Rep K H v (.int i) fp) : v = .int i ∧ fp = [] := by cases h; exact ⟨rfl, rfl⟩
theorem Rep.str_v {i : Str} (h : Rep K H v (.str i) fp) : v = .str i ∧ fp = [] := by cases h; exact ⟨rfl, rfl⟩
theorem Rep.bl_v {i : Bool} (h : Rep K H v (.bl i) fp) : v = .bl i ∧ fp = [] := by cases h; exact ⟨rfl, rfl⟩
theorem Rep.non_v (h : Rep K H v .non fp) : v = .non ∧ fp = [] := by cases h; exact ⟨rfl, rfl⟩
end

/-! ### frozen, one's own -/
abbrev AP' := Addr → Prop
structure Sep (F O : AP') (H : Hp) : Prop where
  f : ∀ a, F a → Mut (H a)
  o : ∀ a, O a → Mut (H a)
  d : ∀ a, F a → ¬ O a
/-- a value with its flag; own: the nodes that are its own -/
def Val (K : PySem.W.Frag) (F O : AP') (H : Hp) (v : V) (x : Vl) (own : List Addr) : Prop := match x.2 with
  | .deep => Rep K H v x.1 own ∧ own.Nodup
  | .top => ∃ a fp, v = .ref a ∧ Rep K H v x.1 (a :: fp) ∧ (∀ b ∈ fp, F b) ∧ own = [a]
  | .fro => ∃ fp, Rep K H v x.1 fp ∧ (∀ b ∈ fp, F b) ∧ own = []
  | .bor => ∃ fp, Rep K H v x.1 fp ∧ (∀ b ∈ fp, F b ∨ O b) ∧ own = []
structure Rel (K : PySem.W.Frag) (F O : AP') (H : Hp) (σ : St) (e : En) : Prop where
  sep : Sep F O H
  len : σ.length = e.length
  cells : ∃ ow : Nat → List Addr, (∀ i x, cellAt e i = some x → x.2 ≠ .bor ∧ ∃ v, σ[i]? = some (some v) ∧ Val K F O H v x (ow i)) ∧
    (∀ i, cellAt e i = none → ow i = []) ∧ (∀ i, (ow i).Nodup) ∧ (∀ i j a, a ∈ ow i → a ∈ ow j → i = j) ∧ (∀ a, O a ↔ ∃ i, a ∈ ow i)
/-- what a piece of code may do; T: the nodes of the values at hand that it may use up -/
structure Step (F O : AP') (T : List Addr) (H : Hp) (F' O' : AP') (H' : Hp) : Prop where
  keep : ∀ b o, H b = some o → ¬ O b → b ∉ T → H' b = some o
  fin : ∀ b, F b → F' b
  fout : ∀ b, F' b → F b ∨ O b ∨ b ∈ T ∨ H b = none
  oout : ∀ b, O' b → O b ∨ b ∈ T ∨ H b = none
/-- nothing is changed -/
structure Still (F O : AP') (H : Hp) (F' O' : AP') (H' : Hp) : Prop where
  same : ∀ b o, H b = some o → H' b = some o
  stay : ∀ b, F b ∨ O b → F' b ∨ O' b
section
variable {K : PySem.W.Frag} {F O F1 O1 F2 O2 : AP'} {T T1 T2 : List Addr} {H H1 H2 : Hp} {v : V} {x : Vl} {own : List Addr} {σ : St} {e : En}
theorem Step.refl : Step F O T H F O H := ⟨fun _ _ h _ _ => h, fun _ h => h, fun _ h => .inl h, fun _ h => .inl h⟩
theorem Still.refl : Still F O H F O H := ⟨fun _ _ h => h, fun _ h => h⟩
theorem Still.trans (a : Still F O H F1 O1 H1) (b : Still F1 O1 H1 F2 O2 H2) : Still F O H F2 O2 H2 := ⟨fun c o h => b.same c o (a.same c o h), fun c h => b.stay c (a.stay c h)⟩
/-- where a free address was -/
theorem Step.back (a : Step F O T H F1 O1 H1) {b : Addr} (h : H1 b = none) : O b ∨ b ∈ T ∨ H b = none := by
  cases q : H b with
  | none => exact .inr (.inr rfl)
  | some o =>
    by_cases ho : O b
    · exact .inl ho
    · by_cases ht : b ∈ T
      · exact .inr (.inl ht)
      · rw [a.keep b o q ho ht] at h; cases h
/-- nodes that came up on the way -/
abbrev From (F O : AP') (T : List Addr) (H : Hp) (own : List Addr) : Prop := ∀ c ∈ own, O c ∨ c ∈ T ∨ H c = none
theorem Step.from (a : Step F O T H F1 O1 H1) (ht : From F O T H T1) (h : From F1 O1 T1 H1 own) : From F O T H own := fun c hc => by
  rcases h c hc with z | z | z
  · exact a.oout c z
  · exact ht c z
  · exact a.back z
theorem Step.trans (a : Step F O T H F1 O1 H1) (b : Step F1 O1 T1 H1 F2 O2 H2) (ht : From F O T H T1) : Step F O T H F2 O2 H2 where
  keep := fun c o h n m => b.keep c o (a.keep c o h n m) (fun z => by
    rcases a.oout c z with z | z | z
    · exact n z
    · exact m z
    · rw [h] at z; cases z) fun z => by
    rcases ht c z with z | z | z
    · exact n z
    · exact m z
    · rw [h] at z; cases z
  fin := fun c h => b.fin c (a.fin c h)
  fout := fun c h => by
    rcases b.fout c h with z | z | z | z
    · exact a.fout c z
    · exact .inr (a.oout c z)
    · exact .inr (ht c z)
    · exact .inr (a.back z)
  oout := fun c h => by
    rcases b.oout c h with z | z | z
    · exact a.oout c z
    · exact ht c z
    · exact a.back z
theorem Step.more (a : Step F O T H F1 O1 H1) (h : ∀ c ∈ T, c ∈ T1) : Step F O T1 H F1 O1 H1 :=
  ⟨fun b o e n m => a.keep b o e n fun z => m (h b z), a.fin, fun b q => (a.fout b q).imp id fun q => q.imp id fun q => q.imp (h b) id, fun b q => (a.oout b q).imp id fun q => q.imp (h b) id⟩

/-! ### values stay -/
theorem mut_some {o : HO} {a : Addr} (e : H a = some o) (h : Mut (H a)) : Mut (some o) := by rw [← e]; exact h
/-- what is neither one's own nor used up stays as it lies -/
theorem Rep.step {d : D} {fp : List Addr} (h : Rep K H v d fp) (s : Sep F O H) (a : Step F O T H F1 O1 H1) (hT : ∀ c ∈ T, Mut (H c)) (k : ∀ b ∈ fp, ¬ O b ∧ b ∉ T) : Rep K H1 v d fp :=
  h.keep (fun b o e m => a.keep b o e (fun z => m (mut_some e (s.o b z))) fun z => m (mut_some e (hT b z))) fun b hb => by
    cases e : H b with
    | none =>
      have := h.mut b hb
      rw [e] at this; exact this.elim
    | some o => exact a.keep b o e (k b hb).1 (k b hb).2
theorem Reps.step {vs : List V} {ds : List D} {fp : List Addr} (h : Reps K H vs ds fp) (s : Sep F O H) (a : Step F O T H F1 O1 H1) (hT : ∀ c ∈ T, Mut (H c)) (k : ∀ b ∈ fp, ¬ O b ∧ b ∉ T) : Reps K H1 vs ds fp :=
  h.keep (fun b o e m => a.keep b o e (fun z => m (mut_some e (s.o b z))) fun z => m (mut_some e (hT b z))) fun b hb => by
    cases e : H b with
    | none =>
      have := h.mut b hb
      rw [e] at this; exact this.elim
    | some o => exact a.keep b o e (k b hb).1 (k b hb).2
theorem Rep.still {d : D} {fp : List Addr} (h : Rep K H v d fp) (a : Still F O H F1 O1 H1) : Rep K H1 v d fp :=
  h.keep (fun b o e _ => a.same b o e) fun b hb => by
    cases e : H b with
    | none =>
      have := h.mut b hb
      rw [e] at this; exact this.elim
    | some o => exact a.same b o e
theorem Val.nodup (h : Val K F O H v x own) : own.Nodup := by
  unfold Val at h
  split at h
  · exact h.2
  · obtain ⟨a, fp, _, _, _, rfl⟩ := h; simp
  · obtain ⟨fp, _, _, rfl⟩ := h; exact List.nodup_nil
  · obtain ⟨fp, _, _, rfl⟩ := h; exact List.nodup_nil
theorem Val.mut (h : Val K F O H v x own) : ∀ b ∈ own, Mut (H b) := by
  unfold Val at h
  split at h
  · exact h.1.mut
  · obtain ⟨a, fp, _, r, _, rfl⟩ := h; exact fun b hb => r.mut b (List.mem_cons.mpr (.inl (List.mem_singleton.mp hb)))
  · obtain ⟨fp, _, _, rfl⟩ := h; exact fun b hb => nomatch hb
  · obtain ⟨fp, _, _, rfl⟩ := h; exact fun b hb => nomatch hb
/-- every value is some data -/
theorem Val.rep (h : Val K F O H v x own) : ∃ fp, Rep K H v x.1 fp ∧ (∀ b ∈ fp, F b ∨ O b ∨ b ∈ own) := by
  unfold Val at h
  split at h
  · exact ⟨own, h.1, fun b hb => .inr (.inr hb)⟩
  · obtain ⟨a, fp, _, r, f, rfl⟩ := h
    exact ⟨_, r, fun b hb => (List.mem_cons.mp hb).elim (fun e => .inr (.inr (by rw [e]; exact List.mem_cons_self))) fun q => .inl (f b q)⟩
  · obtain ⟨fp, r, f, _⟩ := h; exact ⟨fp, r, fun b hb => .inl (f b hb)⟩
  · obtain ⟨fp, r, f, _⟩ := h; exact ⟨fp, r, fun b hb => (f b hb).imp id .inl⟩
/-- a value at hand stays, while other code runs that has no hand on it -/
theorem Val.step (h : Val K F O H v x own) (s : Sep F O H) (a : Step F O T H F1 O1 H1) (hT : ∀ c ∈ T, Mut (H c) ∧ ¬ F c) (ho : ∀ b ∈ own, ¬ F b ∧ ¬ O b ∧ b ∉ T) (hb : x.2 = .bor → Still F O H F1 O1 H1) : Val K F1 O1 H1 v x own := by
  obtain ⟨d, f⟩ := x
  have hF : ∀ b, F b → ¬ O b ∧ b ∉ T := fun b q => ⟨s.d b q, fun z => (hT b z).2 q⟩
  have hm : ∀ c ∈ T, Mut (H c) := fun c hc => (hT c hc).1
  cases f with
  | deep => exact ⟨h.1.step s a hm fun b hb => (ho b hb).2, h.2⟩
  | top =>
    obtain ⟨c, fp, rfl, r, f, rfl⟩ := h
    refine ⟨c, fp, rfl, r.step s a hm fun b hb => ?_, fun b hb => a.fin b (f b hb), rfl⟩
    rcases List.mem_cons.mp hb with rfl | hb
    · exact (ho _ List.mem_cons_self).2
    · exact hF b (f b hb)
  | fro =>
    obtain ⟨fp, r, f, rfl⟩ := h
    exact ⟨fp, r.step s a hm fun b hb => hF b (f b hb), fun b hb => a.fin b (f b hb), rfl⟩
  | bor =>
    obtain ⟨fp, r, f, rfl⟩ := h
    exact ⟨fp, r.still (hb rfl), fun b hb' => (hb rfl).stay b (f b hb'), rfl⟩
/-- values at hand: their nodes are not frozen, in no cell, and apart from one another -/
structure Apart (F O : AP') (own : List Addr) : Prop where
  nf : ∀ b ∈ own, ¬ F b
  no : ∀ b ∈ own, ¬ O b
theorem Apart.nil : Apart F O [] := ⟨(fun _ h => nomatch h), (fun _ h => nomatch h)⟩
theorem Apart.app {o1 o2 : List Addr} (a : Apart F O o1) (b : Apart F O o2) : Apart F O (o1 ++ o2) := ⟨fun c h => (List.mem_append.mp h).elim (a.nf c) (b.nf c), fun c h => (List.mem_append.mp h).elim (a.no c) (b.no c)⟩
/-- temps stay apart while other code runs -/
theorem Apart.step (h : Apart F O own) (a : Step F O T H F1 O1 H1) (hm : ∀ b ∈ own, Mut (H b)) (hT : ∀ b ∈ own, b ∉ T) : Apart F1 O1 own := by
  refine ⟨fun b hb z => ?_, fun b hb z => ?_⟩
  · rcases a.fout b z with z | z | z | z
    · exact h.nf b hb z
    · exact h.no b hb z
    · exact hT b hb z
    · have := hm b hb; rw [z] at this; exact this
  · rcases a.oout b z with z | z | z
    · exact h.no b hb z
    · exact hT b hb z
    · have := hm b hb; rw [z] at this; exact this
end
end Ev

/-! Ev3: readings by the evaluator; what stays; small expressions. -/
namespace Ev
open PySem L2

def OutR {α : Type} (r : R α) (P : α → En → Prop) : Prop := match r with
  | .ok a e => P a e
  | _ => False
theorem outR_bind {α β : Type} {r : R α} {f : α → En → R β} {P : β → En → Prop} (h : OutR (r.bind f) P) : OutR r fun a e => OutR (f a e) P := by
  cases r with
  | ok a e => exact h
  | ex x e => exact h
  | bad => exact h
theorem outR_of {α : Type} {o : Option α} {e : En} {P : α → En → Prop} (h : OutR (R.of o e) P) : ∃ a, o = some a ∧ P a e := by
  cases o with
  | none => exact h.elim
  | some a => exact ⟨a, rfl, h⟩
theorem OutR.imp {α : Type} {r : R α} {P Q : α → En → Prop} (h : OutR r P) (hi : ∀ a e, P a e → Q a e) : OutR r Q := by
  cases r with
  | ok a e => exact hi a e h
  | ex x e => exact h
  | bad => exact h

/-- values at hand -/
structure Tmp where
  v : V
  x : Vl
  own : List Addr
abbrev tOwn (ts : List Tmp) : List Addr := ts.flatMap (·.own)
structure Temps (K : PySem.W.Frag) (F O : AP') (H : Hp) (ts : List Tmp) : Prop where
  val : ∀ t ∈ ts, Val K F O H t.v t.x t.own
  nd : (tOwn ts).Nodup
  ap : Apart F O (tOwn ts)
abbrev NoBor (ts : List Tmp) : Prop := ∀ t ∈ ts, t.x.2 ≠ .bor

/-- how a value came: F O H ahead, T the nodes that might be used up; pu: nothing was changed -/
structure Come (K : PySem.W.Frag) (F O : AP') (T : List Addr) (H : Hp) (σ : St) (pu : Bool) (x : Vl) (e' : En) (v : V) (F' O' : AP') (H' : Hp) (own : List Addr) : Prop where
  step : Step F O T H F' O' H'
  still : pu = true → Still F O H F' O' H'
  rel : Rel K F' O' H' σ e'
  val : Val K F' O' H' v x own
  ap : Apart F' O' own
  fr : From F O T H own
def OutE (K : PySem.W.Frag) (F O : AP') (T : List Addr) (H : Hp) (σ : St) (pu : Bool) (r : R Vl) (Q : VK) : Prop :=
  OutR r fun x e' => ∀ v F' O' H' own, Come K F O T H σ pu x e' v F' O' H' own → Q v H'
/-- THE READING of an expression: by the evaluator -/
def tE (K : PySem.W.Frag) (cx : CX) (p : PX) : TE := fun σ H Q => ∃ F O e, Rel K F O H σ e ∧ OutE K F O [] H σ (pur p) (evE cx p e) Q
/-- .. of a test -/
def tT (K : PySem.W.Frag) (cx : CX) (p : PX) : TT := fun σ H Q => ∃ F O e, Rel K F O H σ e ∧
  OutR (evE cx p e).tru fun b e' => ∀ F' O' H', Step F O [] H F' O' H' → (pur p = true → Still F O H F' O' H') → Rel K F' O' H' σ e' → Q b H'

section
variable {K : PySem.W.Frag} {F O F1 O1 F2 O2 : AP'} {T T1 T2 : List Addr} {H H1 H2 : Hp} {v : V} {x : Vl} {own : List Addr} {σ : St} {e e1 : En} {ts : List Tmp} {cx : CX} {p : PX}

theorem Temps.nil : Temps K F O H [] := ⟨(fun _ h => nomatch h), List.nodup_nil, .nil⟩
theorem mem_tOwn {b : Addr} : b ∈ tOwn ts ↔ ∃ t ∈ ts, b ∈ t.own := List.mem_flatMap
theorem Temps.mut (h : Temps K F O H ts) : ∀ b ∈ tOwn ts, Mut (H b) := fun b hb => by
  obtain ⟨t, ht, hb⟩ := mem_tOwn.mp hb
  exact (h.val t ht).mut b hb
/-- values at hand stay while code runs that has no hand on them -/
theorem Temps.step (h : Temps K F O H ts) (s : Sep F O H) (a : Step F O [] H F1 O1 H1) (hb : NoBor ts ∨ Still F O H F1 O1 H1) : Temps K F1 O1 H1 ts where
  val := fun t ht => (h.val t ht).step s a (fun c hc => nomatch hc) (fun b hb => ⟨h.ap.nf b (mem_tOwn.mpr ⟨t, ht, hb⟩), h.ap.no b (mem_tOwn.mpr ⟨t, ht, hb⟩), fun z => nomatch z⟩) fun z => hb.elim (fun n => absurd z (n t ht)) id
  nd := h.nd
  ap := h.ap.step a h.mut fun b _ z => nomatch z
theorem Temps.cons (h : Temps K F O H ts) (hv : Val K F O H v x own) (ha : Apart F O own) (hd : ∀ b ∈ tOwn ts, b ∉ own) : Temps K F O H (ts ++ [⟨v, x, own⟩]) where
  val := fun t ht => (List.mem_append.mp ht).elim (h.val t) fun q => by
    have : t = ⟨v, x, own⟩ := List.mem_singleton.mp q
    subst this
    exact hv
  nd := by
    have e : tOwn (ts ++ [⟨v, x, own⟩]) = tOwn ts ++ own := by simp [tOwn]
    rw [e, List.nodup_append]
    exact ⟨h.nd, hv.nodup, fun a ha b hb z => hd a ha (z ▸ hb)⟩
  ap := by
    have e : tOwn (ts ++ [⟨v, x, own⟩]) = tOwn ts ++ own := by simp [tOwn]
    rw [e]
    exact h.ap.app ha
theorem Temps.one (hv : Val K F O H v x own) (ha : Apart F O own) : Temps K F O H [⟨v, x, own⟩] := by
  have := (Temps.nil (K := K) (F := F) (O := O) (H := H)).cons hv ha (fun b hb => nomatch hb)
  exact this

/-- a value comes while others are at hand -/
structure Came (K : PySem.W.Frag) (F O : AP') (H : Hp) (σ : St) (pu : Bool) (ts : List Tmp) (x : Vl) (e1 : En) (v : V) (F1 O1 : AP') (H1 : Hp) (own : List Addr) : Prop where
  step : Step F O [] H F1 O1 H1
  still : pu = true → Still F O H F1 O1 H1
  rel : Rel K F1 O1 H1 σ e1
  tm : Temps K F1 O1 H1 (ts ++ [⟨v, x, own⟩])
  fr : From F O [] H own
theorem tE_of {N : Vl → En → Prop} (r : Rel K F O H σ e) (tm : Temps K F O H ts) (hb : NoBor ts ∨ pur p = true) (h : OutR (evE cx p e) N) :
    tE K cx p σ H fun v H1 => ∃ F1 O1 x e1 own, N x e1 ∧ Came K F O H σ (pur p) ts x e1 v F1 O1 H1 own :=
  ⟨F, O, e, r, h.imp fun x e1 hN v F1 O1 H1 own c => ⟨F1, O1, x, e1, own, hN, c.step, c.still, c.rel,
    (tm.step r.sep c.step (hb.imp id fun z => c.still z)).cons c.val c.ap (fun b hb' hz => by
      rcases c.fr b hz with q | q | q
      · exact tm.ap.no b hb' q
      · exact nomatch q
      · have := tm.mut b hb'; rw [q] at this; exact this), c.fr⟩⟩

/-! ### the cells stay -/
theorem Rel.grow (r : Rel K F O H σ e) (same : ∀ b o, H b = some o → H1 b = some o) (fin : ∀ a, F a → F1 a) (ok : ∀ a, F1 a → Mut (H1 a) ∧ ¬ O a) : Rel K F1 O H1 σ e := by
  obtain ⟨sep, len, ow, h1, h2, h3, h4, h5⟩ := r
  refine ⟨⟨fun a q => (ok a q).1, fun a q => ?_, fun a q => (ok a q).2⟩, len, ow, fun i x hx => ?_, h2, h3, h4, h5⟩
  · have m := sep.o a q
    cases e : H a with
    | none => rw [e] at m; exact m.elim
    | some o => rw [same a o e, ← e]; exact m
  · obtain ⟨nb, v, hv, va⟩ := h1 i x hx
    refine ⟨nb, v, hv, ?_⟩
    have rs : ∀ {v : V} {d : D} {fp : List Addr}, Rep K H v d fp → Rep K H1 v d fp := fun h => h.still (F := F) (O := O) (F1 := fun a => F a ∨ O a) (O1 := O) ⟨same, fun b q => .inl q⟩
    obtain ⟨d, f⟩ := x
    cases f with
    | deep => exact ⟨rs va.1, va.2⟩
    | top =>
      obtain ⟨a, fp, hv', rp, hf, ho⟩ := va
      exact ⟨a, fp, hv', rs rp, fun b hb => fin b (hf b hb), ho⟩
    | fro =>
      obtain ⟨fp, rp, hf, ho⟩ := va
      exact ⟨fp, rs rp, fun b hb => fin b (hf b hb), ho⟩
    | bor => exact absurd rfl nb
theorem Rel.alloc (r : Rel K F O H σ e) {q : Addr} {o : HO} (hq : H q = none) : Rel K F O (upd H q o) σ e := by
  have same : ∀ b u, H b = some u → upd H q o b = some u := fun b u e => by rw [upd_ne (ne_of_none e hq)]; exact e
  refine r.grow same (fun _ h => h) fun a h => ⟨?_, r.sep.d a h⟩
  have m := r.sep.f a h
  cases e : H a with
  | none => rw [e] at m; exact m.elim
  | some o => rw [same a o e, ← e]; exact m
theorem still_alloc {q : Addr} {o : HO} (hq : H q = none) : Still F O H F O (upd H q o) := ⟨fun b u e => by rw [upd_ne (ne_of_none e hq)]; exact e, fun _ h => h⟩
theorem step_alloc {q : Addr} {o : HO} (hq : H q = none) : Step F O T H F O (upd H q o) := ⟨fun b u e _ _ => by rw [upd_ne (ne_of_none e hq)]; exact e, fun _ h => h, fun _ h => .inl h, fun _ h => .inl h⟩

/-! ### ends of an evaluation -/
/-- a value without nodes; nothing has changed -/
theorem Come.atom {pu : Bool} {d : D} (r : Rel K F O H σ e) (h : Rep K H v d []) : Come K F O T H σ pu (d, .deep) e v F O H [] :=
  ⟨.refl, fun _ => .refl, r, ⟨h, List.nodup_nil⟩, .nil, fun _ h => nomatch h⟩
/-- going on from a later state -/
theorem Come.after {pu pu1 : Bool} {v : V} {F' O' : AP'} {H' : Hp} (st : Step F O T H F1 O1 H1) (sl : pu = true → Still F O H F1 O1 H1) (ht : From F O T H T1) (c : Come K F1 O1 T1 H1 σ pu1 x e v F' O' H' own) (hp : pu = true → pu1 = true) :
    Come K F O T H σ pu x e v F' O' H' own :=
  ⟨st.trans c.step ht, fun z => (sl z).trans (c.still (hp z)), c.rel, c.val, c.ap, st.from ht c.fr⟩
theorem OutE.after {pu pu1 : Bool} {r : R Vl} {Q : VK} (h : OutE K F O T H σ pu r Q) (st : Step F O T H F1 O1 H1) (sl : pu = true → Still F O H F1 O1 H1) (ht : From F O T H T1) (hp : pu = true → pu1 = true) : OutE K F1 O1 T1 H1 σ pu1 r Q :=
  h.imp fun x e1 q v F' O' H' own c => q v F' O' H' own (c.after st sl ht hp)
/-- freezing what is at hand -/
def addF (F : AP') (T : List Addr) : AP' := fun a => F a ∨ a ∈ T
theorem Rel.freeze (r : Rel K F O H σ e) (ha : Apart F O T) (hm : ∀ b ∈ T, Mut (H b)) : Rel K (addF F T) O H σ e :=
  r.grow (fun _ _ h => h) (fun _ h => .inl h) fun a h => h.elim (fun q => ⟨r.sep.f a q, r.sep.d a q⟩) fun q => ⟨hm a q, ha.no a q⟩
theorem step_freeze (h : ∀ b ∈ T1, b ∈ T) : Step F O T H (addF F T1) O H := ⟨fun _ _ e _ _ => e, fun _ h => .inl h, fun b q => q.imp id fun z => .inr (.inl (h b z)), fun _ h => .inl h⟩
end
end Ev

/-! Ev4: the operations by values. -/
namespace Ev
open PySem PySem.Spec PyProof.Rows L2
section
variable {K : PySem.W.Frag} {F O F1 O1 F2 O2 : AP'} {T T1 T2 : List Addr} {H H1 H2 : Hp} {v : V} {x : Vl} {own : List Addr} {σ : L2.St} {e e1 : En} {ts : List Tmp} {cx : CX} {p : PX}

/-! ### new containers -/
theorem sep_upd {q : Addr} {o : HO} (s : Sep F O H) (hq : H q = none) : Sep F O (upd H q o) := by
  refine ⟨fun a h => ?_, fun a h => ?_, s.d⟩
  · have m := s.f a h
    rw [upd_ne (show a ≠ q by rintro rfl; rw [hq] at m; exact m)]
    exact m
  · have m := s.o a h
    rw [upd_ne (show a ≠ q by rintro rfl; rw [hq] at m; exact m)]
    exact m
theorem rep_upd {d : D} {fp : List Addr} {q : Addr} {o : HO} (h : Rep K H v d fp) (hq : H q = none) : Rep K (upd H q o) v d fp := h.still (F := fun _ => False) (O := fun _ => False) (F1 := fun _ => False) (O1 := fun _ => False) (still_alloc hq)
theorem reps_upd {vs : List V} {ds : List D} {fp : List Addr} {q : Addr} {o : HO} (h : Reps K H vs ds fp) (hq : H q = none) : Reps K (upd H q o) vs ds fp :=
  h.keep (fun b u e _ => by rw [upd_ne (ne_of_none e hq)]; exact e) fun b hb => by
    have m := h.mut b hb
    exact upd_ne (by rintro rfl; rw [hq] at m; exact m)
theorem not_new {q : Addr} {fp : List Addr} (hq : H q = none) (h : ∀ b ∈ fp, Mut (H b)) : q ∉ fp := fun hb => by
  have m := h q hb
  rw [hq] at m; exact m
theorem new_deep {pu : Bool} {q : Addr} {xs : List V} {ds : List D} {fp : List Addr} (r : Rel K F O H σ e) (hq : H q = none) (h : Reps K H xs ds fp) (nd : fp.Nodup) (hT : ∀ b ∈ fp, b ∈ T) (ap : Apart F O T) :
    Come K F O T H σ pu (.lst ds, .deep) e (.ref q) F O (upd H q (.lst xs)) (q :: fp) where
  step := step_alloc hq
  still := fun _ => still_alloc hq
  rel := r.alloc hq
  val := ⟨.lst upd_same (reps_upd h hq), List.nodup_cons.mpr ⟨not_new hq h.mut, nd⟩⟩
  ap := by
    refine ⟨fun b hb z => ?_, fun b hb z => ?_⟩
    · rcases List.mem_cons.mp hb with rfl | hb
      · have m := r.sep.f _ z; rw [hq] at m; exact m
      · exact ap.nf b (hT b hb) z
    · rcases List.mem_cons.mp hb with rfl | hb
      · have m := r.sep.o _ z; rw [hq] at m; exact m
      · exact ap.no b (hT b hb) z
  fr := fun b hb => (List.mem_cons.mp hb).elim (fun e => .inr (.inr (by rw [e]; exact hq))) fun q => .inr (.inl (hT b q))
theorem addF_step (hq : ∀ b o, H b = some o → H1 b = some o) : Step F O T H (addF F T) O H1 := ⟨fun b o e _ _ => hq b o e, fun _ h => .inl h, fun b q => q.imp id fun z => .inr (.inl z), fun _ h => .inl h⟩
theorem addF_still (hq : ∀ b o, H b = some o → H1 b = some o) : Still F O H (addF F T) O H1 := ⟨hq, fun b h => h.imp .inl id⟩
theorem mut_same (hq : ∀ b o, H b = some o → H1 b = some o) {b : Addr} (m : Mut (H b)) : Mut (H1 b) := by
  cases e : H b with
  | none => rw [e] at m; exact m.elim
  | some o => rw [hq b o e, ← e]; exact m
theorem addF_rel (r : Rel K F O H σ e) (hq : ∀ b o, H b = some o → H1 b = some o) (ap : Apart F O T) (hm : ∀ b ∈ T, Mut (H b)) : Rel K (addF F T) O H1 σ e :=
  r.grow hq (fun _ h => .inl h) fun a h => h.elim (fun q => ⟨mut_same hq (r.sep.f a q), r.sep.d a q⟩) fun q => ⟨mut_same hq (hm a q), ap.no a q⟩
theorem upd_more {q : Addr} {o : HO} (hq : H q = none) : ∀ b u, H b = some u → upd H q o b = some u := fun b u e => by rw [upd_ne (ne_of_none e hq)]; exact e
theorem new_top {pu : Bool} {q : Addr} {xs : List V} {ds : List D} {fp : List Addr} (r : Rel K F O H σ e) (hq : H q = none) (h : Reps K H xs ds fp) (hT : ∀ b ∈ fp, F b ∨ b ∈ T) (ap : Apart F O T) (hm : ∀ b ∈ T, Mut (H b)) :
    Come K F O T H σ pu (.lst ds, .top) e (.ref q) (addF F T) O (upd H q (.lst xs)) [q] where
  step := addF_step (upd_more hq)
  still := fun _ => addF_still (upd_more hq)
  rel := addF_rel r (upd_more hq) ap hm
  val := ⟨q, fp, rfl, .lst upd_same (reps_upd h hq), hT, rfl⟩
  ap := by
    refine ⟨fun b hb z => ?_, fun b hb z => ?_⟩
    · obtain rfl := List.mem_singleton.mp hb
      rcases z with z | z
      · have m := r.sep.f _ z; rw [hq] at m; exact m
      · have m := hm _ z; rw [hq] at m; exact m
    · obtain rfl := List.mem_singleton.mp hb
      have m := r.sep.o _ z; rw [hq] at m; exact m
  fr := fun b hb => .inr (.inr (by rw [List.mem_singleton.mp hb]; exact hq))
/-- a tuple at v, whatever its address is -/
theorem tup_deep {pu : Bool} {ds : List D} {fp : List Addr} (same : ∀ b o, H b = some o → H1 b = some o) (r : Rel K F O H σ e) (h : Rep K H1 v (.tup ds) fp) (nd : fp.Nodup) (hT : ∀ b ∈ fp, b ∈ T) (ap : Apart F O T) :
    Come K F O T H σ pu (.tup ds, .deep) e v F O H1 fp where
  step := ⟨fun b o e _ _ => same b o e, fun _ h => h, fun _ h => .inl h, fun _ h => .inl h⟩
  still := fun _ => ⟨same, fun _ h => h⟩
  rel := r.grow same (fun _ h => h) fun a q => ⟨mut_same same (r.sep.f a q), r.sep.d a q⟩
  val := ⟨h, nd⟩
  ap := ⟨fun b hb => ap.nf b (hT b hb), fun b hb => ap.no b (hT b hb)⟩
  fr := fun b hb => .inr (.inl (hT b hb))
theorem tup_fro {pu : Bool} {ds : List D} {fp : List Addr} (same : ∀ b o, H b = some o → H1 b = some o) (r : Rel K F O H σ e) (h : Rep K H1 v (.tup ds) fp) (hT : ∀ b ∈ fp, F b ∨ b ∈ T) (ap : Apart F O T) (hm : ∀ b ∈ T, Mut (H b)) :
    Come K F O T H σ pu (.tup ds, .fro) e v (addF F T) O H1 [] where
  step := addF_step same
  still := fun _ => addF_still same
  rel := addF_rel r same ap hm
  val := ⟨fp, h, hT, rfl⟩
  ap := .nil
  fr := fun _ h => nomatch h
theorem tup_bor {pu : Bool} {ds : List D} {fp : List Addr} (same : ∀ b o, H b = some o → H1 b = some o) (r : Rel K F O H σ e) (h : Rep K H1 v (.tup ds) fp) (hT : ∀ b ∈ fp, F b ∨ O b) :
    Come K F O T H σ pu (.tup ds, .bor) e v F O H1 [] where
  step := ⟨fun b o e _ _ => same b o e, fun _ h => h, fun _ h => .inl h, fun _ h => .inl h⟩
  still := fun _ => ⟨same, fun _ h => h⟩
  rel := r.grow same (fun _ h => h) fun a q => ⟨mut_same same (r.sep.f a q), r.sep.d a q⟩
  val := ⟨fp, h, hT, rfl⟩
  ap := .nil
  fr := fun _ h => nomatch h

/-! ### what a value holds -/
theorem Val.list {ds : List D} {f : Fl} (h : Val K F O H v (.lst ds, f) own) : ∃ a xs g, v = .ref a ∧ H a = some (.lst xs) ∧ Reps K H xs ds g ∧
    (f = .deep → own = a :: g) ∧ (f = .top → own = [a] ∧ ∀ b ∈ g, F b) ∧ (f = .fro → own = [] ∧ F a ∧ ∀ b ∈ g, F b) ∧ (f = .bor → own = [] ∧ (F a ∨ O a) ∧ ∀ b ∈ g, F b ∨ O b) := by
  cases f with
  | deep =>
    obtain ⟨a, xs, g, e, hH, r, e2⟩ := h.1.list
    exact ⟨a, xs, g, e, hH, r, fun _ => e2, (fun z => nomatch z), (fun z => nomatch z), (fun z => nomatch z)⟩
  | top =>
    obtain ⟨a, fp, e, rp, hf, ho⟩ := h
    obtain ⟨a', xs, g, e', hH, r, e2⟩ := rp.list
    obtain ⟨e3, e4⟩ := List.cons.inj e2
    subst e3 e4
    exact ⟨a, xs, _, e, hH, r, (fun z => nomatch z), (fun _ => ⟨ho, hf⟩), (fun z => nomatch z), (fun z => nomatch z)⟩
  | fro =>
    obtain ⟨fp, rp, hf, ho⟩ := h
    obtain ⟨a, xs, g, e, hH, r, e2⟩ := rp.list
    subst e2
    exact ⟨a, xs, g, e, hH, r, (fun z => nomatch z), (fun z => nomatch z), (fun _ => ⟨ho, hf a List.mem_cons_self, fun b hb => hf b (List.mem_cons_of_mem _ hb)⟩), (fun z => nomatch z)⟩
  | bor =>
    obtain ⟨fp, rp, hf, ho⟩ := h
    obtain ⟨a, xs, g, e, hH, r, e2⟩ := rp.list
    subst e2
    exact ⟨a, xs, g, e, hH, r, (fun z => nomatch z), (fun z => nomatch z), (fun z => nomatch z), (fun _ => ⟨ho, hf a List.mem_cons_self, fun b hb => hf b (List.mem_cons_of_mem _ hb)⟩)⟩
/-- the items of a list at hand, to be put elsewhere -/
theorem Val.items {ds : List D} {f f' : Fl} (h : Val K F O H v (.lst ds, f) own) (he : escs ds f = some f') : ∃ a xs g, v = .ref a ∧ H a = some (.lst xs) ∧ Reps K H xs ds g ∧ (∀ b ∈ g, F b ∨ b ∈ own) ∧ (f' = .deep → (∀ b ∈ g, b ∈ own) ∧ g.Nodup) ∧ f' ≠ .bor := by
  have nd := h.nodup
  obtain ⟨a, xs, g, e, hH, r, c1, c2, c3, c4⟩ := h.list
  refine ⟨a, xs, g, e, hH, r, ?_⟩
  unfold escs at he
  by_cases hn : noMuts ds = true
  · rw [if_pos hn] at he
    cases he
    have : g = [] := r.noMut hn
    subst this
    exact ⟨(fun _ h => nomatch h), (fun _ => ⟨(fun _ h => nomatch h), List.nodup_nil⟩), by decide⟩
  rw [if_neg hn] at he
  cases f with
  | deep =>
    have e1 := c1 rfl
    cases he
    subst e1
    exact ⟨fun b hb => .inr (List.mem_cons_of_mem _ hb), fun _ => ⟨fun b hb => List.mem_cons_of_mem _ hb, (List.nodup_cons.mp nd).2⟩, by decide⟩
  | top =>
    cases he
    exact ⟨fun b hb => .inl ((c2 rfl).2 b hb), (fun z => nomatch z), by decide⟩
  | fro =>
    cases he
    exact ⟨fun b hb => .inl ((c3 rfl).2.2 b hb), (fun z => nomatch z), by decide⟩
  | bor => cases he
theorem Val.tuple {ds : List D} {f : Fl} (h : Val K F O H v (.tup ds, f) own) : ∃ a xs g, v = .ref a ∧ SqT K H a xs ∧ Reps K H xs ds g ∧
    (f = .deep → own = g) ∧ (f = .fro → own = [] ∧ ∀ b ∈ g, F b) ∧ (f = .bor → own = [] ∧ ∀ b ∈ g, F b ∨ O b) ∧ (f = .top → ∃ c g', g = c :: g' ∧ own = [c] ∧ ∀ b ∈ g', F b) := by
  cases f with
  | deep =>
    obtain ⟨a, xs, e, hH, r⟩ := h.1.tuple
    exact ⟨a, xs, own, e, hH, r, fun _ => rfl, (fun z => nomatch z), (fun z => nomatch z), (fun z => nomatch z)⟩
  | top =>
    obtain ⟨a, fp, e, rp, hf, ho⟩ := h
    obtain ⟨a', xs, e', hH, r⟩ := rp.tuple
    exact ⟨a', xs, a :: fp, e', hH, r, (fun z => nomatch z), (fun z => nomatch z), (fun z => nomatch z), (fun _ => ⟨a, fp, rfl, ho, hf⟩)⟩
  | fro =>
    obtain ⟨fp, rp, hf, ho⟩ := h
    obtain ⟨a, xs, e, hH, r⟩ := rp.tuple
    exact ⟨a, xs, fp, e, hH, r, (fun z => nomatch z), (fun _ => ⟨ho, hf⟩), (fun z => nomatch z), (fun z => nomatch z)⟩
  | bor =>
    obtain ⟨fp, rp, hf, ho⟩ := h
    obtain ⟨a, xs, e, hH, r⟩ := rp.tuple
    exact ⟨a, xs, fp, e, hH, r, (fun z => nomatch z), (fun z => nomatch z), (fun _ => ⟨ho, hf⟩), (fun z => nomatch z)⟩
theorem Val.itemsT {ds : List D} {f f' : Fl} (h : Val K F O H v (.tup ds, f) own) (he : escs ds f = some f') : ∃ a xs g, v = .ref a ∧ SqT K H a xs ∧ Reps K H xs ds g ∧ (∀ b ∈ g, F b ∨ b ∈ own) ∧ (f' = .deep → (∀ b ∈ g, b ∈ own) ∧ g.Nodup) ∧ f' ≠ .bor := by
  have nd := h.nodup
  obtain ⟨a, xs, g, e, hH, r, c1, c2, c3, c4⟩ := h.tuple
  refine ⟨a, xs, g, e, hH, r, ?_⟩
  unfold escs at he
  by_cases hn : noMuts ds = true
  · rw [if_pos hn] at he
    cases he
    have : g = [] := r.noMut hn
    subst this
    exact ⟨(fun _ h => nomatch h), (fun _ => ⟨(fun _ h => nomatch h), List.nodup_nil⟩), by decide⟩
  rw [if_neg hn] at he
  cases f with
  | deep =>
    have e1 := c1 rfl
    cases he
    subst e1
    exact ⟨fun b hb => .inr hb, fun _ => ⟨fun b hb => hb, nd⟩, by decide⟩
  | top =>
    cases he
    obtain ⟨c, g', e1, e2, hf⟩ := c4 rfl
    subst e1 e2
    exact ⟨fun b hb => (List.mem_cons.mp hb).elim (fun q => .inr (by rw [q]; exact List.mem_cons_self)) fun q => .inl (hf b q), (fun z => nomatch z), by decide⟩
  | fro =>
    cases he
    exact ⟨fun b hb => .inl ((c2 rfl).2 b hb), (fun z => nomatch z), by decide⟩
  | bor => cases he
theorem Val.int {i : Int} {f : Fl} (h : Val K F O H v (.int i, f) own) : v = .int i := by
  obtain ⟨fp, r, _⟩ := h.rep
  exact r.int_v.1
theorem Val.str {i : Str} {f : Fl} (h : Val K F O H v (.str i, f) own) : v = .str i := by
  obtain ⟨fp, r, _⟩ := h.rep
  exact r.str_v.1
theorem Val.bl {i : Bool} {f : Fl} (h : Val K F O H v (.bl i, f) own) : v = .bl i := by
  obtain ⟨fp, r, _⟩ := h.rep
  exact r.bl_v.1
theorem Val.non {f : Fl} (h : Val K F O H v (.non, f) own) : v = .non := by
  obtain ⟨fp, r, _⟩ := h.rep
  exact r.non_v.1
end

/-! ### operators -/
section
variable {X : Cx} {pins : List (Addr × Obj)} {s : Shared} {σ : L2.St} {H : Hp} {Q : VK} {u w : Value} {F O : AP'} {e : En}
/-- a value comes of values at hand; nothing changes -/
abbrev Give (X : Cx) (F O : AP') (T : List Addr) (H : Hp) (σ : L2.St) (e : En) (z : Vl) (Q : VK) : Prop := ∀ v F' O' H' own, Come X.K F O T H σ true z e v F' O' H' own → Q v H'
theorem ep (I : Inv X pins σ H s) {v : V} {u : Value} (r : RelV v u) (q : Q v H) : EP X pins σ Q u s := ⟨v, H, I, r, q⟩
theorem perm2 {a b : List Addr} (h : (a ++ b).Nodup) : a.Nodup ∧ b.Nodup ∧ ∀ c ∈ a, c ∉ b := by
  rw [List.nodup_append] at h
  exact ⟨h.1, h.2.1, fun c h1 h2 => h.2.2 c h1 c h2 rfl⟩
theorem join_nodup {g1 g2 o1 o2 : List Addr} (h1 : g1.Nodup) (h2 : g2.Nodup) (s1 : ∀ b ∈ g1, b ∈ o1) (s2 : ∀ b ∈ g2, b ∈ o2) (d : ∀ c ∈ o1, c ∉ o2) : (g1 ++ g2).Nodup := by
  rw [List.nodup_append]
  exact ⟨h1, h2, fun a ha b hb z => d a (s1 a ha) (z ▸ s2 b hb)⟩
theorem catFl_cases (f g : Fl) : (catFl f g = .deep ∧ f = .deep ∧ g = .deep) ∨ (catFl f g = .top) := by cases f <;> cases g <;> simp [catFl]
theorem tupFl_cases (f g : Fl) : (tupFl f g = .deep ∧ f = .deep ∧ g = .deep) ∨ (tupFl f g = .fro) := by cases f <;> cases g <;> simp [tupFl]
theorem CMulD_ok {i j : Int} (h : CMulD i j = true) : CMul i j := CMulD_iff.mp h
theorem binS_ok {o : Operator} {xv yv : V} {x y z : Vl} {o1 o2 : List Addr} (I : Inv X pins σ H s) (rx : RelV xv u) (ry : RelV yv w) (r : Rel X.K F O H σ e) (vx : Val X.K F O H xv x o1) (vy : Val X.K F O H yv y o2)
    (nd : (o1 ++ o2).Nodup) (ap : Apart F O (o1 ++ o2)) (hz : binS o x y = some z) (q : Give X F O (o1 ++ o2) H σ e z Q) : wpAny (model X.prog X.w) X.A (binaryOp o u w) (EP X pins σ Q) X.xe s := by
  have hm : ∀ b ∈ o1 ++ o2, Mut (H b) := fun b hb => (List.mem_append.mp hb).elim (vx.mut b) (vy.mut b)
  obtain ⟨nd1, nd2, dj⟩ := perm2 nd
  have at1 : ∀ (k : Int), z = (.int k, .deep) → Q (.int k) H := fun k ez => by subst ez; exact q _ _ _ _ _ (.atom r (.int k))
  unfold binS at hz
  split at hz
  · cases hz; cases vx.int; cases vy.int
    exact op_add pins s σ H _ _ u w Q I rx ry ⟨_, _, rfl, rfl, at1 _ rfl⟩
  · cases hz; cases vx.int; cases vy.int
    exact op_sub pins s σ H _ _ u w Q I rx ry ⟨_, _, rfl, rfl, at1 _ rfl⟩
  · split at hz
    · rename_i hc
      cases hz; cases vx.int; cases vy.int
      exact op_mul pins s σ H _ _ u w Q I rx ry ⟨_, _, rfl, rfl, CMulD_ok hc, at1 _ rfl⟩
    · cases hz
  · split at hz
    · rename_i hc
      cases hz; cases vx.int; cases vy.int
      exact op_fdivN pins s σ H _ _ u w Q I rx ry ⟨_, _, rfl, rfl, hc, at1 _ rfl⟩
    · cases hz
  · split at hz
    · rename_i hc
      cases hz; cases vx.int; cases vy.int
      exact op_modN pins s σ H _ _ u w Q I rx ry ⟨_, _, rfl, rfl, hc, at1 _ rfl⟩
    · cases hz
  · split at hz
    · rename_i hc
      cases hz; cases vx.int; cases vy.int
      exact op_pow pins s σ H _ _ u w Q I rx ry ⟨_, _, rfl, rfl, hc, at1 _ rfl⟩
    · cases hz
  · split at hz
    · rename_i hc
      cases hz; cases vx.int; cases vy.int
      exact op_shl pins s σ H _ _ u w Q I rx ry ⟨_, _, rfl, rfl, hc, at1 _ rfl⟩
    · cases hz
  · split at hz
    · rename_i hc
      cases hz; cases vx.int; cases vy.int
      exact op_shr pins s σ H _ _ u w Q I rx ry ⟨_, _, rfl, rfl, hc, at1 _ rfl⟩
    · cases hz
  · cases hz; cases vx.int; cases vy.int
    exact op_and pins s σ H _ _ u w Q I rx ry ⟨_, _, rfl, rfl, at1 _ rfl⟩
  · cases hz; cases vx.int; cases vy.int
    exact op_or pins s σ H _ _ u w Q I rx ry ⟨_, _, rfl, rfl, at1 _ rfl⟩
  · cases hz; cases vx.int; cases vy.int
    exact op_xor pins s σ H _ _ u w Q I rx ry ⟨_, _, rfl, rfl, at1 _ rfl⟩
  · split at hz
    · rename_i hc
      cases hz; cases vx.str; cases vy.str
      exact op_add_str pins s σ H _ _ u w Q I rx ry ⟨_, _, rfl, rfl, hc, q _ _ _ _ _ (.atom r (.str _))⟩
    · cases hz
  · split at hz
    · rename_i f' g' hf hg
      split at hz
      · rename_i hc
        obtain ⟨a, xs, gx, rfl, hH, rp, c1, c2, _⟩ := vx.items hf
        obtain ⟨b, ys, gy, rfl, hH', rp', d1, d2, _⟩ := vy.items hg
        refine op_cat pins s σ H _ _ u w Q I rx ry ⟨a, b, xs, ys, rfl, rfl, hH, hH', by rw [rp.length, rp'.length]; exact hc, fun p hp => ?_⟩
        have rpp := rp.append rp'
        cases hz
        rcases catFl_cases f' g' with ⟨e, e1, e2⟩ | e
        · rw [e] at q
          refine q _ _ _ _ _ (new_deep r hp rpp (join_nodup (c2 e1).2 (d2 e2).2 (c2 e1).1 (d2 e2).1 dj) (fun b hb => ?_) ap)
          exact List.mem_append.mpr ((List.mem_append.mp hb).imp ((c2 e1).1 b) ((d2 e2).1 b))
        · rw [e] at q
          refine q _ _ _ _ _ (new_top r hp rpp (fun b hb => ?_) ap hm)
          rcases List.mem_append.mp hb with h | h
          · exact (c1 b h).imp id (List.mem_append_left _)
          · exact (d1 b h).imp id (List.mem_append_right _)
      · cases hz
    · cases hz
  · split at hz
    · rename_i f' g' hf hg
      split at hz
      · rename_i hc
        obtain ⟨a, xs, gx, rfl, hH, rp, c1, c2, _⟩ := vx.itemsT hf
        obtain ⟨b, ys, gy, rfl, hH', rp', d1, d2, _⟩ := vy.itemsT hg
        have rpp := rp.append rp'
        cases hz
        have fin : ∀ {v : V} {H1 : Hp}, (∀ b o, H b = some o → H1 b = some o) → Rep X.K H1 v (.tup (_ ++ _)) (gx ++ gy) → Q v H1 := fun {v H1} same h => by
          rcases tupFl_cases f' g' with ⟨e, e1, e2⟩ | e
          · rw [e] at q
            refine q _ _ _ _ _ (tup_deep same r h (join_nodup (c2 e1).2 (d2 e2).2 (c2 e1).1 (d2 e2).1 dj) (fun b hb => ?_) ap)
            exact List.mem_append.mpr ((List.mem_append.mp hb).imp ((c2 e1).1 b) ((d2 e2).1 b))
          · rw [e] at q
            refine q _ _ _ _ _ (tup_fro same r h (fun b hb => ?_) ap hm)
            rcases List.mem_append.mp hb with h | h
            · exact (c1 b h).imp id (List.mem_append_left _)
            · exact (d1 b h).imp id (List.mem_append_right _)
        refine op_catA pins s σ H _ _ u w Q I rx ry ⟨a, b, xs, ys, rfl, rfl, hH, hH', by rw [rp.length, rp'.length]; exact hc, fun e0 => ?_, fun _ e0 => ?_, fun _ _ p hp => ?_⟩
        · subst e0
          cases rp
          exact fin (fun _ _ h => h) (.tup hH' (by simpa using rp'))
        · subst e0
          cases rp'
          exact fin (fun _ _ h => h) (.tup hH (by simpa using rp))
        · exact fin (upd_more hp) (.tup (.of upd_same) (reps_upd rpp hp))
      · cases hz
    · cases hz
  · split at hz
    · rename_i f' hf
      split at hz
      · rename_i hc
        obtain ⟨a, xs, gx, rfl, hH, rp, c1, c2, _⟩ := vx.items hf
        cases vy.int
        refine op_rep pins s σ H _ _ u w Q I rx ry ⟨a, _, xs, rfl, rfl, hH, (repOk_iff.mp hc).1, (repOk_iff.mp hc).2.1, by rw [rp.length]; exact (repOk_iff.mp hc).2.2, fun p hp => ?_⟩
        cases hz
        have many : ∀ n : Nat, ∃ g, Reps X.K H (List.replicate n xs).flatten (List.replicate n _).flatten g ∧ ∀ b ∈ g, b ∈ gx := fun n => by
          induction n with
          | zero => exact ⟨[], .nil, (fun _ h => nomatch h)⟩
          | succ n ih =>
            obtain ⟨g, h1, h2⟩ := ih
            refine ⟨gx ++ g, ?_, fun b hb => (List.mem_append.mp hb).elim id (h2 b)⟩
            rw [List.replicate_succ, List.replicate_succ, List.flatten_cons, List.flatten_cons]
            exact rp.append h1
        obtain ⟨g, h1, h2⟩ := many _
        split at q
        · rename_i hn
          have e0 : gx = [] := rp.noMut hn
          subst e0
          have e1 : g = [] := List.eq_nil_iff_forall_not_mem.mpr fun b hb => nomatch h2 b hb
          subst e1
          exact q _ _ _ _ _ (new_deep r hp h1 .nil (fun _ h => nomatch h) ap)
        · exact q _ _ _ _ _ (new_top r hp h1 (fun b hb => (c1 b (h2 b hb)).imp id (List.mem_append_left _)) ap hm)
      · cases hz
    · cases hz
  · split at hz
    · rename_i hc
      obtain ⟨hc, hn⟩ := hc
      obtain ⟨h3, h4⟩ := repTOk_iff.mp hc
      obtain ⟨a, xs, gx, rfl, hH, rp, c1, c2, _⟩ := vx.tuple
      have e0 : gx = [] := rp.noMut hn
      subst e0
      cases vy.int
      have rp' : Reps X.K H xs _ [] := rp
      refine op_repT pins s σ H _ _ u w Q I rx ry ⟨a, _, xs, rfl, rfl, hH, (fun z => by have := rp.length; rw [z] at this; simp at this; omega), h4.1, h4.2, by rw [rp.length]; exact h3.2, fun p hp => ?_⟩
      cases hz
      have many : ∀ n : Nat, Reps X.K H (List.replicate n xs).flatten (List.replicate n _).flatten [] := fun n => by
        induction n with
        | zero => exact .nil
        | succ n ih =>
          rw [List.replicate_succ, List.replicate_succ, List.flatten_cons, List.flatten_cons]
          exact rp'.append ih
      exact q _ _ _ _ _ (tup_deep (upd_more hp) r (.tup (.of upd_same) (reps_upd (many _) hp)) .nil (fun _ h => nomatch h) ap)
    · cases hz
  · cases hz
end
end Ev

/-! Ev5: comparisons, truth, places, slices by values. -/
namespace Ev
open PySem PySem.Spec PyProof.Rows L2

/-! ### data as the library's data -/
mutual
def toPy : D → PyData
  | .bl b => .bool b
  | .int i => .int i
  | .str s => .str s
  | .tup xs => .tuple (toPys xs)
  | .lst xs => .list (toPys xs)
  | _ => .none
def toPys : List D → List PyData
  | [] => []
  | x :: xs => toPy x :: toPys xs
end
mutual
theorem plain_of : ∀ d : D, plb d = true → (toPy d).plain = true
  | .non, _ => rfl
  | .int _, _ => rfl
  | .str _, _ => rfl
  | .tup xs, h => plains_of xs h
  | .lst xs, h => plains_of xs h
  | .bl _, h => nomatch h
  | .scr _, h => nomatch h
  | .dic _, h => nomatch h
  | .set _, h => nomatch h
  | .obj _ _, h => nomatch h
theorem plains_of : ∀ ds : List D, plbs ds = true → PyData.plainAll (toPys ds) = true
  | [], _ => rfl
  | x :: xs, h => by
    have h' : plb x = true ∧ plbs xs = true := by simpa [plbs] using h
    simp only [toPys, PyData.plainAll, plain_of x h'.1, plains_of xs h'.2, Bool.and_self]
end
mutual
theorem depth_of : ∀ d : D, (toPy d).depth = dep d
  | .non => rfl
  | .int _ => rfl
  | .str _ => rfl
  | .tup xs => congrArg (· + 1) (depths_of xs)
  | .lst xs => congrArg (· + 1) (depths_of xs)
  | .bl _ => rfl
  | .scr _ => rfl
  | .dic _ => rfl
  | .set _ => rfl
  | .obj _ _ => rfl
theorem depths_of : ∀ ds : List D, PyData.depthAll (toPys ds) = deps ds
  | [] => rfl
  | x :: xs => by
    show max (toPy x).depth (PyData.depthAll (toPys xs)) = max (dep x) (deps xs)
    rw [depth_of x, depths_of xs]
end
mutual
theorem eqv_of : ∀ a b : D, plb a = true → plb b = true → PyData.eqv (toPy a) (toPy b) = decide (a = b)
  | .non, b, _, hb => by cases b <;> first | rfl | exact nomatch hb
  | .int i, b, _, hb => by
    cases b <;> first
      | (simp [toPy, PyData.eqv]; done)
      | (show (i == _) = decide (D.int i = D.int _); rw [Bool.eq_iff_iff]; simp)
      | exact absurd hb (by simp [plb])
  | .str i, b, _, hb => by
    cases b <;> first
      | (simp [toPy, PyData.eqv]; done)
      | (show (i == _) = decide (D.str i = D.str _); rw [Bool.eq_iff_iff]; simp)
      | exact absurd hb (by simp [plb])
  | .tup xs, b, ha, hb => by
    cases b with
    | tup ys =>
      show PyData.eqvAll (toPys xs) (toPys ys) = _
      rw [eqvs_of xs ys ha hb, Bool.eq_iff_iff]
      simp
    | _ => first | rfl | (simp [toPy, PyData.eqv]; done) | exact absurd hb (by simp [plb])
  | .lst xs, b, ha, hb => by
    cases b with
    | lst ys =>
      show PyData.eqvAll (toPys xs) (toPys ys) = _
      rw [eqvs_of xs ys ha hb, Bool.eq_iff_iff]
      simp
    | _ => first | rfl | (simp [toPy, PyData.eqv]; done) | exact absurd hb (by simp [plb])
  | .bl _, _, h, _ => nomatch h
  | .scr _, _, h, _ => nomatch h
  | .dic _, _, h, _ => nomatch h
  | .set _, _, h, _ => nomatch h
  | .obj _ _, _, h, _ => nomatch h
theorem eqvs_of : ∀ a b : List D, plbs a = true → plbs b = true → PyData.eqvAll (toPys a) (toPys b) = decide (a = b)
  | [], [], _, _ => rfl
  | [], _ :: _, _, _ => by simp [toPys, PyData.eqvAll]
  | _ :: _, [], _, _ => by simp [toPys, PyData.eqvAll]
  | x :: xs, y :: ys, ha, hb => by
    have ha' : plb x = true ∧ plbs xs = true := by simpa [plbs] using ha
    have hb' : plb y = true ∧ plbs ys = true := by simpa [plbs] using hb
    show (PyData.eqv (toPy x) (toPy y) && PyData.eqvAll (toPys xs) (toPys ys)) = _
    rw [eqv_of x y ha'.1 hb'.1, eqvs_of xs ys ha'.2 hb'.2, Bool.eq_iff_iff]
    simp
end
section
variable {K : PySem.W.Frag} {H : Hp}
mutual
theorem Rep.dp : ∀ {v : V} {d : D} {fp : List Addr}, Rep K H v d fp → plb d = true → Dp K H v (toPy d)
  | _, _, _, .non, _ => .non
  | _, _, _, .bl b, h => nomatch h
  | _, _, _, .int i, _ => .int i
  | _, _, _, .str s, _ => .str s
  | _, _, _, .tup h r, k => .tup h (Reps.dp r k)
  | _, _, _, .lst h r, k => .lst (.of h) (Reps.dp r k)
  | _, _, _, .scr _ _, h => nomatch h
  | _, _, _, .dic _ _, h => nomatch h
theorem Reps.dp : ∀ {vs : List V} {ds : List D} {fp : List Addr}, Reps K H vs ds fp → plbs ds = true → DpAll K H vs (toPys ds)
  | _, _, _, .nil, _ => .nil
  | _, _, _, .cons (d := d) (ds := ds) x r, h => by
    have h' : plb d = true ∧ plbs ds = true := by simpa [plbs] using h
    exact .cons (Rep.dp x h'.1) (Reps.dp r h'.2)
end
end

/-! ### comparisons -/
section
variable {X : Cx} {pins : List (Addr × Obj)} {s : Shared} {σ : L2.St} {H : Hp} {Q : VK} {u w : Value} {F O : AP'} {e : En}
theorem endB (I : Inv X pins σ H s) {b : Bool} (q : Q (.bl b) H) : EP X pins σ Q (.bool b) s := ⟨.bl b, H, I, rfl, q⟩
theorem any_map {xs : List D} {x : D} (hx : plb x = true) (hxs : plbs xs = true) : ((toPys xs).any fun y => PyData.eqv y (toPy x)) = xs.any fun y => decide (y = x) := by
  induction xs with
  | nil => rfl
  | cons y ys ih =>
    have h' : plb y = true ∧ plbs ys = true := by simpa [plbs] using hxs
    show (PyData.eqv (toPy y) (toPy x) || _) = _
    rw [eqv_of y x h'.1 hx, ih h'.2]
    rfl
theorem getK_rep {K : PySem.W.Frag} : ∀ {kvs : List (Key × V)} {ds : List (D × D)} {fp : List Addr} (k : Key), RepK K H kvs ds fp →
    (getK (kD k) ds = none ∧ valV kvs k = none) ∨ ∃ d v f, getK (kD k) ds = some d ∧ valV kvs k = some v ∧ Rep K H v d f ∧ f.Sublist fp
  | _, _, _, k, .nil => .inl ⟨rfl, rfl⟩
  | _, _, _, k, .cons (k := k') (v := v) (kvs := kvs) (d := d) (ds := ds) (f := f) (g := g) x r => by
    have inj : kD k' = kD k ↔ k' = k := by
      constructor
      · intro e
        cases k' <;> cases k <;> first | (cases e; rfl) | exact nomatch e
      · rintro rfl; rfl
    by_cases hk : k' = k
    · subst hk
      refine .inr ⟨d, v, f, ?_, valV_pos rfl, x, List.sublist_append_left f g⟩
      unfold getK
      rw [if_pos rfl]
    · have e1 : getK (kD k) ((kD k', d) :: ds) = getK (kD k) ds := by
        conv => lhs; unfold getK
        rw [if_neg (fun e => hk (inj.mp e))]
      rw [e1, valV_neg (p := (k', v)) hk]
      rcases getK_rep k r with h | ⟨d', v', f', h1, h2, h3, h4⟩
      · exact .inl h
      · exact .inr ⟨d', v', f', h1, h2, h3, h4.trans (List.sublist_append_right f g)⟩
theorem isKey_of {d : D} (h : isKey d = true) : ∃ k, d = kD k := by
  cases d with
  | int i => exact ⟨.inl i, rfl⟩
  | str x => exact ⟨.inr x, rfl⟩
  | _ => exact nomatch h
theorem rep_key {K : PySem.W.Frag} {k : Key} {v : V} {fp : List Addr} (h : Rep K H v (kD k) fp) : v = kV k := by
  cases k with
  | inl i => exact h.int_v.1
  | inr x => exact h.str_v.1
theorem inS_ok {neg : Bool} {xv yv : V} {x y : D} {b : Bool} {f g : List Addr} (hu : X.A.units + 64 < cLine) (I : Inv X pins σ H s) (rx : RelV xv u) (ry : RelV yv w) (px : Rep X.K H xv x f) (py : Rep X.K H yv y g)
    (hb : inS x y = some b) (q : Q (.bl (if neg then !b else b)) H) : wpAny (model X.prog X.w) X.A (compareOp (if neg then .NotIn else .In) u w) (EP X pins σ Q) X.xe s := by
  unfold inS at hb
  split at hb
  · rename_i ys
    split at hb
    · rename_i hc
      simp only [Bool.and_eq_true, decide_eq_true_eq] at hc
      cases hb
      obtain ⟨as, r1⟩ := Dp.reads I _ _ _ (px.dp hc.1.1) rx
      obtain ⟨bs, r2⟩ := Dp.reads I _ _ _ (py.dp (d := .lst ys) hc.1.2) ry
      have hd : X.A.units + 1 + min (PyData.depthAll (toPys ys)) (toPy x).depth < cLine := by rw [depth_of]; have := Nat.min_le_right (PyData.depthAll (toPys ys)) (dep x); omega
      cases neg with
      | false => exact SeqAt.in_list_data r2 r1 (plains_of ys hc.1.2) (plain_of x hc.1.1) hd (endB I (by rw [any_map hc.1.1 hc.1.2]; exact q))
      | true => exact SeqAt.notIn_list_data r2 r1 (plains_of ys hc.1.2) (plain_of x hc.1.1) hd (endB I (by rw [any_map hc.1.1 hc.1.2]; exact q))
    · cases hb
  · rename_i ys
    split at hb
    · rename_i hc
      simp only [Bool.and_eq_true, decide_eq_true_eq] at hc
      cases hb
      obtain ⟨as, r1⟩ := Dp.reads I _ _ _ (px.dp hc.1.1) rx
      obtain ⟨bs, r2⟩ := Dp.reads I _ _ _ (py.dp (d := .tup ys) hc.1.2) ry
      have hd : X.A.units + 1 + min (PyData.depthAll (toPys ys)) (toPy x).depth < cLine := by rw [depth_of]; have := Nat.min_le_right (PyData.depthAll (toPys ys)) (dep x); omega
      cases neg with
      | false => exact SeqAt.in_tuple_data r2 r1 (plains_of ys hc.1.2) (plain_of x hc.1.1) hd (endB I (by rw [any_map hc.1.1 hc.1.2]; exact q))
      | true => exact SeqAt.notIn_tuple_data r2 r1 (plains_of ys hc.1.2) (plain_of x hc.1.1) hd (endB I (by rw [any_map hc.1.1 hc.1.2]; exact q))
    · cases hb
  · rename_i kvs
    split at hb
    · rename_i hk
      cases hb
      obtain ⟨k, rfl⟩ := isKey_of hk
      obtain ⟨a, ks, g', rfl, hH, rk, _⟩ := py.dict
      obtain rfl := rep_key px
      cases ry
      have e : (getK (kD k) kvs).isSome = (valV ks k).isSome := by
        rcases getK_rep k rk with ⟨h1, h2⟩ | ⟨_, _, _, h1, h2, _⟩ <;> rw [h1, h2] <;> rfl
      rw [e] at q
      cases neg with
      | false => exact d_in (by omega) I (.k hH) rx fun s' I' => endB I' q
      | true => exact d_notIn (by omega) I (.k hH) rx fun s' I' => endB I' q
    · cases hb
  · rename_i z
    split at hb
    · rename_i c
      split at hb
      · rename_i hc
        cases hb
        obtain ⟨rfl, _⟩ := px.str_v
        obtain ⟨rfl, _⟩ := py.str_v
        have e : c = ⟨#[c.cps[0]!]⟩ := by
          obtain ⟨arr⟩ := c
          congr 1
          refine Array.ext (by simpa using hc) fun i h1 h2 => ?_
          have : i = 0 := by simp at h2; omega
          subst this
          have h3 : 0 < arr.size := h1
          simp [getElem!_pos arr 0 h3]
        cases neg with
        | false => exact op_in_sign pins s σ H _ _ u w Q I rx ry ⟨c.cps[0]!, z, by rw [← e], rfl, q⟩
        | true => exact op_notIn_sign pins s σ H _ _ u w Q I rx ry ⟨c.cps[0]!, z, by rw [← e], rfl, q⟩
      · cases hb
    · cases hb
  · cases hb
theorem eqS_ok {neg : Bool} {xv yv : V} {x y : D} {b : Bool} {f g : List Addr} (hu : X.A.units + 64 < cLine) (I : Inv X pins σ H s) (rx : RelV xv u) (ry : RelV yv w) (px : Rep X.K H xv x f) (py : Rep X.K H yv y g)
    (hb : eqS x y = some b) (q : Q (.bl (if neg then !b else b)) H) : wpAny (model X.prog X.w) X.A (compareOp (if neg then .NotEq else .Eq) u w) (EP X pins σ Q) X.xe s := by
  unfold eqS at hb
  split at hb
  · rename_i i j
    cases hb
    obtain ⟨rfl, _⟩ := px.bl_v
    obtain ⟨rfl, _⟩ := py.bl_v
    have e : decide (V.bl i = V.bl j) = (i == j) := dec_bl
    rw [← e] at q
    cases neg with
    | false => exact op_eq pins s σ H _ _ u w Q I rx ry ⟨rfl, q⟩
    | true => exact op_ne pins s σ H _ _ u w Q I rx ry ⟨rfl, q⟩
  · split at hb
    · rename_i hc
      simp only [Bool.and_eq_true, decide_eq_true_eq] at hc
      cases hb
      obtain ⟨as, r1⟩ := Dp.reads I _ _ _ (px.dp hc.1.1) rx
      obtain ⟨bs, r2⟩ := Dp.reads I _ _ _ (py.dp hc.1.2) ry
      have hd : X.A.units + min (toPy x).depth (toPy y).depth < cLine := by rw [depth_of, depth_of]; omega
      have e := eqv_of x y hc.1.1 hc.1.2
      cases neg with
      | false => exact SeqAt.eq_plain r1 r2 (plain_of x hc.1.1) (plain_of y hc.1.2) hd (endB I (by rw [e]; exact q))
      | true => exact SeqAt.ne_plain r1 r2 (plain_of x hc.1.1) (plain_of y hc.1.2) hd (endB I (by rw [e]; exact q))
    · cases hb
theorem rep_none {K : PySem.W.Frag} {v : V} {d : D} {f : List Addr} (h : Rep K H v d f) : decide (v = V.non) = decide (d = D.non) := by
  cases h <;> rfl
theorem cmpS_ok {o : CmpOp} {xv yv : V} {x y : D} {b : Bool} {f g : List Addr} (hu : X.A.units + 64 < cLine) (I : Inv X pins σ H s) (rx : RelV xv u) (ry : RelV yv w) (px : Rep X.K H xv x f) (py : Rep X.K H yv y g)
    (hb : cmpS o x y = some b) (q : Q (.bl b) H) : wpAny (model X.prog X.w) X.A (compareOp o u w) (EP X pins σ Q) X.xe s := by
  cases o with
  | Eq => exact eqS_ok (neg := false) hu I rx ry px py hb q
  | NotEq =>
    obtain ⟨c, h1, rfl⟩ := Option.map_eq_some_iff.mp hb
    exact eqS_ok (neg := true) hu I rx ry px py h1 q
  | Lt =>
    simp only [cmpS] at hb
    split at hb
    · cases hb; obtain ⟨rfl, _⟩ := px.int_v; obtain ⟨rfl, _⟩ := py.int_v
      exact op_lt pins s σ H _ _ u w Q I rx ry ⟨_, _, rfl, rfl, q⟩
    · cases hb
  | LtE =>
    simp only [cmpS] at hb
    split at hb
    · cases hb; obtain ⟨rfl, _⟩ := px.int_v; obtain ⟨rfl, _⟩ := py.int_v
      exact op_le pins s σ H _ _ u w Q I rx ry ⟨_, _, rfl, rfl, q⟩
    · cases hb
  | Gt =>
    simp only [cmpS] at hb
    split at hb
    · cases hb; obtain ⟨rfl, _⟩ := px.int_v; obtain ⟨rfl, _⟩ := py.int_v
      exact op_gt pins s σ H _ _ u w Q I rx ry ⟨_, _, rfl, rfl, q⟩
    · cases hb
  | GtE =>
    simp only [cmpS] at hb
    split at hb
    · cases hb; obtain ⟨rfl, _⟩ := px.int_v; obtain ⟨rfl, _⟩ := py.int_v
      exact op_ge pins s σ H _ _ u w Q I rx ry ⟨_, _, rfl, rfl, q⟩
    · cases hb
  | Is =>
    simp only [cmpS] at hb
    split at hb
    · cases hb; obtain ⟨rfl, _⟩ := px.bl_v; obtain ⟨rfl, _⟩ := py.bl_v
      rw [← dec_bl] at q
      exact op_is_bl pins s σ H _ _ u w Q I rx ry ⟨_, _, rfl, rfl, by simpa using q⟩
    · cases hb; obtain ⟨rfl, _⟩ := py.non_v
      exact op_isN pins s σ H _ _ u w Q I rx ry ⟨rfl, by rw [rep_none px]; exact q⟩
    · cases hb
  | IsNot =>
    simp only [cmpS] at hb
    split at hb
    · cases hb; obtain ⟨rfl, _⟩ := px.bl_v; obtain ⟨rfl, _⟩ := py.bl_v
      rw [← dec_bl] at q
      exact op_isnot_bl pins s σ H _ _ u w Q I rx ry ⟨_, _, rfl, rfl, by simpa using q⟩
    · cases hb; obtain ⟨rfl, _⟩ := py.non_v
      exact op_notN pins s σ H _ _ u w Q I rx ry ⟨rfl, by rw [rep_none px]; exact q⟩
    · cases hb
  | In => exact inS_ok (neg := false) hu I rx ry px py hb q
  | NotIn =>
    obtain ⟨c, h1, rfl⟩ := Option.map_eq_some_iff.mp hb
    exact inS_ok (neg := true) hu I rx ry px py h1 q

/-! ### truth -/
theorem truth_ok {xv : V} {x : D} {b : Bool} {f : List Addr} {Q : Bool → Hp → Prop} (I : Inv X pins σ H s) (rx : RelV xv u) (px : Rep X.K H xv x f) (hb : truth x = some b) (q : Q b H) : wpAny (model X.prog X.w) X.A (truthy u) (TP X pins σ Q) X.xe s := by
  have go : TruV X.K xv H b → wpAny (model X.prog X.w) X.A (truthy u) (TP X pins σ Q) X.xe s := fun h => tru_ok pins s σ H xv u Q I rx ⟨b, h, q⟩
  cases px with
  | non => cases hb; exact go rfl
  | bl c => cases hb; exact go rfl
  | int i => cases hb; exact go rfl
  | str z =>
    simp only [truth] at hb
    split at hb
    · rename_i hz
      cases hb
      exact go ⟨hz, rfl⟩
    · cases hb
  | tup h r =>
    cases hb
    refine go (.inr (.inl ⟨_, h, ?_⟩))
    cases r <;> rfl
  | lst h r =>
    cases hb
    refine go (.inl ⟨_, .of h, ?_⟩)
    cases r <;> rfl
  | scr h r => cases hb
  | dic h r =>
    cases hb
    refine go (.inr (.inr ⟨_, h, ?_⟩))
    cases r <;> rfl
end
end Ev

/-! Ev6: places, slices by values. -/
namespace Ev
open PySem PySem.Spec PyProof.Rows L2

theorem elFl_bor {f : Fl} : elFl f = .bor ↔ f = .bor := by cases f <;> simp [elFl]
section
variable {K : PySem.W.Frag} {F O : AP'} {T : List Addr} {H : Hp} {v v' : V} {x : Vl} {own fp fp' : List Addr} {σ : L2.St} {e : En} {d : D}
/-- the nodes of a value -/
theorem Val.nodes (h : Val K F O H v x own) : ∃ fp, Rep K H v x.1 fp ∧ (x.2 = .deep → own = fp ∧ fp.Nodup) ∧ (x.2 = .top → ∀ b ∈ fp, F b ∨ b ∈ own) ∧ (x.2 = .fro → ∀ b ∈ fp, F b) ∧ (x.2 = .bor → ∀ b ∈ fp, F b ∨ O b) := by
  obtain ⟨d, f⟩ := x
  cases f with
  | deep => exact ⟨own, h.1, fun _ => ⟨rfl, h.2⟩, (fun z => nomatch z), (fun z => nomatch z), (fun z => nomatch z)⟩
  | top =>
    obtain ⟨a, fp, rfl, r, hf, rfl⟩ := h
    refine ⟨_, r, (fun z => nomatch z), fun _ b hb => ?_, (fun z => nomatch z), (fun z => nomatch z)⟩
    rcases List.mem_cons.mp hb with rfl | hb
    · exact .inr List.mem_cons_self
    · exact .inl (hf b hb)
  | fro =>
    obtain ⟨fp, r, hf, rfl⟩ := h
    exact ⟨fp, r, (fun z => nomatch z), (fun z => nomatch z), (fun _ => hf), (fun z => nomatch z)⟩
  | bor =>
    obtain ⟨fp, r, hf, rfl⟩ := h
    exact ⟨fp, r, (fun z => nomatch z), (fun z => nomatch z), (fun z => nomatch z), (fun _ => hf)⟩
/-- a part of a value at hand -/
theorem come_part {pu : Bool} (r : Rel K F O H σ e) (ap : Apart F O T) (hm : ∀ b ∈ T, Mut (H b)) (hT : ∀ b ∈ own, b ∈ T)
    (h1 : x.2 = .deep → own = fp ∧ fp.Nodup) (h2 : x.2 = .top → ∀ b ∈ fp, F b ∨ b ∈ own) (h3 : x.2 = .fro → ∀ b ∈ fp, F b) (h4 : x.2 = .bor → ∀ b ∈ fp, F b ∨ O b)
    (rp : Rep K H v' d fp') (sub : fp'.Sublist fp) : ∃ F' own', Come K F O T H σ pu (d, elFl x.2) e v' F' O H own' := by
  obtain ⟨dx, f⟩ := x
  cases f with
  | deep =>
    obtain ⟨rfl, nd⟩ := h1 rfl
    exact ⟨F, fp', .refl, (fun _ => .refl), r, ⟨rp, sub.nodup nd⟩, ⟨fun b hb => ap.nf b (hT b (sub.subset hb)), fun b hb => ap.no b (hT b (sub.subset hb))⟩, fun b hb => .inr (.inl (hT b (sub.subset hb)))⟩
  | top =>
    refine ⟨addF F T, [], addF_step (fun _ _ h => h), (fun _ => addF_still fun _ _ h => h), addF_rel r (fun _ _ h => h) ap hm, ⟨fp', rp, fun b hb => ?_, rfl⟩, .nil, (fun _ h => nomatch h)⟩
    exact (h2 rfl b (sub.subset hb)).imp id (hT b)
  | fro => exact ⟨F, [], .refl, (fun _ => .refl), r, ⟨fp', rp, fun b hb => h3 rfl b (sub.subset hb), rfl⟩, .nil, (fun _ h => nomatch h)⟩
  | bor => exact ⟨F, [], .refl, (fun _ => .refl), r, ⟨fp', rp, fun b hb => h4 rfl b (sub.subset hb), rfl⟩, .nil, (fun _ h => nomatch h)⟩
end

section
variable {X : Cx} {pins : List (Addr × Obj)} {s : Shared} {σ : L2.St} {H : Hp} {Q : VK} {u w : Value} {F O : AP'} {e : En} {T : List Addr}
theorem atI_rep {K : PySem.W.Frag} {vs : List V} {ds : List D} {fp : List Addr} {i : Int} {d : D} (h : Reps K H vs ds fp) (e : atI ds i = some d) : ∃ v f, atI vs i = some v ∧ Rep K H v d f ∧ f.Sublist fp := by
  unfold atI at e ⊢
  rw [h.length]
  cases q : ixN ds.length i with
  | none => rw [q] at e; cases e
  | some j =>
    rw [q] at e
    obtain ⟨v, f, e1, r, _, sb⟩ := h.sub (k := j) e
    exact ⟨v, f, e1, r, sb⟩
theorem ixS_ok {value slice : Expr} {xv yv : V} {x y z : Vl} {o1 o2 : List Addr} (hu : X.A.units + 64 < cLine) (I : Inv X pins σ H s) (rx : RelV xv u) (ry : RelV yv w) (r : Rel X.K F O H σ e) (vx : Val X.K F O H xv x o1) (vy : Val X.K F O H yv y o2)
    (ap : Apart F O (o1 ++ o2)) (hz : ixS x y.1 = some z) (q : Give X F O (o1 ++ o2) H σ e z Q) (hs : subscripted slice false u w = operate [u, w] (getItem u w)) :
    wpAny (model X.prog X.w) X.A (subscriptTail value slice u w) (EP X pins σ Q) X.xe s := by
  have hm : ∀ b ∈ o1 ++ o2, Mut (H b) := fun b hb => (List.mem_append.mp hb).elim (vx.mut b) (vy.mut b)
  have hT : ∀ b ∈ o1, b ∈ o1 ++ o2 := fun b hb => List.mem_append_left _ hb
  obtain ⟨dy, fy⟩ := y
  have hz : ixS x dy = some z := hz
  unfold ixS at hz
  split at hz
  · rename_i xs f i
    obtain ⟨d, hd, rfl⟩ := Option.map_eq_some_iff.mp hz
    cases vy.int
    obtain ⟨fp, rp, h1, h2, h3, h4⟩ := vx.nodes
    obtain ⟨a, vs, g, rfl, hH, rs, rfl⟩ := rp.list
    obtain ⟨v', fp', hv, rv, sb⟩ := atI_rep rs hd
    obtain ⟨F', own', c⟩ := come_part (pu := true) r ap hm hT h1 h2 h3 h4 rv (sb.cons a)
    exact ix_list value slice pins s σ H _ _ u w Q I rx ry ⟨a, vs, _, v', rfl, rfl, .of hH, hv, q _ _ _ _ _ c⟩ hs
  · rename_i xs f i
    obtain ⟨d, hd, rfl⟩ := Option.map_eq_some_iff.mp hz
    cases vy.int
    obtain ⟨fp, rp, h1, h2, h3, h4⟩ := vx.nodes
    obtain ⟨a, vs, rfl, hH, rs⟩ := rp.tuple
    obtain ⟨v', fp', hv, rv, sb⟩ := atI_rep rs hd
    obtain ⟨F', own', c⟩ := come_part (pu := true) r ap hm hT h1 h2 h3 h4 rv sb
    exact ix_tup value slice pins s σ H _ _ u w Q I rx ry ⟨a, vs, _, v', rfl, rfl, hH, hv, q _ _ _ _ _ c⟩ hs
  · rename_i t f i
    split at hz
    · rename_i hl
      obtain ⟨c, hc, rfl⟩ := Option.map_eq_some_iff.mp hz
      cases vy.int
      cases vx.str
      exact ix_str value slice pins s σ H _ _ u w Q I rx ry ⟨_, _, c, rfl, rfl, hl, hc, q _ _ _ _ _ (.atom r (.str _))⟩ hs
    · cases hz
  · rename_i kvs f k
    split at hz
    · rename_i hk
      obtain ⟨d, hd, rfl⟩ := Option.map_eq_some_iff.mp hz
      obtain ⟨k', e'⟩ := isKey_of hk
      subst e'
      obtain ⟨fpy, rpy, _⟩ := vy.rep
      obtain rfl := rep_key rpy
      obtain ⟨fp, rp, h1, h2, h3, h4⟩ := vx.nodes
      obtain ⟨a, ks, g, rfl, hH, rk, rfl⟩ := rp.dict
      cases rx
      rcases getK_rep k' rk with ⟨z1, _⟩ | ⟨d', v', f', z1, z2, rv, sb⟩
      · rw [hd] at z1; cases z1
      · rw [hd] at z1
        cases z1
        obtain ⟨F', own', c⟩ := come_part (pu := true) r ap hm hT h1 h2 h3 h4 rv (sb.cons a)
        have g : DGet H a (kV k') (some v') := by rw [← z2]; exact .k hH
        exact tail_any (dict_typeIs I g) PySem.F.slot_dict_getitem.lookup (d_getItem (by omega) I g ry fun w' s' I' rw' => ⟨v', H, I', rw', q _ _ _ _ _ c⟩) hs
    · cases hz
  · cases hz

/-! ### slices -/
theorem Reps.cut {K : PySem.W.Frag} {vs : List V} {ds : List D} {fp : List Addr} (h : Reps K H vs ds fp) (lo hi : Option Int) : ∃ g, Reps K H (cutV vs lo hi) (cutD ds lo hi) g ∧ g.Sublist fp := by
  unfold cutV cutD
  rw [h.length]
  obtain ⟨g1, r1, s1⟩ := h.drop (HT.sIx ds.length 0 lo)
  obtain ⟨g2, r2, s2⟩ := r1.take (HT.sIx ds.length ds.length hi - HT.sIx ds.length 0 lo)
  exact ⟨g2, r2, s2.trans s1⟩
/-- a new list of some of the items of a list at hand -/
theorem list_part {pu : Bool} {xv : V} {xs ds : List D} {ys vs : List V} {a : Addr} {g g' o1 : List Addr} {f f' : Fl} (r : Rel X.K F O H σ e) (hT : ∀ b ∈ o1, b ∈ T) (ap : Apart F O T) (hm : ∀ b ∈ T, Mut (H b))
    (c1 : ∀ b ∈ g, F b ∨ b ∈ o1) (c2 : f' = .deep → (∀ b ∈ g, b ∈ o1) ∧ g.Nodup) (rp : Reps X.K H vs ds g') (sb : (∀ b ∈ g', b ∈ g) ∧ (g.Nodup → g'.Nodup)) (q : Give X F O T H σ e (.lst ds, if f' = .deep then .deep else .top) Q) : ∀ p, H p = none → Q (.ref p) (upd H p (.lst vs)) := fun p hp => by
  by_cases hf : f' = .deep
  · rw [if_pos hf] at q
    exact q _ _ _ _ _ (new_deep r hp rp (sb.2 (c2 hf).2) (fun b hb => hT b ((c2 hf).1 b (sb.1 b hb))) ap)
  · rw [if_neg hf] at q
    exact q _ _ _ _ _ (new_top r hp rp (fun b hb => (c1 b (sb.1 b hb)).imp id (hT b)) ap hm)
theorem sub_ok {g g' : List Addr} (h : g'.Sublist g) : (∀ b ∈ g', b ∈ g) ∧ (g.Nodup → g'.Nodup) := ⟨fun b hb => h.subset hb, fun n => h.nodup n⟩
theorem perm_ok {g g' : List Addr} (h : g'.Perm g) : (∀ b ∈ g', b ∈ g) ∧ (g.Nodup → g'.Nodup) := ⟨fun b hb => h.mem_iff.mp hb, fun n => h.nodup_iff.mpr n⟩
/-- a tuple of some of the items of a tuple at hand, wherever it is -/
theorem tup_part {pu : Bool} {v' : V} {H1 : Hp} {ds : List D} {x : Vl} {fp g' o1 : List Addr} (r : Rel X.K F O H σ e) (hT : ∀ b ∈ o1, b ∈ T) (ap : Apart F O T) (hm : ∀ b ∈ T, Mut (H b))
    (h1 : x.2 = .deep → o1 = fp ∧ fp.Nodup) (h2 : x.2 = .top → ∀ b ∈ fp, F b ∨ b ∈ o1) (h3 : x.2 = .fro → ∀ b ∈ fp, F b) (h4 : x.2 = .bor → ∀ b ∈ fp, F b ∨ O b)
    (same : ∀ b o, H b = some o → H1 b = some o) (rp : Rep X.K H1 v' (.tup ds) g') (sb : (∀ b ∈ g', b ∈ fp) ∧ (fp.Nodup → g'.Nodup)) (q : Give X F O T H σ e (.tup ds, if x.2 = .deep then .deep else if x.2 = .bor then .bor else .fro) Q) : Q v' H1 := by
  obtain ⟨dx, f⟩ := x
  cases f with
  | deep =>
    obtain ⟨rfl, nd⟩ := h1 rfl
    exact q _ _ _ _ _ (tup_deep same r rp (sb.2 nd) (fun b hb => hT b (sb.1 b hb)) ap)
  | top => exact q _ _ _ _ _ (tup_fro same r rp (fun b hb => (h2 rfl b (sb.1 b hb)).imp id (hT b)) ap hm)
  | fro => exact q _ _ _ _ _ (tup_fro same r rp (fun b hb => .inl (h3 rfl b (sb.1 b hb))) ap hm)
  | bor => exact q _ _ _ _ _ (tup_bor same r rp fun b hb => h4 rfl b (sb.1 b hb))
theorem slS_ok {xv : V} {x z : Vl} {o1 : List Addr} {lo hi : Option Int} {vl vu : Value} {sl : Addr} (I : Inv X pins σ H s) (rx : RelV xv u) (r : Rel X.K F O H σ e) (vx : Val X.K F O H xv x o1) (hT : ∀ b ∈ o1, b ∈ T)
    (ap : Apart F O T) (hm : ∀ b ∈ T, Mut (H b)) (hz : slS x lo hi = some z) (q : Give X F O T H σ e z Q) (hs : s.heap.IsSliceOf sl vl vu .none) (pl : IsPart vl lo) (pu : IsPart vu hi) :
    ∃ T id, typeLookup (.type T) "__getitem__" = pure (some (.builtin id)) ∧ s.TypeIs u T ∧ wpAny (model X.prog X.w) X.A (getItem u (.ref sl)) (EP X pins σ Q) X.xe s := by
  unfold slS at hz
  split at hz
  · rename_i xs f
    cases hz
    obtain ⟨fp, rp, _⟩ := vx.rep
    obtain ⟨a, vs, rfl, hH, rs, rfl⟩ := rp.script
    obtain ⟨g, rc, sb⟩ := rs.cut lo hi
    have : g = [] := List.sublist_nil.mp sb
    subst this
    refine sl_list pins s σ H _ u vl vu lo hi sl Q I rx hs pl pu ⟨a, vs, rfl, hH, fun p hp => ?_⟩
    by_cases hf : noMuts xs = true
    · rw [if_pos hf] at q
      exact q _ _ _ _ _ (new_deep r hp rc .nil (fun _ h => nomatch h) ap)
    · rw [if_neg hf] at q
      exact q _ _ _ _ _ (new_top r hp rc (fun _ h => nomatch h) ap hm)
  · rename_i xs f
    obtain ⟨f', hf, rfl⟩ := Option.map_eq_some_iff.mp hz
    obtain ⟨a, vs, g, rfl, hH, rp, c1, c2, _⟩ := vx.items hf
    obtain ⟨g', rc, sb⟩ := rp.cut lo hi
    exact sl_list pins s σ H _ u vl vu lo hi sl Q I rx hs pl pu ⟨a, vs, rfl, .of hH, list_part (xv := .non) (xs := []) (ys := []) (a := a) (f := f) (pu := true) r hT ap hm c1 c2 rc (sub_ok sb) q⟩
  · rename_i xs f
    cases hz
    obtain ⟨fp, rp, h1, h2, h3, h4⟩ := vx.nodes
    obtain ⟨a, vs, rfl, hH, rs⟩ := rp.tuple
    obtain ⟨g', rc, sb⟩ := rs.cut lo hi
    refine sl_tupA pins s σ H _ u vl vu lo hi sl Q I rx hs pl pu ⟨a, vs, rfl, hH, fun hw => ?_, fun _ p hp => ?_⟩
    · have ev : cutV vs lo hi = vs := by unfold cutV; rw [hw.1, hw.2]; simp
      rw [ev] at rc
      exact tup_part (pu := true) r hT ap hm h1 h2 h3 h4 (fun _ _ h => h) (.tup hH rc) (sub_ok sb) q
    · exact tup_part (pu := true) r hT ap hm h1 h2 h3 h4 (upd_more hp) (.tup (.of upd_same) (reps_upd rc hp)) (sub_ok sb) q
  · cases hz

/-! ### xs[::-1] -/
theorem getItem_tuple_rev {prog : Program} {w : World} {A : Around} {E : Value → Shared → Prop} {s : Shared} {t sl : Addr} {items : Array Value} {vl vu vs : Value} {Q : Value → Shared → Prop} (ht : PyProof.Rows.IsTup s.heap t items) (hs : s.heap.IsSliceOf sl vl vu vs) (pl : IsPart vl none) (pu : IsPart vu none) (ps : IsPart vs (some (-1)))
    (h : Q (.ref s.heap.objs.size) { s with heap := s.heap.push { cls := .type "tuple", data := .seq items.toList.reverse.toArray } })
    (hsz : items.size ≤ sizeLine) : wpAny (model prog w) A (getItem (.ref t) (.ref sl)) Q E s := by
  have htake : sizeOk (.seq items.toList.reverse.toArray) := by
    show items.toList.reverse.toArray.size ≤ sizeLine
    rw [List.size_toArray, List.length_reverse, Array.length_toList]
    exact hsz
  obtain ⟨os, hos, hcs, hds⟩ := id hs
  have hTs : s.TypeIs (.ref sl) "slice" := ⟨os, hos, hcs⟩
  have hadj : Builtin.Slice.sliceAdjust none none (-1) (items.size : Int) = ((items.size : Int) - 1, -1) := by
    unfold Builtin.Slice.sliceAdjust
    simp
  have hpl : Builtin.Slice.slicePlaces ((items.size : Int) - 1) (-1) (-1) = items.size := by
    unfold Builtin.Slice.slicePlaces
    simp
    try omega
  have hap : ∀ {A : Around} {Q : Int × Int × Nat → Shared → Prop}, Q ((items.size : Int) - 1, -1, items.size) s → wpAny (model prog w) A (Builtin.Slice.sliceApplied (.ref sl) (pure (items.size : Int))) Q E s := fun {A} {Q} h => by
    unfold Builtin.Slice.sliceApplied Builtin.Slice.sliceFields
    refine wpAny_bind (wpAny_bind (wpAny_field hos hds (x := vl) rfl (wpAny_bind (wpAny_field hos hds (x := vu) rfl (wpAny_bind (wpAny_field hos hds (x := vs) rfl (wpAny_pure ?_)))))))
    refine wpAny_bind (HT.slicePart_ ps ?_)
    show wpAny _ _ (if ((-1 : Int) == 0) = true then _ else _) _ _ s
    rw [if_neg (by decide)]
    refine wpAny_bind (HT.slicePart_ pl (wpAny_bind (HT.slicePart_ pu (wpAny_bind (wpAny_pure ?_)))))
    show wpAny _ _ (match Builtin.Slice.sliceAdjust none none (-1) (items.size : Int) with | (lo, hi) => pure (lo, (-1 : Int), Builtin.Slice.slicePlaces lo hi (-1))) _ _ s
    rw [hadj]
    show wpAny _ _ (pure ((items.size : Int) - 1, (-1 : Int), Builtin.Slice.slicePlaces ((items.size : Int) - 1) (-1) (-1))) _ _ s
    rw [hpl]
    exact wpAny_pure h
  unfold getItem
  try with_reducible refine wpAny_holding ?_
  first | refine wpAny_bind (wpAny_pure ?_) | skip
  refine wpAny_bind (wpAny_sequenceKey ht.typeIs (by decide) ?_)
  refine wpAny_bind (wpAny_callSpecial?_slot (name := Str.ofString "__getitem__") ht.typeIs PyProof.Rows.slot_tuple_getitem
    (wpAny_call_entry PyProof.Rows.slot_tuple_getitem ht.typeIs entry_tuple_getitem ?_ (args_tuple_getitem _ _)))
  show wpAny _ _ (Builtin.Tuple.tupleItemsOf (.ref t) >>= _) _ _ s
  refine wpAny_bind (tupleItemsOf_ ht ?_)
  refine wpAny_bind (wpAny_typeOf hTs ?_)
  rw [if_pos (by decide)]
  refine wpAny_bind (hap ?_)
  have hno : ¬ ((((items.size : Int) - 1 == 0) && ((-1 : Int) == 1) && (items.size == items.size)) = true) := by
    simp
  show wpAny _ _ (if (((items.size : Int) - 1 == 0) && ((-1 : Int) == 1) && (items.size == items.size)) = true then _ else _) _ _ s
  rw [if_neg hno]
  have hpick : ((List.range items.size).filterMap fun (m : Nat) => items[(((items.size : Int) - 1) + (m : Int) * (-1)).toNat]?).toArray = items.toList.reverse.toArray := by
    congr 1
    apply List.ext_getElem?
    intro k
    have e1 : ∀ n, n ≤ items.size → ((List.range n).filterMap fun (m : Nat) => items[(((items.size : Int) - 1) + (m : Int) * (-1)).toNat]?) = (items.toList.reverse.take n) := by
      intro n
      induction n with
      | zero => intro _; rfl
      | succ n ih =>
        intro hn
        rw [List.range_succ, List.filterMap_append, ih (by omega)]
        have hk : (((items.size : Int) - 1) + (n : Int) * (-1)).toNat = items.size - 1 - n := by omega
        have hlt : items.size - 1 - n < items.size := by omega
        simp only [List.filterMap_cons, List.filterMap_nil, hk, Array.getElem?_eq_getElem hlt]
        rw [List.take_add_one]
        congr 1
        rw [List.getElem?_reverse (by simp; omega)]
        simp [hlt]
    rw [e1 items.size (Nat.le_refl _), List.take_of_length_le (by simp)]
  rw [hpick]
  first
    | exact wpAny_bind (m := Builtin.Tuple.tupleExact _) (wpAny_newObj_type (wpAny_pure ⟨_, rfl, wpAny_pure h⟩) htake)
    | exact wpAny_bind (m := Builtin.Tuple.tupleExact _) (wpAny_newObj_type (wpAny_bind (wpAny_pure (wpAny_pure ⟨_, rfl, wpAny_pure h⟩))) htake)
    | exact wpAny_bind (wpAny_bind (m := Builtin.Tuple.tupleExact _) (wpAny_newObj_type (wpAny_pure (wpAny_pure ⟨_, rfl, wpAny_pure h⟩)) htake))
    | exact wpAny_bind (wpAny_bind (m := Builtin.Tuple.tupleExact _) (wpAny_newObj_type (wpAny_pure ⟨_, rfl, wpAny_pure h⟩) htake))
theorem revS_ok {xv : V} {x z : Vl} {o1 : List Addr} {vl vu vs : Value} {sl : Addr} (I : Inv X pins σ H s) (rx : RelV xv u) (r : Rel X.K F O H σ e) (vx : Val X.K F O H xv x o1) (hT : ∀ b ∈ o1, b ∈ T)
    (ap : Apart F O T) (hm : ∀ b ∈ T, Mut (H b)) (hz : revS x = some z) (q : Give X F O T H σ e z Q) (hs : s.heap.IsSliceOf sl vl vu vs) (pl : IsPart vl none) (pu : IsPart vu none) (ps : IsPart vs (some (-1))) :
    ∃ T id, typeLookup (.type T) "__getitem__" = pure (some (.builtin id)) ∧ s.TypeIs u T ∧ wpAny (model X.prog X.w) X.A (getItem u (.ref sl)) (EP X pins σ Q) X.xe s := by
  unfold revS at hz
  split at hz
  · rename_i xs f
    obtain ⟨f', hf, rfl⟩ := Option.map_eq_some_iff.mp hz
    obtain ⟨a, vs', g, rfl, hH, rp, c1, c2, _⟩ := vx.items hf
    obtain ⟨g', rc, sb⟩ := rp.reverse
    cases rx
    obtain ⟨its, rr, ht, hsz⟩ := I.list (.of hH)
    have hlen := rr.length
    refine ⟨"list", _, PySem.slot_list_getitem.lookup, ht.isList.typeIs, ?_⟩
    refine wpAny_getItem_list_slice ht.isList hs pl pu ps (by decide) ?_ (by rw [List.size_toArray]; omega)
    rw [PySem.W.krv_pick]
    refine ⟨.ref _, _, I.laid (t' := s.toks) (o := .lst vs'.reverse) (fun b ob q => Heap.get?_push_of_some _ q) (Nat.le_refl _) ?_, rfl, list_part (xv := .non) (xs := []) (ys := []) (a := a) (f := f) (pu := true) r hT ap hm c1 c2 rc (perm_ok sb) q _ (I.hok.fresh (Nat.le_refl _))⟩
    exact ⟨by rw [List.length_reverse]; exact hsz, _, 0, rr.reverse, Heap.get?_push_size _ rfl⟩
  · rename_i xs f
    cases hz
    obtain ⟨fp, rp, h1, h2, h3, h4⟩ := vx.nodes
    obtain ⟨a, vs', rfl, hH, rs⟩ := rp.tuple
    obtain ⟨g', rc, sb⟩ := rs.reverse
    cases rx
    obtain ⟨its, rr, ht, hsz⟩ := I.tuple hH
    have hlen := rr.length
    refine ⟨"tuple", _, PyProof.Rows.slot_tuple_getitem.lookup, ht.typeIs, ?_⟩
    refine getItem_tuple_rev ht hs pl pu ps ?_ (by rw [List.size_toArray]; omega)
    have hp := I.hok.fresh (Nat.le_refl s.heap.objs.size)
    refine ⟨.ref s.heap.objs.size, _, I.laid (t' := s.toks) (o := .tup vs'.reverse) (fun b ob q => Heap.get?_push_of_some _ q) (Nat.le_refl _) ?_, rfl, tup_part (pu := true) r hT ap hm h1 h2 h3 h4 (upd_more hp) (.tup (.of upd_same) (reps_upd rc hp)) (perm_ok sb) q⟩
    exact ⟨by rw [List.length_reverse]; exact hsz, _, rr.reverse, PyProof.Rows.IsTup.new _ _⟩
  · cases hz
end
end Ev

/-! Ev7: the builtins by values. -/
namespace Ev
open PySem PySem.Spec PyProof.Rows L2

/-! ### lists of ints, of truth values -/
theorem intsOf_some : ∀ {ds : List D} {ns : List Int}, intsOf ds = some ns → ds = ns.map D.int
  | [], ns, h => by cases h; rfl
  | .int i :: r, ns, h => by
    obtain ⟨ms, h1, rfl⟩ := Option.map_eq_some_iff.mp (show (intsOf r).map (i :: ·) = some ns from h)
    rw [intsOf_some h1]; rfl
  | .non :: _, _, h => nomatch h
  | .bl _ :: _, _, h => nomatch h
  | .str _ :: _, _, h => nomatch h
  | .tup _ :: _, _, h => nomatch h
  | .lst _ :: _, _, h => nomatch h
  | .scr _ :: _, _, h => nomatch h
  | .dic _ :: _, _, h => nomatch h
  | .set _ :: _, _, h => nomatch h
  | .obj _ _ :: _, _, h => nomatch h
theorem blsOf_some : ∀ {ds : List D} {ns : List Bool}, blsOf ds = some ns → ds = ns.map D.bl
  | [], ns, h => by cases h; rfl
  | .bl i :: r, ns, h => by
    obtain ⟨ms, h1, rfl⟩ := Option.map_eq_some_iff.mp (show (blsOf r).map (i :: ·) = some ns from h)
    rw [blsOf_some h1]; rfl
  | .non :: _, _, h => nomatch h
  | .int _ :: _, _, h => nomatch h
  | .str _ :: _, _, h => nomatch h
  | .tup _ :: _, _, h => nomatch h
  | .lst _ :: _, _, h => nomatch h
  | .scr _ :: _, _, h => nomatch h
  | .dic _ :: _, _, h => nomatch h
  | .set _ :: _, _, h => nomatch h
  | .obj _ _ :: _, _, h => nomatch h
section
variable {K : PySem.W.Frag} {H : Hp}
theorem Reps.ints_v : ∀ {ns : List Int} {vs : List V} {g : List Addr}, Reps K H vs (ns.map D.int) g → vs = ns.map V.int ∧ g = []
  | [], _, _, .nil => ⟨rfl, rfl⟩
  | n :: ns, _, _, .cons x r => by
    obtain ⟨h1, h2⟩ := r.ints_v
    obtain ⟨h3, h4⟩ := x.int_v
    subst h1 h2 h3 h4
    exact ⟨rfl, rfl⟩
theorem Reps.bls_v : ∀ {ns : List Bool} {vs : List V} {g : List Addr}, Reps K H vs (ns.map D.bl) g → vs = ns.map V.bl ∧ g = []
  | [], _, _, .nil => ⟨rfl, rfl⟩
  | n :: ns, _, _, .cons x r => by
    obtain ⟨h1, h2⟩ := r.bls_v
    obtain ⟨h3, h4⟩ := x.bl_v
    subst h1 h2 h3 h4
    exact ⟨rfl, rfl⟩
end
theorem sortI_of {ns ns' : List Int} (p : ns'.Perm ns) (s : ns'.Pairwise (· ≤ ·)) : ns' = sortI ns := by
  unfold sortI
  refine List.Perm.eq_of_pairwise (le := (· ≤ ·)) (fun a b _ _ h1 h2 => Int.le_antisymm h1 h2) s ?_ (p.trans (List.mergeSort_perm ns _).symm)
  have := List.pairwise_mergeSort (le := fun a b : Int => decide (a ≤ b)) (fun a b c h1 h2 => by simp at *; omega) (fun a b => by simp; omega) ns
  exact this.imp fun h => by simpa using h

section
variable {K : PySem.W.Frag} {F O : AP'} {T : List Addr} {H : Hp} {v : V} {x : Vl} {own : List Addr} {σ : L2.St} {e : En}
theorem come_self {pu : Bool} (r : Rel K F O H σ e) (ap : Apart F O T) (hT : ∀ b ∈ own, b ∈ T) (h : Val K F O H v x own) : Come K F O T H σ pu x e v F O H own :=
  ⟨.refl, fun _ => .refl, r, h, ⟨fun b hb => ap.nf b (hT b hb), fun b hb => ap.no b (hT b hb)⟩, fun b hb => .inr (.inl (hT b hb))⟩
end

/-! ### the builtins -/
def biN : Bi → String
  | .len => "len" | .abs => "abs" | .int => "int" | .min2 => "min" | .max2 => "max" | .sum => "sum" | .sorted => "sorted" | .list => "list" | .tuple => "tuple"
  | .all => "all" | .any => "any" | .mins => "min" | .maxs => "max"
def biF : Bi → Value
  | .int => .type "int" | .list => .type "list" | .tuple => .type "tuple"
  | b => .builtin (biN b)
theorem bi_boot (b : Bi) : bootBuiltins (Str.ofString (biN b)) = some (biF b) := by cases b <;> decide +kernel
section
variable {X : Cx} {pins : List (Addr × Obj)} {s : Shared} {σ : L2.St} {H : Hp} {Q : VK} {u w : Value} {F O : AP'} {e : En} {T : List Addr}
theorem one_of {ts : List Tmp} {x : Vl} (h : ts.map (·.x) = [x]) : ∃ t, ts = [t] ∧ t.x = x := by
  cases ts with
  | nil => cases h
  | cons t ts =>
    cases ts with
    | nil => exact ⟨t, rfl, List.cons.inj h |>.1⟩
    | cons _ _ => cases h
theorem two_of {ts : List Tmp} {x y : Vl} (h : ts.map (·.x) = [x, y]) : ∃ t t', ts = [t, t'] ∧ t.x = x ∧ t'.x = y := by
  cases ts with
  | nil => cases h
  | cons t ts =>
    cases ts with
    | nil => cases h
    | cons t' ts =>
      cases ts with
      | nil =>
        have h' : t.x = x ∧ t'.x = y := by simpa using h
        exact ⟨t, t', rfl, h'.1, h'.2⟩
      | cons _ _ => cases h
theorem Temps.at1 {K : PySem.W.Frag} {t : Tmp} {x : Vl} (h : Temps K F O H [t]) (e : t.x = x) : Val K F O H t.v x t.own := by
  subst e; exact h.val t List.mem_cons_self
theorem biS_ok {b : Bi} {ts : List Tmp} {us : List Value} {z : Vl} (hc : X.calm = true) (I : Inv X pins σ H s) (ru : Vals (ts.map (·.v)) us) (r : Rel X.K F O H σ e) (tm : Temps X.K F O H ts)
    (hz : biS b (ts.map (·.x)) = some z) (q : Give X F O (tOwn ts) H σ e z Q) : wpAny (model X.prog X.w) X.A (call (biF b) us) (EP X pins σ Q) X.xe s := by
  have ap := tm.ap
  have hm := tm.mut
  have atom : ∀ {d : D} {v : V}, z = (d, .deep) → Rep X.K H v d [] → Q v H := fun {d v} ez h => by subst ez; exact q _ _ _ _ _ (.atom r h)
  unfold biS at hz
  split at hz
  · rename_i xs heq
    cases hz
    obtain ⟨t, rfl, hx⟩ := one_of heq
    obtain ⟨a, vs, g, ev, hH, rs, _⟩ := (tm.at1 hx).list
    exact call_len_seq pins s σ H _ us Q I ru ⟨a, vs, by show [t.v] = _; rw [ev], .inl (.of hH), atom rfl (by rw [rs.length]; exact .int _)⟩
  · rename_i xs heq
    cases hz
    obtain ⟨t, rfl, hx⟩ := one_of heq
    obtain ⟨a, vs, g, ev, hH, rs, _⟩ := (tm.at1 hx).tuple
    exact call_len_seq pins s σ H _ us Q I ru ⟨a, vs, by show [t.v] = _; rw [ev], .inr hH, atom rfl (by rw [rs.length]; exact .int _)⟩
  · rename_i xs heq
    cases hz
    obtain ⟨t, rfl, hx⟩ := one_of heq
    obtain ⟨fp, rp, _⟩ := (tm.at1 hx).rep
    obtain ⟨a, vs, ev, hH, rs, _⟩ := rp.script
    exact call_len_seq pins s σ H _ us Q I ru ⟨a, vs, by show [t.v] = _; rw [ev], .inl hH, atom rfl (by rw [rs.length]; exact .int _)⟩
  · rename_i y heq
    split at hz
    · rename_i hl
      cases hz
      obtain ⟨t, rfl, hx⟩ := one_of heq
      have ev := (tm.at1 hx).str
      exact call_len_str pins s σ H _ us Q I ru ⟨_, by show [t.v] = _; rw [ev], hl, atom rfl (.int _)⟩
    · cases hz
  · rename_i kvs heq
    cases hz
    obtain ⟨t, rfl, hx⟩ := one_of heq
    obtain ⟨fp, rp, _⟩ := (tm.at1 hx).rep
    obtain ⟨a, ks, g, ev, hH, rk, _⟩ := rp.dict
    obtain ⟨u, rfl, ru'⟩ := vals1 ru
    have ru' : RelV t.v u := ru'
    rw [ev] at ru'
    cases ru'
    exact d_len I (.inl hH) fun t s' I' => ⟨.int ks.length, H, I', ⟨t, rfl⟩, atom rfl (by rw [rk.length]; exact .int _)⟩
  · rename_i i heq
    cases hz
    obtain ⟨t, rfl, hx⟩ := one_of heq
    have ev := (tm.at1 hx).int
    exact call_abs pins s σ H _ us Q I ru ⟨_, by show [t.v] = _; rw [ev], atom rfl (.int _)⟩
  · rename_i i heq
    cases hz
    obtain ⟨t, rfl, hx⟩ := one_of heq
    have ev := (tm.at1 hx).int
    exact call_int1 pins s σ H _ us Q I ru (.inl ⟨_, by show [t.v] = _; rw [ev], atom rfl (.int _)⟩)
  · rename_i i _ j _ heq
    cases hz
    obtain ⟨t, t', rfl, hx, hx'⟩ := two_of heq
    have v1 := tm.val t List.mem_cons_self
    have v2 := tm.val t' (List.mem_cons_of_mem _ List.mem_cons_self)
    rw [hx] at v1; rw [hx'] at v2
    exact call_min2 hc pins s σ H _ us Q I ru ⟨i, j, by show [t.v, t'.v] = _; rw [v1.int, v2.int], atom rfl (.int _)⟩
  · rename_i i _ j _ heq
    cases hz
    obtain ⟨t, t', rfl, hx, hx'⟩ := two_of heq
    have v1 := tm.val t List.mem_cons_self
    have v2 := tm.val t' (List.mem_cons_of_mem _ List.mem_cons_self)
    rw [hx] at v1; rw [hx'] at v2
    exact call_max2 hc pins s σ H _ us Q I ru ⟨i, j, by show [t.v, t'.v] = _; rw [v1.int, v2.int], atom rfl (.int _)⟩
  · rename_i xs f heq
    obtain ⟨ns, hn, rfl⟩ := Option.map_eq_some_iff.mp hz
    obtain rfl := intsOf_some hn
    obtain ⟨t, rfl, hx⟩ := one_of heq
    obtain ⟨a, vs, g, ev, hH, rs, _⟩ := (tm.at1 hx).list
    obtain ⟨rfl, _⟩ := rs.ints_v
    exact cr_sum hc pins s σ H _ us Q I ru ⟨a, ns, by show [t.v] = _; rw [ev], .of hH, atom rfl (.int _)⟩
  · rename_i xs f heq
    obtain ⟨ns, hn, rfl⟩ := Option.map_eq_some_iff.mp hz
    obtain rfl := intsOf_some hn
    obtain ⟨t, rfl, hx⟩ := one_of heq
    obtain ⟨a, vs, g, ev, hH, rs, _⟩ := (tm.at1 hx).list
    obtain ⟨rfl, _⟩ := rs.ints_v
    refine cr_sortedI pins s σ H _ us Q I ru ⟨a, ns, by show [t.v] = _; rw [ev], .of hH, fun ns' p h1 h2 hp => ?_⟩
    obtain rfl := sortI_of h1 h2
    exact q _ _ _ _ _ (new_deep r hp (Reps.ints _) .nil (fun _ h => nomatch h) ap)
  · rename_i xs f heq
    obtain ⟨f', hf, rfl⟩ := Option.map_eq_some_iff.mp hz
    obtain ⟨t, rfl, hx⟩ := one_of heq
    obtain ⟨a, vs, g, ev, hH, rs, c1, c2, _⟩ := (tm.at1 hx).items hf
    refine call_list_of pins s σ H _ us Q I ru ⟨a, vs, by show [t.v] = _; rw [ev], .inl (.of hH), ?_⟩
    exact list_part (xv := .non) (xs := []) (ys := []) (a := a) (f := f) (pu := true) r (fun b hb => mem_tOwn.mpr ⟨t, List.mem_cons_self, hb⟩) ap hm c1 c2 rs ⟨fun _ h => h, fun h => h⟩ q
  · rename_i xs f heq
    obtain ⟨f', hf, rfl⟩ := Option.map_eq_some_iff.mp hz
    obtain ⟨t, rfl, hx⟩ := one_of heq
    obtain ⟨a, vs, g, ev, hH, rs, c1, c2, _⟩ := (tm.at1 hx).itemsT hf
    refine call_list_of pins s σ H _ us Q I ru ⟨a, vs, by show [t.v] = _; rw [ev], .inr hH, ?_⟩
    exact list_part (xv := .non) (xs := []) (ys := []) (a := a) (f := f) (pu := true) r (fun b hb => mem_tOwn.mpr ⟨t, List.mem_cons_self, hb⟩) ap hm c1 c2 rs ⟨fun _ h => h, fun h => h⟩ q
  · rename_i xs f heq
    obtain ⟨f', hf, rfl⟩ := Option.map_eq_some_iff.mp hz
    obtain ⟨t, rfl, hx⟩ := one_of heq
    obtain ⟨a, vs, g, ev, hH, rs, c1, c2, _⟩ := (tm.at1 hx).items hf
    have hT : ∀ b ∈ t.own, b ∈ tOwn [t] := fun b hb => mem_tOwn.mpr ⟨t, List.mem_cons_self, hb⟩
    refine call_tuple_of pins s σ H _ us Q I ru ⟨a, vs, by show [t.v] = _; rw [ev], .inl ⟨.of hH, fun l hl => ?_⟩⟩
    have rep := Rep.tup (K := X.K) (H := upd H l (.tup vs)) (.of upd_same) (reps_upd rs hl)
    by_cases hf' : f' = .deep
    · rw [if_pos hf'] at q
      exact q _ _ _ _ _ (tup_deep (upd_more hl) r rep (c2 hf').2 (fun b hb => hT b ((c2 hf').1 b hb)) ap)
    · rw [if_neg hf'] at q
      exact q _ _ _ _ _ (tup_fro (upd_more hl) r rep (fun b hb => (c1 b hb).imp id (hT b)) ap hm)
  · rename_i xs f heq
    cases hz
    obtain ⟨t, rfl, hx⟩ := one_of heq
    have va := tm.at1 hx
    obtain ⟨a, vs, g, ev, hH, rs, _⟩ := va.tuple
    refine call_tuple_of pins s σ H _ us Q I ru ⟨a, vs, by show [t.v] = _; rw [ev], .inr ⟨hH, ?_⟩⟩
    rw [ev] at va
    exact q _ _ _ _ _ (come_self r ap (fun b hb => mem_tOwn.mpr ⟨t, List.mem_cons_self, hb⟩) va)
  · rename_i xs f heq
    obtain ⟨bs, hn, rfl⟩ := Option.map_eq_some_iff.mp hz
    obtain rfl := blsOf_some hn
    obtain ⟨t, rfl, hx⟩ := one_of heq
    obtain ⟨a, vs, g, ev, hH, rs, _⟩ := (tm.at1 hx).list
    obtain ⟨rfl, _⟩ := rs.bls_v
    exact cr_all hc pins s σ H _ us Q I ru ⟨a, bs, by show [t.v] = _; rw [ev], .of hH, atom rfl (.bl _)⟩
  · rename_i xs f heq
    obtain ⟨bs, hn, rfl⟩ := Option.map_eq_some_iff.mp hz
    obtain rfl := blsOf_some hn
    obtain ⟨t, rfl, hx⟩ := one_of heq
    obtain ⟨a, vs, g, ev, hH, rs, _⟩ := (tm.at1 hx).list
    obtain ⟨rfl, _⟩ := rs.bls_v
    exact cr_any hc pins s σ H _ us Q I ru ⟨a, bs, by show [t.v] = _; rw [ev], .of hH, atom rfl (.bl _)⟩
  · cases hz

/-! ### isinstance -/
def tyN : Ty → String
  | .bool => "bool" | .int => "int" | .str => "str" | .tuple => "tuple" | .list => "list" | .dict => "dict" | .non => "NoneType"
theorem ty_boot (t : Ty) (h : t ≠ .non) : bootBuiltins (Str.ofString (tyN t)) = some (.type (tyN t)) := by cases t <;> first | (exact absurd rfl h) | decide +kernel
def dTy : D → Option Ty
  | .non => some .non | .bl _ => some .bool | .int _ => some .int | .str _ => some .str | .tup _ => some .tuple | .lst _ => some .list | .dic _ => some .dict
  | _ => none
theorem kit_all (a b : Ty) : b ≠ .non → kitB (tyN a) (tyN b) = some (decide (a = b) || decide (a = .bool ∧ b = .int)) := by
  cases a <;> cases b <;> first | (intro h; exact absurd rfl h) | (intro _; decide +kernel)
theorem tyX_of {K : PySem.W.Frag} {v : V} {d : D} {t : Ty} {fp : List Addr} (h : Rep K H v d fp) (e : dTy d = some t) : TyX K H v (.type (tyN t)) := by
  cases h with
  | non => cases e; exact .base .non
  | bl b => cases e; exact .base (.bl b)
  | int b => cases e; exact .base (.int b)
  | str b => cases e; exact .base (.str b)
  | tup h r =>
    cases e
    rcases h with (h | ⟨o, h⟩) | ⟨o, its, n, h1, h2, _⟩
    · exact .base (.tup h)
    · exact .fTuple h
    · exact .kTuple h1 h2
  | lst h r => cases e; exact .base (.lst h)
  | scr h r => cases e
  | dic h r => cases e; exact .base (.dK h)
theorem tyS_ok {xv : V} {d : D} {t : Ty} {b : Bool} {fp : List Addr} (ht : t ≠ .non) (I : Inv X pins σ H s) (rx : RelV xv u) (px : Rep X.K H xv d fp) (hb : tyS d t = some b) (q : Q (.bl b) H) :
    wpAny (model X.prog X.w) X.A (call (.builtin "isinstance") [u, .type (tyN t)]) (EP X pins σ Q) X.xe s := by
  have key : ∃ a, dTy d = some a ∧ b = (decide (a = t) || decide (a = .bool ∧ t = .int)) := by
    cases d <;> first
      | (cases hb; done)
      | (refine ⟨_, rfl, ?_⟩; have hb' := (Option.some.inj hb).symm; subst hb'; cases t <;> first | (exact absurd rfl ht) | rfl)
  obtain ⟨a, h1, h2⟩ := key
  refine call_isi pins s σ H [xv, .ty (tyN t)] _ Q I (.cons rx (.cons rfl .nil)) ⟨xv, .ty (tyN t), .type (tyN a), .type (tyN t), b, rfl, .ty _, tyX_of px h1, ?_, q⟩
  rw [h2]
  exact kit_ty (kit_all a t ht)
end
end Ev

/-! Ev8: changes at a place. -/
namespace Ev
open PySem PySem.Spec PyProof.Rows L2

structure Chg (K : PySem.W.Frag) (F : AP') (T ownY : List Addr) (H : Hp) (v : V) (y' : Vl) (vb : V) (b : Vl) (F1 : AP') (H1 : Hp) (ownY' ownB : List Addr) : Prop where
  only : ∀ c o, H c = some o → c ∉ ownY → H1 c = some o
  fin : ∀ c, F c → F1 c
  fout : ∀ c, F1 c → F c ∨ c ∈ T ∨ c ∈ ownY
  mutF : ∀ c, F1 c → ¬ F c → Mut (H1 c)
  fl : y'.2 = .deep ∨ y'.2 = .top
  val : Val K F1 (fun _ => False) H1 v y' ownY'
  valB : Val K F1 (fun _ => False) H1 vb b ownB
  nb : b.2 ≠ .bor
  nd : (ownY' ++ ownB).Nodup
  sub : ∀ c ∈ ownY' ++ ownB, c ∈ ownY ∨ c ∈ T
  nf : ∀ c ∈ ownY' ++ ownB, ¬ F1 c

section
variable {K : PySem.W.Frag} {F F1 O O1 : AP'} {T own ownY ownB fp g g' : List Addr} {H H1 : Hp} {v v' : V} {x y y' b : Vl} {d : D} {a : Addr} {vs vs' : List V} {xs xs' : List D} {f f' : Fl}
/-- a value away from what is written -/
theorem Val.upd {o : HO} (h : Val K F O H v x own) (nb : x.2 ≠ .bor) (ha : ¬ F a) (ha' : a ∉ own) (hm : Mut (H a)) (fin : ∀ c, F c → F1 c) : Val K F1 O1 (upd H a o) v x own := by
  have im : ∀ b u, H b = some u → ¬ Mut (some u) → L2.upd H a o b = some u := fun b u e n => by
    rw [upd_ne (show b ≠ a by rintro rfl; rw [e] at hm; exact n hm)]
    exact e
  have k : ∀ {fp : List Addr}, a ∉ fp → ∀ b ∈ fp, L2.upd H a o b = H b := fun n b hb => upd_ne (by rintro rfl; exact n hb)
  obtain ⟨d, f⟩ := x
  cases f with
  | deep => exact ⟨h.1.keep im (k ha'), h.2⟩
  | top =>
    obtain ⟨c, fp, e, r, hf, rfl⟩ := h
    refine ⟨c, fp, e, r.keep im (k fun z => ?_), fun b hb => fin b (hf b hb), rfl⟩
    rcases List.mem_cons.mp z with rfl | z
    · exact ha' List.mem_cons_self
    · exact ha (hf _ z)
  | fro =>
    obtain ⟨fp, r, hf, rfl⟩ := h
    exact ⟨fp, r.keep im (k fun z => ha (hf _ z)), fun b hb => fin b (hf b hb), rfl⟩
  | bor => exact absurd rfl nb
/-- what is put elsewhere -/
theorem esc_data {x : Vl} {d : D} {f : Fl} (h : esc x = some (d, f)) : d = x.1 ∧ f ≠ .bor := by
  obtain ⟨dx, fx⟩ := x
  unfold esc at h
  by_cases hn : noMut dx = true
  · simp only [hn, if_true] at h
    cases h; exact ⟨rfl, by decide⟩
  simp only [hn] at h
  cases fx with
  | deep => cases h; exact ⟨rfl, by decide⟩
  | top => cases h; exact ⟨rfl, by decide⟩
  | fro => cases h; exact ⟨rfl, by decide⟩
  | bor => cases h
/-- the value that leaves -/
theorem esc_val {v : V} {x x' : Vl} {own : List Addr} (h : Val K F O H v x own) (he : esc x = some x') : Val K F O1 H v x' own := by
  obtain ⟨dx, fx⟩ := x
  unfold esc at he
  by_cases hn : noMut dx = true
  · simp only [hn, if_true] at he
    cases he
    cases fx with
    | deep => exact h
    | top =>
      obtain ⟨c, fp, e, r, hf, rfl⟩ := h
      exact absurd (r.noMut hn) (by simp)
    | fro =>
      obtain ⟨fp, rp, _, ho⟩ := h
      have := rp.noMut hn
      subst this ho
      exact ⟨rp, .nil⟩
    | bor =>
      obtain ⟨fp, rp, _, ho⟩ := h
      have := rp.noMut hn
      subst this ho
      exact ⟨rp, .nil⟩
  simp only [hn] at he
  cases fx with
  | deep => cases he; exact h
  | top => cases he; exact h
  | fro => cases he; exact h
  | bor => cases he
theorem keepFl_nb {f f' : Fl} (h : f' ≠ .bor) : keepFl f f' ≠ .bor := by
  unfold keepFl
  split
  · decide
  · exact h
theorem Val.rep' (h : Val K F O H v x own) : ∃ fp, Rep K H v x.1 fp := by
  obtain ⟨dx, f⟩ := x
  cases f with
  | deep => exact ⟨_, h.1⟩
  | top => obtain ⟨c, fp, e, r, _⟩ := h; exact ⟨_, r⟩
  | fro => obtain ⟨fp, r, _⟩ := h; exact ⟨_, r⟩
  | bor => obtain ⟨fp, r, _⟩ := h; exact ⟨_, r⟩
theorem Val.give (h : Val K F O H v x own) {g : Fl} (he : esc x = some (d, g)) : ∃ fp, Rep K H v d fp ∧ (∀ c ∈ fp, F c ∨ c ∈ own) ∧ (g = .deep → fp.Nodup ∧ ∀ c ∈ fp, c ∈ own) ∧ (noMut d = true → fp = []) ∧ g ≠ .bor := by
  obtain ⟨dx, f⟩ := x
  unfold esc at he
  by_cases hn : noMut dx = true
  · simp only [hn, if_true] at he
    cases he
    obtain ⟨fp, r⟩ := h.rep'
    obtain rfl := r.noMut hn
    exact ⟨[], r, (fun _ h => nomatch h), fun _ => ⟨.nil, (fun _ h => nomatch h)⟩, fun _ => rfl, by decide⟩
  simp only [hn] at he
  cases f with
  | deep =>
    cases he
    exact ⟨own, h.1, fun c hc => .inr hc, fun _ => ⟨h.2, fun c hc => hc⟩, fun n => h.1.noMut n, by decide⟩
  | top =>
    cases he
    obtain ⟨c, fp, e, r, hf, rfl⟩ := h
    refine ⟨_, r, fun b hb => ?_, (fun z => nomatch z), fun n => r.noMut n, by decide⟩
    rcases List.mem_cons.mp hb with rfl | hb
    · exact .inr List.mem_cons_self
    · exact .inl (hf b hb)
  | fro =>
    cases he
    obtain ⟨fp, r, hf, rfl⟩ := h
    exact ⟨fp, r, fun c hc => .inl (hf c hc), (fun z => nomatch z), fun n => r.noMut n, by decide⟩
  | bor => cases he
/-- a list at hand whose content is exchanged -/
theorem list_chg {vb : V} {D' : D} {o' : HO} (hH : Mut (H a)) (nF : ∀ c ∈ ownY, ¬ F c) (va : a ∈ ownY) (hg : ∀ c ∈ g', F c ∨ c ∈ ownY ∨ c ∈ T) (hag : a ∉ g') (hTF : ∀ c ∈ T, ¬ F c)
    (mg : ∀ c ∈ g', Mut (H c)) (rp : Rep K (upd H a o') (.ref a) D' (a :: g')) (hf' : f' = .deep ∨ f' = .top) (hd : f' = .deep → g'.Nodup ∧ ∀ c ∈ g', ¬ F c)
    (vB : Val K F O H vb b ownB) (nb : b.2 ≠ .bor) (aB : a ∉ ownB) (sB : ∀ c ∈ ownB, c ∈ ownY ∨ c ∈ T) (dB : ∀ c ∈ ownB, c ∉ g') :
    ∃ F1 ownY', Chg K F T ownY H (.ref a) (D', f') vb b F1 (upd H a o') ownY' ownB := by
  have only : ∀ c o, H c = some o → c ∉ ownY → upd H a o' c = some o := fun c o e n => by
    rw [upd_ne (show c ≠ a by rintro rfl; exact n va)]; exact e
  have nFB : ∀ c ∈ ownB, ¬ F c := fun c hc => (sB c hc).elim (nF c) (hTF c)
  rcases hf' with rfl | rfl
  · obtain ⟨h1, h2⟩ := hd rfl
    refine ⟨F, a :: g', only, fun _ h => h, fun _ h => .inl h, fun c h n => absurd h n, .inl rfl, ⟨rp, List.nodup_cons.mpr ⟨hag, h1⟩⟩, vB.upd nb (nF a va) aB hH fun _ h => h, nb, ?_, fun c hc => ?_, fun c hc => ?_⟩
    · rw [List.nodup_append]
      refine ⟨List.nodup_cons.mpr ⟨hag, h1⟩, vB.nodup, fun c hc c' hc' e => ?_⟩
      subst e
      rcases List.mem_cons.mp hc with rfl | hc
      · exact aB hc'
      · exact dB c hc' hc
    · rcases List.mem_append.mp hc with hc | hc
      · rcases List.mem_cons.mp hc with rfl | hc
        · exact .inl va
        · exact (hg c hc).elim (fun z => absurd z (h2 c hc)) id
      · exact sB c hc
    · rcases List.mem_append.mp hc with hc | hc
      · rcases List.mem_cons.mp hc with rfl | hc
        · exact nF _ va
        · exact h2 c hc
      · exact nFB c hc
  · refine ⟨addF F g', [a], only, fun _ h => .inl h, fun c h => h.elim .inl fun z => (hg c z).imp id .symm, fun c h n => ?_, .inr rfl, ⟨a, g', rfl, rp, fun c hc => .inr hc, rfl⟩, vB.upd nb (nF a va) aB hH fun _ h => .inl h, nb, ?_, fun c hc => ?_, fun c hc z => ?_⟩
    · rcases h with h | h
      · exact absurd h n
      · rw [upd_ne (show c ≠ a by rintro rfl; exact hag h)]
        exact mg c h
    · rw [List.nodup_append]
      refine ⟨by simp, vB.nodup, fun c hc c' hc' e => ?_⟩
      subst e
      obtain rfl := List.mem_singleton.mp hc
      exact aB hc'
    · rcases List.mem_append.mp hc with hc | hc
      · rw [List.mem_singleton.mp hc]; exact .inl va
      · exact sB c hc
    · rcases List.mem_append.mp hc with hc | hc
      · obtain rfl := List.mem_singleton.mp hc
        exact z.elim (nF _ va) hag
      · exact z.elim (nFB c hc) (dB c hc)
theorem val_non : Val K F O H .non (.non, .deep) [] := ⟨.non, .nil⟩
/-- a list that is one's own: its parts -/
theorem Val.own_list (h : Val K F O H v (.lst xs, f) own) (hf : f = .deep ∨ f = .top) (nF : ∀ c ∈ own, ¬ F c) : ∃ a vs g, v = .ref a ∧ H a = some (.lst vs) ∧ Reps K H vs xs g ∧ a ∈ own ∧ (∀ c ∈ g, F c ∨ c ∈ own) ∧ a ∉ g ∧
    (f = .deep → g.Nodup ∧ ∀ c ∈ g, c ∈ own) ∧ (f = .top → ∀ c ∈ g, F c) := by
  have nd := h.nodup
  obtain ⟨a, vs, g, e, hH, r, c1, c2, _⟩ := h.list
  rcases hf with rfl | rfl
  · obtain rfl := c1 rfl
    have n := List.nodup_cons.mp nd
    exact ⟨a, vs, g, e, hH, r, List.mem_cons_self, fun c hc => .inr (List.mem_cons_of_mem _ hc), n.1, fun _ => ⟨n.2, fun c hc => List.mem_cons_of_mem _ hc⟩, (fun z => nomatch z)⟩
  · obtain ⟨rfl, hg⟩ := c2 rfl
    exact ⟨a, vs, g, e, hH, r, List.mem_cons_self, fun c hc => .inl (hg c hc), fun z => nF a List.mem_cons_self (hg a z), (fun z => nomatch z), fun _ => hg⟩
theorem reps_write {o' : HO} (hH : Mut (H a)) (r : Reps K H vs xs g) (n : a ∉ g) : Reps K (L2.upd H a o') vs xs g :=
  r.keep (fun b o e m => by rw [upd_ne (show b ≠ a by rintro rfl; rw [e] at hH; exact m hH)]; exact e) fun b hb => upd_ne (by rintro rfl; exact n hb)
/-- the list at v, of one's own: rewritten with what it held and what is at hand -/
theorem list_chgT {vb : V} (hH : Mut (H a)) (nF : ∀ c ∈ ownY, ¬ F c) (nT : ∀ c ∈ ownY, c ∉ T) (va : a ∈ ownY) (hTF : ∀ c ∈ T, ¬ F c) (hg : ∀ c ∈ g', F c ∨ c ∈ ownY ∨ c ∈ T) (hag : a ∉ g')
    (rr : Reps K H vs' xs' g') (hf' : f' = .deep ∨ f' = .top) (hd : f' = .deep → g'.Nodup ∧ ∀ c ∈ g', ¬ F c) (vB : Val K F O H vb b ownB) (nb : b.2 ≠ .bor) (aB : a ∉ ownB) (sB : ∀ c ∈ ownB, c ∈ ownY ∨ c ∈ T) (dB : ∀ c ∈ ownB, c ∉ g') :
    ∃ F1 ownY', Chg K F T ownY H (.ref a) (.lst xs', f') vb b F1 (L2.upd H a (.lst vs')) ownY' ownB :=
  list_chg hH nF va hg hag hTF (fun c hc => rr.mut c hc) (.lst upd_same (reps_write hH rr hag)) hf' hd vB nb aB sB dB
end

section
variable {X : Cx} {pins : List (Addr × Obj)} {s : Shared} {σ : L2.St} {H : Hp} {Q : VK} {u w : Value} {F O : AP'} {e : En} {T : List Addr}
def muN : Mu → String
  | .append => "append" | .pop => "pop" | .clear => "clear" | .reverse => "reverse" | .extend => "extend" | .insert => "insert"
def muId : Mu → String
  | .append => "list.append" | .pop => "list.pop" | .clear => "list.clear" | .reverse => "list.reverse" | .extend => "list.extend" | .insert => "list.insert"
theorem flag_ite {p : Prop} [Decidable p] : (if p then Fl.deep else Fl.top) = .deep ∨ (if p then Fl.deep else Fl.top) = .top := by split <;> simp
theorem ite_deep {p : Prop} [Decidable p] (h : (if p then Fl.deep else Fl.top) = .deep) : p := by
  split at h
  · assumption
  · cases h
theorem erase_last {α : Type} (l : List α) : l.eraseIdx (l.length - 1) = l.dropLast := by
  rw [PyProof.Rows.Copied.eraseIdx_last]
/-- an item comes to a list -/
theorem put_one {K : PySem.W.Frag} {a : Addr} {vs' : List V} {xs' : List D} {g g' fp own ownY : List Addr} {f g0 : Fl} {d : D} (hH : Mut (H a)) (nF : ∀ c ∈ ownY, ¬ F c) (nT : ∀ c ∈ ownY, c ∉ T) (va : a ∈ ownY) (hTF : ∀ c ∈ T, ¬ F c)
    (hgo : ∀ c ∈ g, F c ∨ c ∈ ownY) (hag : a ∉ g) (gd : f = .deep → g.Nodup ∧ ∀ c ∈ g, c ∈ ownY) (d1 : ∀ c ∈ fp, F c ∨ c ∈ own) (d2 : g0 = .deep → fp.Nodup ∧ ∀ c ∈ fp, c ∈ own) (d3 : noMut d = true → fp = []) (hT : ∀ c ∈ own, c ∈ T)
    (rr : Reps K H vs' xs' g') (sub : g'.Sublist (g ++ fp) ∨ g'.Perm (g ++ fp) ∨ ∃ g1 f1 g2, g = g1 ++ f1 ++ g2 ∧ g' = g1 ++ fp ++ g2) :
    ∃ F1 ownY', Chg K F T ownY H (.ref a) (.lst xs', if f = .deep ∧ (g0 = .deep ∨ noMut d = true) then .deep else .top) .non (.non, .deep) F1 (L2.upd H a (.lst vs')) ownY' [] := by
  have ms : ∀ c ∈ g', c ∈ g ∨ c ∈ fp := fun c hc => by
    rcases sub with h | h | ⟨g1, f1, g2, e1, e2⟩
    · exact List.mem_append.mp (h.subset hc)
    · exact List.mem_append.mp (h.mem_iff.mp hc)
    · rw [e2] at hc
      rw [e1]
      rcases List.mem_append.mp hc with hc | hc
      · rcases List.mem_append.mp hc with hc | hc
        · exact .inl (by simp [hc])
        · exact .inr hc
      · exact .inl (by simp [hc])
  have afp : a ∉ fp := fun z => (d1 a z).elim (nF a va) fun z => nT a va (hT a z)
  refine list_chgT (O := F) hH nF nT va hTF (fun c hc => ?_) (fun z => (ms a z).elim hag afp) rr flag_ite (fun hd => ?_) val_non (by decide) (fun z => nomatch z) (fun _ z => nomatch z) (fun _ z => nomatch z)
  · rcases ms c hc with z | z
    · exact (hgo c z).imp id .inl
    · exact (d1 c z).imp id fun z => .inr (hT c z)
  · obtain ⟨h1, h2⟩ := ite_deep hd
    obtain ⟨n1, n2⟩ := gd h1
    have fpo : fp.Nodup ∧ ∀ c ∈ fp, c ∈ own := by
      rcases h2 with h2 | h2
      · exact d2 h2
      · rw [d3 h2]; exact ⟨.nil, (fun _ h => nomatch h)⟩
    have dj : ∀ c ∈ g, c ∉ fp := fun c hc z => nT c (n2 c hc) (hT c (fpo.2 c z))
    have nd : (g ++ fp).Nodup := by
      rw [List.nodup_append]
      refine ⟨n1, fpo.1, fun c hc c' hc' e => ?_⟩
      subst e
      exact dj c hc hc'
    refine ⟨?_, fun c hc => (ms c hc).elim (fun z => nF c (n2 c z)) fun z => hTF c (hT c (fpo.2 c z))⟩
    rcases sub with h | h | ⟨g1, f1, g2, e1, e2⟩
    · exact h.nodup nd
    · exact h.nodup_iff.mpr nd
    · subst e1 e2
      have p : ((g1 ++ fp) ++ g2).Perm ((g1 ++ g2) ++ fp) := by
        rw [List.append_assoc, List.append_assoc]
        exact (List.perm_append_comm).append_left g1
      rw [p.nodup_iff]
      have sb : (g1 ++ g2 ++ fp).Sublist (g1 ++ f1 ++ g2 ++ fp) := by
        refine List.Sublist.append_right ?_ fp
        rw [List.append_assoc]
        exact (List.sublist_append_right f1 g2).append_left g1
      exact sb.nodup nd
/-- an item is taken out -/
theorem take_one {K : PySem.W.Frag} {a : Addr} {vs : List V} {xs : List D} {g ownY : List Addr} {f : Fl} {d : D} {k : Nat} (hH : Mut (H a)) (nF : ∀ c ∈ ownY, ¬ F c) (nT : ∀ c ∈ ownY, c ∉ T) (va : a ∈ ownY) (hTF : ∀ c ∈ T, ¬ F c)
    (hgo : ∀ c ∈ g, F c ∨ c ∈ ownY) (hag : a ∉ g) (gd : f = .deep → g.Nodup ∧ ∀ c ∈ g, c ∈ ownY) (gt : f = .top → ∀ c ∈ g, F c) (hf : f = .deep ∨ f = .top) (rs : Reps K H vs xs g) (hk : xs[k]? = some d) :
    ∃ vb F1 ownY' ownB, vs[k]? = some vb ∧ Chg K F T ownY H (.ref a) (.lst (xs.eraseIdx k), f) vb (d, elFl f) F1 (L2.upd H a (.lst (vs.eraseIdx k))) ownY' ownB := by
  obtain ⟨vb, fd, g', e1, rd, rr, p⟩ := rs.erase_get hk
  have mg : ∀ c, c ∈ fd ∨ c ∈ g' → c ∈ g := fun c hc => p.mem_iff.mp (List.mem_append.mpr hc)
  rcases hf with rfl | rfl
  · obtain ⟨n1, n2⟩ := gd rfl
    have nd := p.nodup_iff.mpr n1
    obtain ⟨q1, q2, q3⟩ := perm2 nd
    obtain ⟨F1, ownY', c⟩ := list_chgT (K := K) (F := F) (O := F) (T := T) (ownY := ownY) (H := H) (a := a) (g' := g') (xs' := xs.eraseIdx k) (vs' := vs.eraseIdx k) (f' := .deep) (vb := vb) (b := (d, .deep)) (ownB := fd) hH nF nT va hTF
      (fun c hc => .inr (.inl (n2 c (mg c (.inr hc))))) (fun z => hag (mg a (.inr z))) rr (.inl rfl) (fun _ => ⟨q2, fun c hc => nF c (n2 c (mg c (.inr hc)))⟩) ⟨rd, q1⟩ (fun z => nomatch (show Fl.deep = Fl.bor from z)) (fun z => hag (mg a (.inl z))) (fun c hc => .inl (n2 c (mg c (.inl hc)))) q3
    exact ⟨vb, F1, ownY', fd, e1, c⟩
  · have n := gt rfl
    obtain ⟨F1, ownY', c⟩ := list_chgT (K := K) (F := F) (O := F) (T := T) (ownY := ownY) (H := H) (a := a) (g' := g') (xs' := xs.eraseIdx k) (vs' := vs.eraseIdx k) (f' := .top) (vb := vb) (b := (d, .fro)) (ownB := []) hH nF nT va hTF
      (fun c hc => .inl (n c (mg c (.inr hc)))) (fun z => hag (mg a (.inr z))) rr (.inr rfl) (fun z => nomatch z) ⟨fd, rd, fun c hc => n c (mg c (.inl hc)), rfl⟩ (fun z => nomatch (show Fl.fro = Fl.bor from z)) (fun z => nomatch z) (fun _ z => nomatch z) (fun _ z => nomatch z)
    exact ⟨vb, F1, ownY', [], e1, c⟩
theorem muS_ok {m : Mu} {v : V} {y y' b : Vl} {ownY : List Addr} {ts : List Tmp} {us : List Value} (I : Inv X pins σ H s) (rv : RelV v u) (ru : Vals (ts.map (·.v)) us) (sep : Sep F O H) (vy : Val X.K F O H v y ownY) (hy : y.2 = .deep ∨ y.2 = .top) (hO : ∀ c ∈ ownY, O c)
    (tm : Temps X.K F O H ts) (hz : muS m y (ts.map (·.x)) = some (y', b)) (q : ∀ F1 H1 vb ownY' ownB, Chg X.K F (tOwn ts) ownY H v y' vb b F1 H1 ownY' ownB → Q vb H1) :
    wpAny (model X.prog X.w) X.A (call (.builtin (muId m)) (u :: us)) (EP X pins σ Q) X.xe s := by
  have ap := tm.ap
  have hm := tm.mut
  have nF : ∀ c ∈ ownY, ¬ F c := fun c hc z => sep.d c z (hO c hc)
  have nT : ∀ c ∈ ownY, c ∉ tOwn ts := fun c hc z => ap.no c z (hO c hc)
  have my : ∀ c ∈ ownY, Mut (H c) := vy.mut
  unfold muS at hz
  split at hz
  · -- append
    rename_i xs f ax heq
    obtain ⟨t, rfl, hx⟩ := one_of heq
    split at hz
    · rename_i d g0 he
      split at hz
      · rename_i hl
        cases hz
        obtain ⟨a, vs, g, rfl, hH, rs, va, hgo, hag, gd, gt⟩ := vy.own_list hy nF
        obtain ⟨fp, rd, d1, d2, d3, _⟩ := (tm.at1 hx).give he
        have rr := rs.append (Reps.cons rd .nil)
        rw [List.append_nil] at rr
        obtain ⟨F1, ownY', c⟩ := put_one (my a va) nF nT va ap.nf hgo hag gd d1 d2 d3 (fun b hb => mem_tOwn.mpr ⟨t, List.mem_cons_self, hb⟩) rr (.inl (List.Sublist.refl _))
        exact mt_append pins s σ H _ _ u us Q I rv ru ⟨a, vs, t.v, rfl, rfl, hH, by rw [rs.length]; exact hl, q _ _ _ _ _ c⟩
      · cases hz
    · cases hz
  · -- pop
    rename_i xs f heq
    obtain rfl : ts = [] := List.map_eq_nil_iff.mp heq
    split at hz
    · rename_i d hd
      cases hz
      obtain ⟨a, vs, g, rfl, hH, rs, va, hgo, hag, gd, gt⟩ := vy.own_list hy nF
      have hk : xs[xs.length - 1]? = some d := by rw [← List.getLast?_eq_getElem?]; exact hd
      obtain ⟨vb, F1, ownY', ownB, e1, c⟩ := take_one (my a va) nF nT va ap.nf hgo hag gd gt hy rs hk
      have e2 : xs.eraseIdx (xs.length - 1) = xs.dropLast := erase_last _
      have e3 : vs.eraseIdx (xs.length - 1) = vs.dropLast := by rw [← rs.length]; exact erase_last _
      rw [e2, e3] at c
      exact mt_pop pins s σ H _ _ u us Q I rv ru ⟨a, vs, vb, rfl, rfl, hH, by rw [rs.length]; exact e1, q _ _ _ _ _ c⟩
    · cases hz
  · -- pop at
    rename_i xs f i fi heq
    obtain ⟨t, rfl, hx⟩ := one_of heq
    have ev := (tm.at1 hx).int
    split at hz
    · rename_i k hk
      split at hz
      · rename_i d hd
        cases hz
        obtain ⟨a, vs, g, rfl, hH, rs, va, hgo, hag, gd, gt⟩ := vy.own_list hy nF
        obtain ⟨vb, F1, ownY', ownB, e1, c⟩ := take_one (my a va) nF nT va ap.nf hgo hag gd gt hy rs hd
        obtain ⟨h1, h2, h3, h4⟩ := ixN_seq hk
        have hz := (I.lstM hH).1
        rw [rs.length] at hz
        have hl := line63
        exact mt_popAt pins s σ H _ _ u us Q I rv ru ⟨a, vs, i, k, vb, rfl, by show [t.v] = _; rw [ev], hH, by omega, by omega, by rw [rs.length]; exact h1, e1, q _ _ _ _ _ c⟩
      · cases hz
    · cases hz
  · -- clear
    rename_i xs f heq
    obtain rfl : ts = [] := List.map_eq_nil_iff.mp heq
    cases hz
    obtain ⟨a, vs, g, rfl, hH, rs, va, hgo, hag, gd, gt⟩ := vy.own_list hy nF
    obtain ⟨F1, ownY', c⟩ := list_chgT (K := X.K) (F := F) (O := F) (T := tOwn []) (g' := []) (my a va) nF nT va ap.nf (fun _ z => nomatch z) (fun z => nomatch z) .nil hy (fun _ => ⟨.nil, (fun _ z => nomatch z)⟩) val_non (by decide) (fun z => nomatch z) (fun _ z => nomatch z) (fun _ z => nomatch z)
    exact mt_clear pins s σ H _ _ u us Q I rv ru ⟨a, vs, rfl, rfl, hH, q _ _ _ _ _ c⟩
  · -- reverse
    rename_i xs f heq
    obtain rfl : ts = [] := List.map_eq_nil_iff.mp heq
    cases hz
    obtain ⟨a, vs, g, rfl, hH, rs, va, hgo, hag, gd, gt⟩ := vy.own_list hy nF
    obtain ⟨g', rr, p⟩ := rs.reverse
    obtain ⟨F1, ownY', c⟩ := list_chgT (K := X.K) (F := F) (O := F) (T := tOwn []) (my a va) nF nT va ap.nf (fun c hc => (hgo c (p.mem_iff.mp hc)).imp id .inl) (fun z => hag (p.mem_iff.mp z)) rr hy
      (fun h => ⟨p.nodup_iff.mpr (gd h).1, fun c hc => nF c ((gd h).2 c (p.mem_iff.mp hc))⟩) val_non (by decide) (fun z => nomatch z) (fun _ z => nomatch z) (fun _ z => nomatch z)
    exact mt_reverse pins s σ H _ _ u us Q I rv ru ⟨a, vs, rfl, rfl, hH, q _ _ _ _ _ c⟩
  · -- insert
    rename_i xs f i fi ax heq
    obtain ⟨t', t, rfl, hx', hx⟩ := two_of heq
    have v1 := tm.val t' List.mem_cons_self
    have v2 := tm.val t (List.mem_cons_of_mem _ List.mem_cons_self)
    rw [hx'] at v1; rw [hx] at v2
    split at hz
    · rename_i d g0 he
      split at hz
      · rename_i hl
        cases hz
        obtain ⟨a, vs, g, rfl, hH, rs, va, hgo, hag, gd, gt⟩ := vy.own_list hy nF
        obtain ⟨fp, rd, d1, d2, d3, _⟩ := v2.give he
        have ins : ∀ (n : Nat) {vs : List V} {xs : List D} {g : List Addr}, Reps X.K H vs xs g → ∃ g', Reps X.K H (vs.take n ++ [t.v] ++ vs.drop n) (xs.take n ++ [d] ++ xs.drop n) g' ∧ g'.Perm (g ++ fp) := fun n => by
          induction n with
          | zero =>
            intro vs xs g r
            exact ⟨fp ++ g, by simpa using Reps.cons rd r, List.perm_append_comm⟩
          | succ n ih =>
            intro vs xs g r
            cases r with
            | nil => exact ⟨fp ++ [], by simpa using Reps.cons rd .nil, by simp⟩
            | cons x r =>
              rename_i f1 g1
              obtain ⟨g', h1, h2⟩ := ih r
              refine ⟨f1 ++ g', by simpa using Reps.cons x h1, ?_⟩
              rw [List.append_assoc]
              exact h2.append_left f1
        obtain ⟨g', rr, p⟩ := ins i.toNat rs
        obtain ⟨F1, ownY', c⟩ := put_one (my a va) nF nT va ap.nf hgo hag gd d1 d2 d3 (fun b hb => mem_tOwn.mpr ⟨t, List.mem_cons_of_mem _ List.mem_cons_self, hb⟩) rr (.inr (.inl p))
        exact mt_insert pins s σ H _ _ u us Q I rv ru ⟨a, vs, i, t.v, rfl, by show [t'.v, t.v] = _; rw [v1.int], hH, by rw [rs.length]; exact hl.1, (insOk_iff.mp hl.2).1, (insOk_iff.mp hl.2).2, q _ _ _ _ _ c⟩
      · cases hz
    · cases hz
  · -- extend
    rename_i xs f ys g1 heq
    obtain ⟨t, rfl, hx⟩ := one_of heq
    split at hz
    · rename_i g0 he
      split at hz
      · rename_i hl
        cases hz
        obtain ⟨a, vs, g, rfl, hH, rs, va, hgo, hag, gd, gt⟩ := vy.own_list hy nF
        obtain ⟨b', ws, g2, ev, hH2, rs2, c1, c2, _⟩ := (tm.at1 hx).items he
        have hT : ∀ b ∈ t.own, b ∈ tOwn [t] := fun b hb => mem_tOwn.mpr ⟨t, List.mem_cons_self, hb⟩
        have rr := rs.append rs2
        obtain ⟨F1, ownY', c⟩ := list_chgT (K := X.K) (F := F) (O := F) (T := tOwn [t]) (my a va) nF nT va ap.nf (fun c hc => (List.mem_append.mp hc).elim (fun z => (hgo c z).imp id .inl) fun z => (c1 c z).imp id fun z => .inr (hT c z))
          (fun z => (List.mem_append.mp z).elim hag fun z => (c1 a z).elim (nF a va) fun z => nT a va (hT a z)) rr flag_ite (f' := if f = .deep ∧ g0 = .deep then .deep else .top)
          (fun h => by
            obtain ⟨h1, h2⟩ := ite_deep h
            obtain ⟨n1, n2⟩ := gd h1
            obtain ⟨m1, m2⟩ := c2 h2
            refine ⟨?_, fun c hc => (List.mem_append.mp hc).elim (fun z => nF c (n2 c z)) fun z => ap.nf c (hT c (m1 c z))⟩
            rw [List.nodup_append]
            refine ⟨n1, m2, fun c hc c' hc' e => ?_⟩
            subst e
            exact nT c (n2 c hc) (hT c (m1 c hc')))
          val_non (by decide) (fun z => nomatch z) (fun _ z => nomatch z) (fun _ z => nomatch z)
        exact mt_extend pins s σ H _ _ u us Q I rv ru ⟨a, b', vs, ws, rfl, by show [t.v] = _; rw [ev], hH, hH2, by rw [rs.length, rs2.length]; exact hl, q _ _ _ _ _ c⟩
      · cases hz
    · cases hz
  · cases hz

/-! ### x[i] = v -/
theorem repK_write {K : PySem.W.Frag} {a : Addr} {o' : HO} {ks : List (Key × V)} {kvs : List (D × D)} {g : List Addr} (hH : Mut (H a)) (r : RepK K H ks kvs g) (n : a ∉ g) : RepK K (L2.upd H a o') ks kvs g :=
  r.keep (fun b o e m => by rw [upd_ne (show b ≠ a by rintro rfl; rw [e] at hH; exact m hH)]; exact e) fun b hb => upd_ne (by rintro rfl; exact n hb)
theorem kD_inj {k k' : Key} : kD k' = kD k ↔ k' = k := by
  constructor
  · intro e
    cases k' <;> cases k <;> first | (cases e; rfl) | exact nomatch e
  · rintro rfl; rfl
theorem putK_rep {K : PySem.W.Frag} {k : Key} {v : V} {d : D} {fd : List Addr} (rd : Rep K H v d fd) : ∀ {ks : List (Key × V)} {kvs : List (D × D)} {g : List Addr}, RepK K H ks kvs g → (ks.map (·.1)).Nodup →
    ∃ g', RepK K H (L2.putK ks k v) (putK (kD k) d kvs) g' ∧ (g' = g ++ fd ∨ ∃ g1 f1 g2, g = g1 ++ f1 ++ g2 ∧ g' = g1 ++ fd ++ g2)
  | _, _, _, .nil, _ => ⟨fd ++ [], .cons rd .nil, .inl (by simp)⟩
  | _, _, _, .cons (k := k') (v := v') (kvs := ks) (d := d') (ds := kvs) (f := f1) (g := g1) x r, nd => by
    have nd' := List.nodup_cons.mp nd
    by_cases e : k' = k
    · subst e
      have e1 : L2.putK ((k', v') :: ks) k' v = (k', v) :: ks := by
        unfold L2.putK
        rw [if_pos (by simp), List.map_cons, if_pos rfl]
        congr 1
        have : ∀ p ∈ ks, (if p.1 = k' then (p.1, v) else p) = p := fun p hp => if_neg fun z => nd'.1 (by show k' ∈ ks.map (·.1); rw [← z]; exact List.mem_map_of_mem hp)
        exact (List.map_congr_left this).trans (List.map_id _)
      have e2 : putK (kD k') d ((kD k', d') :: kvs) = (kD k', d) :: kvs := by
        unfold putK
        rw [if_pos rfl]
      rw [e1, e2]
      exact ⟨fd ++ g1, .cons rd r, .inr ⟨[], f1, g1, by simp, by simp⟩⟩
    · obtain ⟨g', h1, h2⟩ := putK_rep rd r nd'.2
      have e1 : L2.putK ((k', v') :: ks) k v = (k', v') :: L2.putK ks k v := by
        unfold L2.putK
        rw [List.any_cons, show (decide (k' = k) || ks.any fun kv => decide (kv.1 = k)) = (ks.any fun kv => decide (kv.1 = k)) by simp [e]]
        split
        · rw [List.map_cons, if_neg e]
        · rfl
      have e2 : putK (kD k) d ((kD k', d') :: kvs) = (kD k', d') :: putK (kD k) d kvs := by
        conv => lhs; unfold putK
        rw [if_neg fun z => e (kD_inj.mp z)]
      rw [e1, e2]
      refine ⟨f1 ++ g', .cons x h1, ?_⟩
      rcases h2 with h2 | ⟨p1, p2, p3, h2, h3⟩
      · exact .inl (by rw [h2]; simp)
      · exact .inr ⟨f1 ++ p1, p2, p3, by rw [h2]; simp, by rw [h3]; simp⟩
theorem Val.own_dict {K : PySem.W.Frag} {kvs : List (D × D)} {f : Fl} {v : V} {own : List Addr} (h : Val K F O H v (.dic kvs, f) own) (hf : f = .deep ∨ f = .top) (nF : ∀ c ∈ own, ¬ F c) : ∃ a ks g, v = .ref a ∧ H a = some (.dK ks) ∧ RepK K H ks kvs g ∧ a ∈ own ∧ (∀ c ∈ g, F c ∨ c ∈ own) ∧ a ∉ g ∧
    (f = .deep → g.Nodup ∧ ∀ c ∈ g, c ∈ own) := by
  rcases hf with rfl | rfl
  · obtain ⟨h, nd⟩ := h
    obtain ⟨a, ks, g, e, hH, r, rfl⟩ := h.dict
    have n := List.nodup_cons.mp nd
    exact ⟨a, ks, g, e, hH, r, List.mem_cons_self, fun c hc => .inr (List.mem_cons_of_mem _ hc), n.1, fun _ => ⟨n.2, fun c hc => List.mem_cons_of_mem _ hc⟩⟩
  · obtain ⟨c, fp, e, rp, hg, rfl⟩ := h
    obtain ⟨a, ks, g, e', hH, r, e2⟩ := rp.dict
    obtain ⟨e3, e4⟩ := List.cons.inj e2
    subst e3 e4
    exact ⟨c, ks, fp, e, hH, r, List.mem_cons_self, fun c hc => .inl (hg c hc), fun z => nF c List.mem_cons_self (hg c z), (fun z => nomatch z)⟩
/-- as put_one, for any container -/
theorem put_oneG {K : PySem.W.Frag} {a : Addr} {D' : D} {o' : HO} {g g' fp own ownY : List Addr} {f g0 : Fl} {d : D} (hH : Mut (H a)) (nF : ∀ c ∈ ownY, ¬ F c) (nT : ∀ c ∈ ownY, c ∉ T) (va : a ∈ ownY) (hTF : ∀ c ∈ T, ¬ F c)
    (hgo : ∀ c ∈ g, F c ∨ c ∈ ownY) (hag : a ∉ g) (gd : f = .deep → g.Nodup ∧ ∀ c ∈ g, c ∈ ownY) (d1 : ∀ c ∈ fp, F c ∨ c ∈ own) (d2 : g0 = .deep → fp.Nodup ∧ ∀ c ∈ fp, c ∈ own) (d3 : noMut d = true → fp = []) (hT : ∀ c ∈ own, c ∈ T)
    (mg : ∀ c ∈ g', Mut (H c)) (rr : a ∉ g' → Rep K (L2.upd H a o') (.ref a) D' (a :: g')) (sub : g' = g ++ fp ∨ ∃ g1 f1 g2, g = g1 ++ f1 ++ g2 ∧ g' = g1 ++ fp ++ g2) :
    ∃ F1 ownY', Chg K F T ownY H (.ref a) (D', if f = .deep ∧ (g0 = .deep ∨ noMut d = true) then .deep else .top) .non (.non, .deep) F1 (L2.upd H a o') ownY' [] := by
  have ms : ∀ c ∈ g', c ∈ g ∨ c ∈ fp := fun c hc => by
    rcases sub with h | ⟨g1, f1, g2, e1, e2⟩
    · rw [h] at hc; exact List.mem_append.mp hc
    · rw [e2] at hc
      rw [e1]
      rcases List.mem_append.mp hc with hc | hc
      · rcases List.mem_append.mp hc with hc | hc
        · exact .inl (by simp [hc])
        · exact .inr hc
      · exact .inl (by simp [hc])
  have afp : a ∉ fp := fun z => (d1 a z).elim (nF a va) fun z => nT a va (hT a z)
  have hag' : a ∉ g' := fun z => (ms a z).elim hag afp
  refine list_chg (O := F) hH nF va (fun c hc => ?_) hag' hTF mg (rr hag') flag_ite (fun hd => ?_) val_non (by decide) (fun z => nomatch z) (fun _ z => nomatch z) (fun _ z => nomatch z)
  · rcases ms c hc with z | z
    · exact (hgo c z).imp id .inl
    · exact (d1 c z).imp id fun z => .inr (hT c z)
  · obtain ⟨h1, h2⟩ := ite_deep hd
    obtain ⟨n1, n2⟩ := gd h1
    have fpo : fp.Nodup ∧ ∀ c ∈ fp, c ∈ own := by
      rcases h2 with h2 | h2
      · exact d2 h2
      · rw [d3 h2]; exact ⟨.nil, (fun _ h => nomatch h)⟩
    have nd : (g ++ fp).Nodup := by
      rw [List.nodup_append]
      refine ⟨n1, fpo.1, fun c hc c' hc' e => ?_⟩
      subst e
      exact nT c (n2 c hc) (hT c (fpo.2 c hc'))
    refine ⟨?_, fun c hc => (ms c hc).elim (fun z => nF c (n2 c z)) fun z => hTF c (hT c (fpo.2 c z))⟩
    rcases sub with h | ⟨g1, f1, g2, e1, e2⟩
    · rw [h]; exact nd
    · subst e1 e2
      have p : ((g1 ++ fp) ++ g2).Perm ((g1 ++ g2) ++ fp) := by
        rw [List.append_assoc, List.append_assoc]
        exact (List.perm_append_comm).append_left g1
      rw [p.nodup_iff]
      have sb : (g1 ++ g2 ++ fp).Sublist (g1 ++ f1 ++ g2 ++ fp) := by
        refine List.Sublist.append_right ?_ fp
        rw [List.append_assoc]
        exact (List.sublist_append_right f1 g2).append_left g1
      exact sb.nodup nd
theorem kv_keys : ∀ {ks : List (Key × V)} {vs : List (Key × Value)}, KV ks vs → ks.map (·.1) = vs.map (·.1)
  | _, _, .nil => rfl
  | _, _, .cons h t => by rw [List.map_cons, List.map_cons, kv_keys t, h.1]
theorem putS_ok {v : V} {y y' : Vl} {k : D} {ownY fk : List Addr} {t : Tmp} {kv : V} {uk ut : Value} {Q : Hp → Prop} (hu : X.A.units + 64 < cLine) (I : Inv X pins σ H s) (rv : RelV v u) (rk : RelV kv uk) (rt : RelV t.v ut) (sep : Sep F O H) (vy : Val X.K F O H v y ownY) (hy : y.2 = .deep ∨ y.2 = .top) (hO : ∀ c ∈ ownY, O c)
    (pk : Rep X.K H kv k fk) (vt : Val X.K F O H t.v t.x t.own) (ap : Apart F O T) (hT : ∀ c ∈ t.own, c ∈ T) (hz : putS y k t.x = some y') (q : ∀ F1 H1 ownY', Chg X.K F T ownY H v y' .non (.non, .deep) F1 H1 ownY' [] → Q H1) :
    wpAny (model X.prog X.w) X.A (setItem u uk ut) (fun _ s' => ∃ H', Inv X pins σ H' s' ∧ Q H') X.xe s := by
  have nF : ∀ c ∈ ownY, ¬ F c := fun c hc z => sep.d c z (hO c hc)
  have nT : ∀ c ∈ ownY, c ∉ T := fun c hc z => ap.no c z (hO c hc)
  have my : ∀ c ∈ ownY, Mut (H c) := vy.mut
  unfold putS at hz
  split at hz
  · rename_i xs f i
    split at hz
    · rename_i d g0 j he hj
      cases hz
      obtain ⟨rfl, _⟩ := pk.int_v
      obtain ⟨a, vs, g, rfl, hH, rs, va, hgo, hag, gd, gt⟩ := vy.own_list hy nF
      obtain ⟨fp, rd, d1, d2, d3, _⟩ := vt.give he
      obtain ⟨h1, h2, _⟩ := ixN_seq hj
      obtain ⟨f1, g1, g2, e1, rr⟩ := rs.set (List.getElem?_eq_getElem h2) rd
      obtain ⟨F1, ownY', c⟩ := put_one (my a va) nF nT va ap.nf hgo hag gd d1 d2 d3 hT rr (.inr (.inr ⟨g1, f1, g2, e1, rfl⟩))
      exact set_list pins s σ H _ _ _ u uk ut Q I rv rk rt ⟨a, vs, i, j, rfl, rfl, hH, by rw [rs.length]; exact hj, q _ _ _ c⟩
    · cases hz
  · rename_i k kvs f
    split at hz
    · rename_i d g0 he
      split at hz
      · rename_i hk
        cases hz
        obtain ⟨k', e'⟩ := isKey_of hk.1
        subst e'
        obtain rfl := rep_key pk
        obtain ⟨a, ks, g, rfl, hH, rks, va, hgo, hag, gd⟩ := vy.own_dict hy nF
        obtain ⟨fp, rd, d1, d2, d3, _⟩ := vt.give he
        obtain ⟨_, _, vs, rel, _, _, _, _, _, _, _, _, hnd⟩ := dk_of I.hok hH
        have nd : (ks.map (·.1)).Nodup := by
          rw [kv_keys rel]; exact hnd
        obtain ⟨g', rr, sub⟩ := putK_rep (k := k') rd rks nd
        have mg : ∀ c ∈ g', Mut (H c) := rr.mut
        obtain ⟨F1, ownY', c⟩ := put_oneG (K := X.K) (D' := .dic (putK (kD k') d kvs)) (o' := .dK (L2.putK ks k' t.v)) (my a va) nF nT va ap.nf hgo hag gd d1 d2 d3 hT mg (fun n => .dic upd_same (repK_write (my a va) rr n)) sub
        cases rv
        exact d_setItem (by omega) I (.k hH (by rw [rks.length]; exact hk.2)) rk rt fun s' I' => ⟨_, I', q _ _ _ c⟩
      · cases hz
    · cases hz
  · cases hz
end
end Ev

/-! Ev9: places: the way to them, the way back. -/
namespace Ev
open PySem PySem.Spec PyProof.Rows L2

/-- the way from a value to a place -/
def Fol (H : Hp) : V → List D → V → Prop
  | v, [], w => v = w
  | v, p :: ps, w => ∃ v1, (∃ a xs i, v = .ref a ∧ H a = some (.lst xs) ∧ p = .int i ∧ atI xs i = some v1) ∧ Fol H v1 ps w
theorem Fol.snoc {H : Hp} {p : D} {w w' : V} : ∀ {ps : List D} {v : V}, Fol H v ps w → (∃ a xs i, w = .ref a ∧ H a = some (.lst xs) ∧ p = .int i ∧ atI xs i = some w') → Fol H v (ps ++ [p]) w'
  | [], v, h, s => by
    have h : v = w := h
    subst h
    exact ⟨w', s, rfl⟩
  | q :: ps, v, ⟨v1, h1, h2⟩, s => ⟨v1, h1, h2.snoc s⟩
theorem Fol.same {H H' : Hp} (hs : ∀ a xs, H a = some (.lst xs) → H' a = some (.lst xs)) {w : V} : ∀ {ps : List D} {v : V}, Fol H v ps w → Fol H' v ps w
  | [], _, h => h
  | _ :: _, _, ⟨v1, h1, h2⟩ => let ⟨a, xs, i, e1, e2, e3⟩ := h1; ⟨v1, ⟨a, xs, i, e1, hs a xs e2, e3⟩, h2.same hs⟩

section
variable {K : PySem.W.Frag} {F F1 O O1 : AP'} {T own ownY ownB fp g g' : List Addr} {H H1 : Hp} {v v' : V} {x x' y y' b : Vl} {d : D} {a : Addr} {vs vs' : List V} {xs xs' : List D} {f f' : Fl} {σ : L2.St} {e : En}
/-- an item whose data change, its address stays -/
theorem Reps.at : ∀ {k : Nat} {vs : List V} {ds : List D} {fp : List Addr} {d : D}, Reps K H vs ds fp → ds[k]? = some d →
    ∃ v f g1 g2, vs[k]? = some v ∧ Rep K H v d f ∧ fp = g1 ++ f ++ g2 ∧ (∀ H1 : Hp, (∀ b o, H b = some o → ¬ Mut (some o) → H1 b = some o) → (∀ b ∈ g1 ++ g2, H1 b = H b) → ∀ d' f', Rep K H1 v d' f' → Reps K H1 vs (ds.set k d') (g1 ++ f' ++ g2))
  | _, _, _, _, _, .nil, h => by simp at h
  | 0, _, _, _, _, .cons (f := f) (g := g) x r, h => by
    have e : _ = _ := Option.some.inj h
    subst e
    refine ⟨_, f, [], g, rfl, x, by simp, fun H1 im hk d' f' r' => ?_⟩
    exact by simpa using Reps.cons r' (r.keep im fun b hb => hk b (by simpa using hb))
  | k + 1, _, _, _, _, .cons (f := f) (g := g) x r, h => by
    obtain ⟨v, f1, g1, g2, e1, rv, e2, hk⟩ := r.at (k := k) h
    refine ⟨v, f1, f ++ g1, g2, e1, rv, by rw [e2]; simp [List.append_assoc], fun H1 im hs d' f' r' => ?_⟩
    have := Reps.cons (x.keep im fun b hb => hs b (by simp [hb])) (hk H1 im (fun b hb => hs b (by
      rcases List.mem_append.mp hb with hb | hb <;> simp [hb])) d' f' r')
    simpa [List.append_assoc] using this
theorem Val.grow (h : Val K F O H v x own) (nb : x.2 ≠ .bor) (fin : ∀ c, F c → F1 c) : Val K F1 O1 H v x own := by
  obtain ⟨d, f⟩ := x
  cases f with
  | deep => exact h
  | top =>
    obtain ⟨c, fp, e, r, hf, ho⟩ := h
    exact ⟨c, fp, e, r, fun b hb => fin b (hf b hb), ho⟩
  | fro =>
    obtain ⟨fp, r, hf, ho⟩ := h
    exact ⟨fp, r, fun b hb => fin b (hf b hb), ho⟩
  | bor => exact absurd rfl nb
theorem reb {f : Vl → Option (Vl × Vl)} : ∀ {path : List D} {x x' b : Vl} {v0 v : V} {own : List Addr}, alter f path x = some (x', b) → Fol H v0 path v → Val K F O H v0 x own → (∀ c ∈ own, ¬ F c) → (∀ c ∈ own, c ∉ T) → (∀ c ∈ T, Mut (H c)) →
    ∃ y y' ownY, Val K F O H v y ownY ∧ (y.2 = .deep ∨ y.2 = .top) ∧ (∀ c ∈ ownY, c ∈ own) ∧ f y = some (y', b) ∧ ∀ F1 H1 vb ownY' ownB, Chg K F T ownY H v y' vb b F1 H1 ownY' ownB → ∃ F2 own', Chg K F T own H v0 x' vb b F2 H1 own' ownB
  | [], x, x', b, v0, v, own, hA, hF, hV, nF, nT, mT => by
    have hF : v0 = v := hF
    subst hF
    have hA : (if x.2 = .deep ∨ x.2 = .top then f x else none) = some (x', b) := hA
    split at hA
    · rename_i hx
      exact ⟨x, x', own, hV, hx, fun _ h => h, hA, fun F1 H1 vb ownY' ownB c => ⟨F1, ownY', c⟩⟩
    · cases hA
  | p :: ps, x, x', b, v0, v, own, hA, hF, hV, nF, nT, mT => by
    unfold alter at hA
    split at hA
    · rename_i heq
      cases heq
    · rename_i p' ps' xs heq
      cases heq
      split at hA
      · rename_i i
        split at hA
        · rename_i k hk
          split at hA
          · rename_i d hd
            split at hA
            · rename_i d' gf b' hA'
              cases hA
              obtain ⟨v1, h1, h2⟩ := hF
              obtain ⟨hR, nd⟩ := hV
              obtain ⟨a, vs, g, rfl, hH, rs, rfl⟩ := hR.list
              have nd' := List.nodup_cons.mp nd
              obtain ⟨_, fc, g1, g2, e1, rc, e2, hk'⟩ := rs.at hd
              have ev : atI vs i = some v1 := by
                obtain ⟨a', xs', i', e1', e2', e3', e4'⟩ := h1
                cases e1'
                cases e3'
                rw [hH] at e2'
                cases e2'
                exact e4'
              unfold atI at ev
              rw [rs.length, hk] at ev
              have ev : vs[k]? = some v1 := ev
              rw [ev] at e1
              cases e1
              have inF : ∀ c ∈ fc, c ∈ a :: g := fun c hc => List.mem_cons_of_mem _ (by rw [e2]; simp [hc])
              have ndf : (g1 ++ fc ++ g2).Nodup := e2 ▸ nd'.2
              have ndc : fc.Nodup := (List.nodup_append.mp (List.nodup_append.mp ndf).1).2.1
              have dj1 : ∀ c, c ∈ g1 → c ∉ fc := fun c hc z => (List.nodup_append.mp (List.nodup_append.mp ndf).1).2.2 c hc c z rfl
              have dj2 : ∀ c, c ∈ g2 → c ∉ fc := fun c hc z => (List.nodup_append.mp ndf).2.2 c (List.mem_append_right _ z) c hc rfl
              have dj3 : ∀ c, c ∈ g1 → c ∉ g2 := fun c hc z => (List.nodup_append.mp ndf).2.2 c (List.mem_append_left _ hc) c z rfl
              have n1 : g1.Nodup := (List.nodup_append.mp (List.nodup_append.mp ndf).1).1
              have n2 : g2.Nodup := (List.nodup_append.mp ndf).2.1
              have ag : a ∉ g1 ∧ a ∉ fc ∧ a ∉ g2 := by
                have := nd'.1
                rw [e2] at this
                simpa [not_or, and_assoc] using this
              obtain ⟨y, y', ownY, vy, hy, sY, hf, hC⟩ := reb (path := ps) (v0 := v1) (own := fc) hA' h2 ⟨rc, ndc⟩ (fun c hc => nF c (inF c hc)) (fun c hc => nT c (inF c hc)) mT
              refine ⟨y, y', ownY, vy, hy, fun c hc => inF c (sY c hc), hf, fun F1 H1 vb ownY' ownB cg => ?_⟩
              obtain ⟨F2, own', c2⟩ := hC F1 H1 vb ownY' ownB cg
              -- the child is back; now this list
              have mH : ∀ c ∈ a :: g, Mut (H c) := hR.mut
              have im : ∀ b o, H b = some o → ¬ Mut (some o) → H1 b = some o := fun b o e m => c2.only b o e fun z => m (mut_some e (mH b (inF b z)))
              have keep : ∀ c, c ∈ a :: g → c ∉ fc → H1 c = H c := fun c hc n => by
                have m := mH c hc
                cases e : H c with
                | none => rw [e] at m; exact m.elim
                | some o => exact c2.only c o e n
              have inG : ∀ c, c ∈ g1 ++ g2 → c ∈ a :: g ∧ c ∉ fc := fun c hc => by
                rcases List.mem_append.mp hc with hc | hc
                · exact ⟨List.mem_cons_of_mem _ (by rw [e2]; simp [hc]), dj1 c hc⟩
                · exact ⟨List.mem_cons_of_mem _ (by rw [e2]; simp [hc]), dj2 c hc⟩
              have hHa : H1 a = some (.lst vs) := (keep a List.mem_cons_self ag.2.1).trans hH
              have rr : ∀ d' f', Rep K H1 v1 d' f' → Rep K H1 (.ref a) (.lst (xs.set k d')) (a :: (g1 ++ f' ++ g2)) := fun d' f' r' => .lst hHa (hk' H1 im (fun c hc => keep c (inG c hc).1 (inG c hc).2) d' f' r')
              have nb := c2.nb
              have sub' : ∀ c ∈ own', c ∈ fc ∨ c ∈ T := fun c hc => c2.sub c (List.mem_append_left _ hc)
              have subB : ∀ c ∈ ownB, c ∈ fc ∨ c ∈ T := fun c hc => c2.sub c (List.mem_append_right _ hc)
              have ndo : (own' ++ ownB).Nodup := c2.nd
              obtain ⟨ndo1, ndo2, ndo3⟩ := perm2 ndo
              have nG : ∀ c, c ∈ a :: g → c ∉ fc → (c ∉ own' ∧ c ∉ ownB) ∧ ¬ F2 c := fun c hc n => ⟨⟨fun z => (sub' c z).elim n (nT c hc), fun z => (subB c z).elim n (nT c hc)⟩, fun z => by
                rcases c2.fout c z with z | z | z
                · exact nF c hc z
                · exact nT c hc z
                · exact n z⟩
              have hfl : gf = .deep ∨ gf = .top := c2.fl
              rcases hfl with rfl | rfl
              · rw [if_pos rfl]
                obtain ⟨rc1, nd1⟩ := c2.val
                refine ⟨F2, a :: (g1 ++ own' ++ g2), fun c o e n => c2.only c o e fun z => n (inF c z), c2.fin, fun c h => (c2.fout c h).imp id fun z => z.imp id (inF c), c2.mutF, .inl rfl, ⟨rr _ _ rc1, ?_⟩, c2.valB, nb, ?_, ?_, ?_⟩
                · refine List.nodup_cons.mpr ⟨fun z => ?_, ?_⟩
                  · have na := nG a List.mem_cons_self ag.2.1
                    rcases List.mem_append.mp z with z | z
                    · exact (List.mem_append.mp z).elim ag.1 na.1.1
                    · exact ag.2.2 z
                  · rw [List.nodup_append]
                    refine ⟨?_, n2, fun c hc c' hc' e => ?_⟩
                    · rw [List.nodup_append]
                      refine ⟨n1, nd1, fun c hc c' hc' e => ?_⟩
                      subst e
                      have w := inG c (List.mem_append_left _ hc)
                      exact (nG c w.1 w.2).1.1 hc'
                    · subst e
                      rcases List.mem_append.mp hc with hc | hc
                      · exact dj3 c hc hc'
                      · have w := inG c (List.mem_append_right _ hc')
                        exact (nG c w.1 w.2).1.1 hc
                · rw [List.nodup_append]
                  refine ⟨?_, ndo2, fun c hc c' hc' e => ?_⟩
                  · refine List.nodup_cons.mpr ⟨fun z => ?_, ?_⟩
                    · have na := nG a List.mem_cons_self ag.2.1
                      rcases List.mem_append.mp z with z | z
                      · exact (List.mem_append.mp z).elim ag.1 na.1.1
                      · exact ag.2.2 z
                    · rw [List.nodup_append]
                      refine ⟨?_, n2, fun c hc c' hc' e => ?_⟩
                      · rw [List.nodup_append]
                        refine ⟨n1, nd1, fun c hc c' hc' e => ?_⟩
                        subst e
                        have w := inG c (List.mem_append_left _ hc)
                        exact (nG c w.1 w.2).1.1 hc'
                      · subst e
                        rcases List.mem_append.mp hc with hc | hc
                        · exact dj3 c hc hc'
                        · have w := inG c (List.mem_append_right _ hc')
                          exact (nG c w.1 w.2).1.1 hc
                  · subst e
                    rcases List.mem_cons.mp hc with rfl | hc
                    · exact (nG c List.mem_cons_self ag.2.1).1.2 hc'
                    · rcases List.mem_append.mp hc with hc | hc
                      · rcases List.mem_append.mp hc with hc | hc
                        · have w := inG c (List.mem_append_left _ hc)
                          exact (nG c w.1 w.2).1.2 hc'
                        · exact ndo3 c hc hc'
                      · have w := inG c (List.mem_append_right _ hc)
                        exact (nG c w.1 w.2).1.2 hc'
                · intro c hc
                  rcases List.mem_append.mp hc with hc | hc
                  · rcases List.mem_cons.mp hc with rfl | hc
                    · exact .inl List.mem_cons_self
                    · rcases List.mem_append.mp hc with hc | hc
                      · rcases List.mem_append.mp hc with hc | hc
                        · exact .inl (inG c (List.mem_append_left _ hc)).1
                        · exact (sub' c hc).imp (inF c) id
                      · exact .inl (inG c (List.mem_append_right _ hc)).1
                  · exact (subB c hc).imp (inF c) id
                · intro c hc
                  rcases List.mem_append.mp hc with hc | hc
                  · rcases List.mem_cons.mp hc with rfl | hc
                    · exact (nG c List.mem_cons_self ag.2.1).2
                    · rcases List.mem_append.mp hc with hc | hc
                      · rcases List.mem_append.mp hc with hc | hc
                        · have w := inG c (List.mem_append_left _ hc)
                          exact (nG c w.1 w.2).2
                        · exact c2.nf c (List.mem_append_left _ hc)
                      · have w := inG c (List.mem_append_right _ hc)
                        exact (nG c w.1 w.2).2
                  · exact c2.nf c (List.mem_append_right _ hc)
              · rw [if_neg (by decide)]
                obtain ⟨c0, fpc, ec, rc1, hfpc, eown⟩ := c2.val
                have inA : ∀ c, c ∈ g1 ++ g2 ++ own' → (c ∈ a :: g ∨ c ∈ T) ∧ c ≠ a := fun c hc => by
                  rcases List.mem_append.mp hc with hc | hc
                  · refine ⟨.inl (inG c hc).1, ?_⟩
                    rintro rfl
                    exact (List.mem_append.mp hc).elim ag.1 ag.2.2
                  · refine ⟨(sub' c hc).imp (inF c) id, ?_⟩
                    rintro rfl
                    exact (nG c List.mem_cons_self ag.2.1).1.1 hc
                refine ⟨addF F2 (g1 ++ g2 ++ own'), [a], fun c o e n => c2.only c o e fun z => n (inF c z), fun c h => .inl (c2.fin c h), fun c h => ?_, fun c h n => ?_, .inr rfl, ⟨a, _, rfl, rr _ _ rc1, fun c hc => ?_, rfl⟩, c2.valB.grow nb fun _ h => .inl h, nb, ?_, ?_, ?_⟩
                · rcases h with h | h
                  · exact (c2.fout c h).imp id fun z => z.imp id (inF c)
                  · exact .inr ((inA c h).1.symm)
                · rcases h with h | h
                  · exact c2.mutF c h n
                  · rcases List.mem_append.mp h with h | h
                    · have w := inG c h
                      rw [keep c w.1 w.2]
                      exact mH c w.1
                    · rw [eown] at h
                      obtain rfl := List.mem_singleton.mp h
                      exact rc1.mut _ List.mem_cons_self
                · rcases List.mem_append.mp hc with hc | hc
                  · rcases List.mem_append.mp hc with hc | hc
                    · exact .inr (by simp [hc])
                    · rcases List.mem_cons.mp hc with rfl | hc
                      · exact .inr (by rw [eown]; simp)
                      · exact .inl (hfpc c hc)
                  · exact .inr (by simp [hc])
                · rw [List.nodup_append]
                  refine ⟨by simp, ndo2, fun c hc c' hc' e => ?_⟩
                  subst e
                  obtain rfl := List.mem_singleton.mp hc
                  exact (nG _ List.mem_cons_self ag.2.1).1.2 hc'
                · intro c hc
                  rcases List.mem_append.mp hc with hc | hc
                  · rw [List.mem_singleton.mp hc]; exact .inl List.mem_cons_self
                  · exact (subB c hc).imp (inF c) id
                · intro c hc z
                  rcases List.mem_append.mp hc with hc | hc
                  · obtain rfl := List.mem_singleton.mp hc
                    rcases z with z | z
                    · exact (nG _ List.mem_cons_self ag.2.1).2 z
                    · exact (inA _ z).2 rfl
                  · rcases z with z | z
                    · exact c2.nf c (List.mem_append_right _ hc) z
                    · rcases List.mem_append.mp z with z | z
                      · have w := inG c z
                        exact (nG c w.1 w.2).1.2 hc
                      · exact ndo3 c z hc
            · cases hA
          · cases hA
        · cases hA
      · cases hA
    · cases hA
/-- from a change at a place to the cells -/
theorem place_ok {f : Vl → Option (Vl × Vl)} {path : List D} {i : Nat} {v0 : V} (r : Rel K F O H σ e) (hi : cellAt e i = some x) (hv : σ[i]? = some (some v0)) (hF : Fol H v0 path v) (hA : alter f path x = some (x', b)) (ap : Apart F O T) (mT : ∀ c ∈ T, Mut (H c)) :
    ∃ y y' ownY, Val K F O H v y ownY ∧ (y.2 = .deep ∨ y.2 = .top) ∧ (∀ c ∈ ownY, O c) ∧ f y = some (y', b) ∧ ∀ F1 H1 vb ownY' ownB, Chg K F T ownY H v y' vb b F1 H1 ownY' ownB →
      ∃ F' O', Come K F O T H σ false b (e.set i (some x')) vb F' O' H1 ownB := by
  obtain ⟨sep, len, ow, h1, h2, h3, h4, h5⟩ := r
  obtain ⟨nb, v0', e0, hV⟩ := h1 i x hi
  rw [hv] at e0
  cases e0
  have inO : ∀ c ∈ ow i, O c := fun c hc => (h5 c).mpr ⟨i, hc⟩
  obtain ⟨y, y', ownY, vy, hy, sY, hf, hC⟩ := reb (T := T) hA hF hV (fun c hc z => sep.d c z (inO c hc)) (fun c hc z => ap.no c z (inO c hc)) mT
  refine ⟨y, y', ownY, vy, hy, fun c hc => inO c (sY c hc), hf, fun F1 H1 vb ownY' ownB cg => ?_⟩
  obtain ⟨F2, own', c2⟩ := hC F1 H1 vb ownY' ownB cg
  obtain ⟨nd1, nd2, nd3⟩ := perm2 c2.nd
  have other : ∀ j, j ≠ i → ∀ c ∈ ow j, c ∉ ow i ∧ c ∉ T := fun j hj c hc => ⟨fun z => hj (h4 j i c hc z), fun z => ap.no c z ((h5 c).mpr ⟨j, hc⟩)⟩
  have same : ∀ c, c ∉ ow i → Mut (H c) → H1 c = H c := fun c n m => by
    cases q : H c with
    | none => rw [q] at m; exact m.elim
    | some o => exact c2.only c o q n
  have im : ∀ b o, H b = some o → ¬ Mut (some o) → H1 b = some o := fun b o e0 m => c2.only b o e0 fun z => m (mut_some e0 (hV.mut b z))
  have nF2 : ∀ c, O c → c ∉ ow i → ¬ F2 c := fun c hc n z => by
    rcases c2.fout c z with z | z | z
    · exact sep.d c z hc
    · exact ap.no c z hc
    · exact n z
  have subO : ∀ c ∈ own', c ∈ ow i ∨ c ∈ T := fun c hc => c2.sub c (List.mem_append_left _ hc)
  have subB : ∀ c ∈ ownB, c ∈ ow i ∨ c ∈ T := fun c hc => c2.sub c (List.mem_append_right _ hc)
  have il : i < e.length := by
    unfold cellAt at hi
    cases q : e[i]? with
    | none => rw [q] at hi; cases hi
    | some _ => exact (List.getElem?_eq_some_iff.mp q).1
  have at_i : cellAt (e.set i (some x')) i = some x' := by
    unfold cellAt
    rw [List.getElem?_set_self il]; rfl
  have at_j : ∀ j, j ≠ i → cellAt (e.set i (some x')) j = cellAt e j := fun j hj => by
    unfold cellAt
    rw [List.getElem?_set_ne (Ne.symm hj)]
  let ow' : Nat → List Addr := fun j => if j = i then own' else ow j
  have ow_i : ow' i = own' := if_pos rfl
  have ow_j : ∀ j, j ≠ i → ow' j = ow j := fun j hj => if_neg hj
  refine ⟨F2, fun c => ∃ j, c ∈ ow' j, ⟨⟨fun c o e0 n _ => c2.only c o e0 fun z => n (inO c z), c2.fin, fun c z => ?_, fun c z => ?_⟩, (fun z => nomatch z), ⟨⟨fun c z => ?_, fun c z => ?_, fun c z w => ?_⟩, ?_, ow', fun j xj hj => ?_, fun j hj => ?_, fun j => ?_, fun j k c hj hk => ?_, fun c => Iff.rfl⟩, ?_, ⟨fun c hc => c2.nf c (List.mem_append_right _ hc), fun c hc z => ?_⟩, fun c hc => ?_⟩⟩
  · rcases c2.fout c z with z | z | z
    · exact .inl z
    · exact .inr (.inr (.inl z))
    · exact .inr (.inl (inO c z))
  · obtain ⟨j, hj⟩ := z
    by_cases e0 : j = i
    · subst e0
      rw [ow_i] at hj
      exact (subO c hj).imp (inO c) .inl
    · rw [ow_j j e0] at hj
      exact .inl ((h5 c).mpr ⟨j, hj⟩)
  · by_cases hF : F c
    · rw [same c (fun w => sep.d c hF (inO c w)) (sep.f c hF)]
      exact sep.f c hF
    · exact c2.mutF c z hF
  · obtain ⟨j, hj⟩ := z
    by_cases e0 : j = i
    · subst e0
      rw [ow_i] at hj
      exact c2.val.mut c hj
    · rw [ow_j j e0] at hj
      have ho := (h5 c).mpr ⟨j, hj⟩
      rw [same c (other j e0 c hj).1 (sep.o c ho)]
      exact sep.o c ho
  · obtain ⟨j, hj⟩ := w
    by_cases e0 : j = i
    · subst e0
      rw [ow_i] at hj
      exact c2.nf c (List.mem_append_left _ hj) z
    · rw [ow_j j e0] at hj
      exact nF2 c ((h5 c).mpr ⟨j, hj⟩) (other j e0 c hj).1 z
  · rw [List.length_set]; exact len
  · by_cases e0 : j = i
    · subst e0
      rw [at_i] at hj
      cases hj
      refine ⟨?_, v0, hv, ?_⟩
      · rcases c2.fl with q | q <;> rw [q] <;> decide
      · rw [ow_i]
        have := c2.val
        exact this.grow (by rcases c2.fl with q | q <;> rw [q] <;> decide) fun _ h => h
    · rw [at_j j e0] at hj
      obtain ⟨nb', v', e1, hV'⟩ := h1 j xj hj
      refine ⟨nb', v', e1, ?_⟩
      rw [ow_j j e0]
      have kp : ∀ {fp : List Addr} {v : V} {d : D}, Rep K H v d fp → (∀ c ∈ fp, F c ∨ c ∈ ow j) → Rep K H1 v d fp := fun {fp v d} hr hs => hr.keep im fun c hc => same c (fun z => by
        rcases hs c hc with w | w
        · exact sep.d c w (inO c z)
        · exact (other j e0 c w).1 z) (hr.mut c hc)
      obtain ⟨dj, fj⟩ := xj
      cases fj with
      | deep => exact ⟨kp hV'.1 fun c hc => .inr hc, hV'.2⟩
      | top =>
        obtain ⟨c, fp, ev, hr, hf', ho⟩ := hV'
        refine ⟨c, fp, ev, kp hr fun c' hc' => ?_, fun b hb => c2.fin b (hf' b hb), ho⟩
        rcases List.mem_cons.mp hc' with rfl | hc'
        · exact .inr (by rw [ho]; exact List.mem_cons_self)
        · exact .inl (hf' _ hc')
      | fro =>
        obtain ⟨fp, hr, hf', ho⟩ := hV'
        exact ⟨fp, kp hr fun c hc => .inl (hf' c hc), fun b hb => c2.fin b (hf' b hb), ho⟩
      | bor => exact absurd rfl nb'
  · by_cases e0 : j = i
    · subst e0; rw [at_i] at hj; cases hj
    · rw [at_j j e0] at hj
      rw [ow_j j e0]
      exact h2 j hj
  · by_cases e0 : j = i
    · subst e0; rw [ow_i]; exact nd1
    · rw [ow_j j e0]; exact h3 j
  · by_cases ej : j = i
    · subst ej
      by_cases ek : k = j
      · exact ek.symm
      · rw [ow_i] at hj
        rw [ow_j k ek] at hk
        rcases subO c hj with w | w
        · exact absurd w (other k ek c hk).1
        · exact absurd w (other k ek c hk).2
    · by_cases ek : k = i
      · subst ek
        rw [ow_i] at hk
        rw [ow_j j ej] at hj
        rcases subO c hk with w | w
        · exact absurd w (other j ej c hj).1
        · exact absurd w (other j ej c hj).2
      · rw [ow_j j ej] at hj
        rw [ow_j k ek] at hk
        exact h4 j k c hj hk
  · exact c2.valB.grow c2.nb fun _ h => h
  · obtain ⟨j, hj⟩ := z
    by_cases e0 : j = i
    · subst e0
      rw [ow_i] at hj
      exact nd3 c hj hc
    · rw [ow_j j e0] at hj
      rcases subB c hc with w | w
      · exact (other j e0 c hj).1 w
      · exact (other j e0 c hj).2 w
  · exact (subB c hc).imp (inO c) .inl
end
end Ev

/-! Ev10: the check that a term is an expression of the text. -/
namespace Ev
open PySem PySem.Spec PyProof.Rows L2

structure Stc where
  nms : Nat → Option Str
  N : List Str
  sc : Scope
  fb : Str → Bool
def slotOk (S : Stc) (i : Nat) (x : Str) : Bool := decide (S.N[i]? = some x) && (match S.sc.names.lookup x with
  | some .local => true
  | some .cell => true
  | some .free => true
  | _ => false) && !(x == ("__debug__" : Str)) && !(x == ("__classdict__" : Str))
def storeOk (S : Stc) (i : Nat) (x : Str) : Bool := decide (S.N[i]? = some x) && (match S.sc.names.lookup x with
  | some .local => true
  | some .cell => S.fb x
  | _ => false)
def globOk (S : Stc) (x : Str) : Bool := (match S.sc.names.lookup x with
  | some .globalImplicit => true
  | _ => false) && !(x == ("__debug__" : Str))
def blkS (S : Stc) (scope : Scope) : Stc := { S with sc := relS scope S.sc, fb := fun x => scope.names.lookup x == some .cell }
def ownN (S : Stc) (own : List Nat) : List (Str × Nat) := own.filterMap fun i => (S.N[i]?).map fun x => (x, i)
/-- what zip, enumerate yield is taken apart at once -/
def okTg : PI → Expr → Bool
  | .zip _ _, t => match t with
    | .Tuple .. => true
    | _ => false
  | .enm _, t => match t with
    | .Tuple .. => true
    | _ => false
  | _, _ => true
mutual
def mE (S : Stc) : PX → Expr → Bool
  | .nm i, e => match e with
    | .Name x _ => slotOk S i x
    | _ => false
  | .tk i, e => match e with
    | .Name x _ => slotOk S i x
    | _ => false
  | .mv i, e => match e with
    | .Name x _ => slotOk S i x
    | _ => false
  | .io i, e => match e with
    | .Name x _ => slotOk S i x
    | _ => false
  | .cI i, e => match e with
    | .Constant (.int j) _ _ => decide (i = j)
    | _ => false
  | .cB i, e => match e with
    | .Constant (.bool j) _ _ => decide (i = j)
    | _ => false
  | .cN, e => match e with
    | .Constant .none _ _ => true
    | _ => false
  | .cS i, e => match e with
    | .Constant (.str j) _ _ => decide (i = j)
    | _ => false
  | .bin o a b, e => match e with
    | .BinOp x o' y _ => decide (o = o') && mE S a x && mE S b y
    | _ => false
  | .neg a, e => match e with
    | .UnaryOp .USub x _ => mE S a x
    | _ => false
  | .inv a, e => match e with
    | .UnaryOp .Invert x _ => mE S a x
    | _ => false
  | .not a, e => match e with
    | .UnaryOp .Not x _ => mE S a x
    | _ => false
  | .and a b, e => match e with
    | .BoolOp .And (x :: y :: []) _ => mE S a x && mE S b y
    | .BoolOp .And (x :: y :: z :: r) pos => mE S a x && mE S b (.BoolOp .And (y :: z :: r) pos)
    | _ => false
  | .or a b, e => match e with
    | .BoolOp .Or (x :: y :: []) _ => mE S a x && mE S b y
    | .BoolOp .Or (x :: y :: z :: r) pos => mE S a x && mE S b (.BoolOp .Or (y :: z :: r) pos)
    | _ => false
  | .cmp o a b, e => match e with
    | .Compare x [o'] [y] _ => decide (o = o') && mE S a x && mE S b y
    | _ => false
  | .chn o p a b c, e => match e with
    | .Compare x [o', p'] [y, z] _ => decide (o = o') && decide (p = p') && mE S a x && mE S b y && mE S c z
    | _ => false
  | .ife t a b, e => match e with
    | .IfExp u x y _ => mE S t u && mE S a x && mE S b y
    | _ => false
  | .tup es, e => match e with
    | .Tuple xs _ _ => mA S es xs
    | _ => false
  | .lst es, e => match e with
    | .List xs _ => mA S es xs
    | _ => false
  | .dic, e => match e with
    | .Dict [] [] _ => true
    | _ => false
  | .ix a i, e => match e with
    | .Subscript x y _ => mE S a x && mE S i y
    | _ => false
  | .sl a lo hi, e => match e with
    | .Subscript x (.Slice l u none _) _ => mE S a x && mO S lo l && mO S hi u
    | _ => false
  | .rev a, e => match e with
    | .Subscript x (.Slice none none (some (.UnaryOp .USub (.Constant (.int j) _ _) _)) _) _ => decide (j = 1) && mE S a x
    | _ => false
  | .call f es, e => match e with
    | .Call (.Name x _) xs [] _ => decide (S.nms f = some x) && globOk S x && mA S es xs
    | _ => false
  | .bi b es, e => match e with
    | .Call (.Name x _) (y :: xs) [] _ => decide (x = Str.ofString (biN b)) && globOk S x && mA S es (y :: xs)
    | _ => false
  | .mu m o es, e => match e with
    | .Call (.Attribute y nm apos) xs [] cpos => decide (nm = Str.ofString (muN m)) && mE S o y && mA S es xs && (apos.endLine == cpos.line) && decide (xs.length < 30)
    | _ => false
  | .lc tg it cs elt own, e => match e with
    | .ListComp y [⟨t, i, ifs, a⟩] scope _ => decide (a = 0) && blkC S.N S.sc scope (ownN S own) && decide ((ownN S own).map (·.2) = own) && mI S it i && okTg it t && mT (blkS S scope) tg t && mC (blkS S scope) cs ifs && mE (blkS S scope) elt y
    | _ => false
  | .isi a t, e => match e with
    | .Call (.Name x _) [y, .Name z _] [] _ => decide (x = Str.ofString "isinstance") && globOk S x && decide (z = Str.ofString (tyN t)) && globOk S z && decide (t ≠ .non) && mE S a y
    | _ => false
  | .lrng it, e => match e with
    | .Call (.Name x _) [y] [] _ => decide (x = Str.ofString "list") && globOk S x && mR S it y
    | _ => false
  | .trng it, e => match e with
    | .Call (.Name x _) [y] [] _ => decide (x = Str.ofString "tuple") && globOk S x && mR S it y
    | _ => false
  | .never, e => plainE e
def mA (S : Stc) : PXs → List Expr → Bool
  | .nil, xs => match xs with
    | [] => true
    | _ => false
  | .cons e es, xs => match xs with
    | x :: r => mE S e x && mA S es r
    | _ => false
def mC (S : Stc) : PXs → List Expr → Bool
  | .nil, xs => match xs with
    | [] => true
    | _ => false
  | .cons e es, xs => match es, xs with
    | .nil, [x] => mE S e x
    | _, _ => false
def mO (S : Stc) : PO → Option Expr → Bool
  | .none, o => match o with
    | none => true
    | _ => false
  | .some e, o => match o with
    | some x => mE S e x
    | _ => false
/-- a range -/
def mR (S : Stc) : PI → Expr → Bool
  | .rg1 a, e => match e with
    | .Call (.Name x _) [y] [] _ => decide (x = Str.ofString "range") && globOk S x && mE S a y
    | _ => false
  | .rg2 a b, e => match e with
    | .Call (.Name x _) [y, z] [] _ => decide (x = Str.ofString "range") && globOk S x && mE S a y && mE S b z
    | _ => false
  | _, _ => false
def mI (S : Stc) : PI → Expr → Bool
  | .vl a, e => mE S a e
  | .rg1 a, e => match e with
    | .Call (.Name x _) [y] [] _ => decide (x = Str.ofString "range") && globOk S x && mE S a y
    | _ => false
  | .rg2 a b, e => match e with
    | .Call (.Name x _) [y, z] [] _ => decide (x = Str.ofString "range") && globOk S x && mE S a y && mE S b z
    | _ => false
  | .rgd _ _, e => plainE e
  | .rv a, e => match e with
    | .Call (.Name x _) [y] [] _ => decide (x = Str.ofString "reversed") && globOk S x && mE S a y
    | _ => false
  | .zip a b, e => match e with
    | .Call (.Name x _) [y, z] [] _ => decide (x = Str.ofString "zip") && globOk S x && mE S a y && mE S b z
    | _ => false
  | .enm a, e => match e with
    | .Call (.Name x _) [y] [] _ => decide (x = Str.ofString "enumerate") && globOk S x && mE S a y
    | _ => false
def mT (S : Stc) : PT → Expr → Bool
  | .nm i _, e => match e with
    | .Name x _ => storeOk S i x
    | _ => false
  | .tp ts, e => match e with
    | .Tuple xs _ _ => mTs S ts xs
    | _ => false
  | .sub o i, e => match e with
    | .Subscript x y _ => mE S o x && mE S i y
    | _ => false
def mTs (S : Stc) : PTs → List Expr → Bool
  | .nil, xs => match xs with
    | [] => true
    | _ => false
  | .cons t ts, xs => match xs with
    | x :: r => mT S t x && mTs S ts r
    | _ => false
/-- an expression of a plain form: no star, no slice, no set -/
def plainE : Expr → Bool
  | .BoolOp .. | .BinOp .. | .UnaryOp .. | .IfExp .. | .Dict .. | .ListComp .. | .Compare .. | .Call .. | .Constant .. | .Subscript .. | .Name .. | .List .. | .Tuple .. => true
  | _ => false
end
end Ev

/-! Ev11: forms of expressions; values at hand in a row. -/
namespace Ev
open PySem PySem.Spec PyProof.Rows L2

theorem plain_of_mE {S : Stc} : ∀ {p : PX} {e : Expr}, mE S p e = true → plainE e = true := by
  intro p e h
  cases p <;> cases e <;> first | rfl | (exfalso; revert h; simp [mE]; done) | (exfalso; simp [mE, plainE] at h; done)

section
variable {env : Env} {e : Expr} {es : List Expr}
theorem star_plain (h : plainE e = true) : starEach (e :: es) env = (false, eval e env) :: starEach es env := by
  cases e <;> first | rfl | (exact absurd h (by simp [plainE]))
theorem folded_plain (h : plainE e = true) (x : Value) : foldedSetIterable e env x = pure x := by
  cases e <;> first | rfl | (exact absurd h (by simp [plainE]))
theorem sub_plain (h : plainE e = true) (o i : Value) : subscripted e false o i = operate [o, i] (getItem o i) := by
  cases e <;> first | rfl | (exact absurd h (by simp [plainE]))
theorem marks_plain (h : plainE e = true) (op : CmpOp) : behindInMarks op e = false := by
  cases e <;> first | rfl | (exact absurd h (by simp [plainE]))
theorem aug_plain (h : plainE e = true) (ov iv new : Value) : augStore e ov iv new = (do holding [new, ov, iv] (setItem ov iv new); release [new, ov, iv] []; pure .next) := by
  cases e <;> first | rfl | (exact absurd h (by simp [plainE]))
theorem asub_plain {o : Expr} {pos : Pos} (h : plainE e = true) (v : Value) : assign (.Subscript o e pos) env v = (do
      let ov ← holding [v] (eval o env)
      let iv ← holding [v, ov] (eval e env)
      standAt pos
      holding [v, ov, iv] (setItem ov iv v)
      release [v, ov, iv] []) := by
  cases e <;> first | rfl | (exact absurd h (by simp [plainE]))
def testE : Expr → Bool
  | .UnaryOp .Not _ _ | .BoolOp .. | .IfExp .. | .Compare .. => true
  | _ => false
theorem true_plain (h : plainE e = true) (h' : testE e = false) (whole : Sem Value) : isTrue e env whole = (do let v ← whole; standAt e.pos; holding [v] (truthy v)) := by
  cases e with
  | UnaryOp op x pos => cases op <;> first | rfl | (exact absurd (show true = false from h') (by decide))
  | _ => first | rfl | (exfalso; revert h h'; simp [plainE, testE]; done)
def compE : Expr → Bool
  | .ListComp .. => true
  | _ => false
theorem swap_plain (h : plainE e = true) (h' : compE e = false) (t : Option Expr) (l : Nat) : swapsWith e t l env = pure false := by
  cases e <;> first | rfl | (exfalso; revert h h'; simp [plainE, compE]; done)
def callE : Expr → Bool
  | .Call .. => true
  | _ => false
theorem base_plain (h : callE e = false) (nm : Str) (w : Sem Value) : attributeBase e nm env w = w := by
  cases e <;> first | rfl | (exact absurd h (by simp [callE]))
theorem star_none {pos : Pos} : ∀ {es : List Expr}, (∀ e ∈ es, plainE e = true) → (backTo pos (starEach es env)).any (·.1) = false
  | [], _ => rfl
  | e :: es, h => by
    rw [star_plain (h e List.mem_cons_self)]
    show (false || (backTo pos (starEach es env)).any (·.1)) = false
    rw [star_none fun x hx => h x (List.mem_cons_of_mem _ hx)]
    rfl
end
theorem plain_args {S : Stc} : ∀ {es : PXs} {xs : List Expr}, mA S es xs = true → ∀ e ∈ xs, plainE e = true
  | .nil, xs, h => by
    cases xs with
    | nil => exact fun _ h => nomatch h
    | cons x r => exact absurd h (by simp [mA])
  | .cons e es, xs, h => by
    cases xs with
    | nil => exact fun _ h => nomatch h
    | cons x r =>
      have h' : mE S e x = true ∧ mA S es r = true := by simpa [mA] using h
      intro y hy
      rcases List.mem_cons.mp hy with rfl | hy
      · exact plain_of_mE h'.1
      · exact plain_args h'.2 y hy

/-! ### values at hand in a row -/
structure Acc (K : PySem.W.Frag) (F O : AP') (H : Hp) (σ : L2.St) (pu : Bool) (ts : List Tmp) (e1 : En) (F1 O1 : AP') (H1 : Hp) : Prop where
  step : Step F O [] H F1 O1 H1
  still : pu = true → Still F O H F1 O1 H1
  rel : Rel K F1 O1 H1 σ e1
  tm : Temps K F1 O1 H1 ts
  fr : From F O [] H (tOwn ts)
section
variable {K : PySem.W.Frag} {F O F1 O1 : AP'} {H H1 : Hp} {σ : L2.St} {e e1 : En} {ts : List Tmp} {pu : Bool} {cx : CX} {p : PX} {x z : Vl}
theorem Acc.start (r : Rel K F O H σ e) : Acc K F O H σ pu [] e F O H := ⟨.refl, fun _ => .refl, r, .nil, fun b h => nomatch (show b ∈ ([] : List Addr) from h)⟩
theorem tOwn_app {ts us : List Tmp} : tOwn (ts ++ us) = tOwn ts ++ tOwn us := List.flatMap_append
theorem tOwn_one {t : Tmp} : tOwn [t] = t.own := by simp [tOwn]
theorem Acc.came {pp : Bool} {v : V} {own : List Addr} {F2 O2 : AP'} {H2 : Hp} {e2 : En} (A : Acc K F O H σ pu ts e1 F1 O1 H1) (hp : pu = true → pp = true) (hb : NoBor ts ∨ pp = true) (c : Come K F1 O1 [] H1 σ pp x e2 v F2 O2 H2 own) :
    Acc K F O H σ pu (ts ++ [⟨v, x, own⟩]) e2 F2 O2 H2 where
  step := A.step.trans c.step (fun _ h => nomatch h)
  still := fun z => (A.still z).trans (c.still (hp z))
  rel := c.rel
  tm := (A.tm.step A.rel.sep c.step (hb.imp id fun z => c.still z)).cons c.val c.ap fun b hb' hz => by
    rcases c.fr b hz with q | q | q
    · exact A.tm.ap.no b hb' q
    · exact nomatch q
    · have := A.tm.mut b hb'; rw [q] at this; exact this
  fr := fun b hb => by
    rw [tOwn_app, tOwn_one] at hb
    rcases List.mem_append.mp hb with hb | hb
    · exact A.fr b hb
    · exact A.step.from (T1 := []) (fun _ h => nomatch h) c.fr b hb
theorem Acc.next {N : Vl → En → Prop} (A : Acc K F O H σ pu ts e1 F1 O1 H1) (hp : pu = true → pur p = true) (hb : NoBor ts ∨ pur p = true) (h : OutR (evE cx p e1) N) :
    tE K cx p σ H1 fun v H2 => ∃ F2 O2 x e2 own, N x e2 ∧ Acc K F O H σ pu (ts ++ [⟨v, x, own⟩]) e2 F2 O2 H2 :=
  ⟨F1, O1, e1, A.rel, h.imp fun x e2 hN v F2 O2 H2 own c => ⟨F2, O2, x, e2, own, hN, A.came hp hb c⟩⟩
/-- the end: a value of what is at hand -/
theorem Acc.give {X : Cx} {Q : VK} {F O F1 O1 : AP'} {e2 : En} (A : Acc X.K F O H σ pu ts e2 F1 O1 H1) (h : ∀ v F' O' H' own, Come X.K F O [] H σ pu z e2 v F' O' H' own → Q v H') : Give X F1 O1 (tOwn ts) H1 σ e2 z Q :=
  fun v F' O' H' own c => h v F' O' H' own (Come.after A.step A.still A.fr c fun _ => rfl)
end
/-- a call's end, by values -/
structure CallEnd (K : PySem.W.Frag) (F : AP') (ts : List Tmp) (H : Hp) (v : Vl) (outs : List (Nat × Vl)) (v' : V) (F' : AP') (H' : Hp) (own : List Addr) (ots : List (Nat × Tmp)) : Prop where
  keep : ∀ b o, H b = some o → b ∉ tOwn ts → H' b = some o
  fin : ∀ b, F b → F' b
  fout : ∀ b, F' b → F b ∨ b ∈ tOwn ts ∨ H b = none
  mutF : ∀ b, F' b → Mut (H' b)
  val : Val K F' (fun _ => False) H' v' v own
  nb : v.2 ≠ .bor
  outs : outs = ots.map fun p => (p.1, p.2.x)
  oval : ∀ p ∈ ots, (∃ t, ts[p.1]? = some t ∧ t.v = p.2.v) ∧ Val K F' (fun _ => False) H' p.2.v p.2.x p.2.own ∧ p.2.x.2 ≠ .bor
  nd : (own ++ ots.flatMap (·.2.own)).Nodup
  nf : ∀ b ∈ own ++ ots.flatMap (·.2.own), ¬ F' b
  fr : ∀ b ∈ own ++ ots.flatMap (·.2.own), b ∈ tOwn ts ∨ H b = none
/-- THE PROMISE of a def -/
def spF (K : PySem.W.Frag) (call : Nat → List Vl → CR) (f : Nat) : Sp := fun vs H Q _ => ∃ (F : AP') (ts : List Tmp) (v : Vl) (outs : List (Nat × Vl)), ts.map (·.v) = vs ∧ (∀ a, F a → Mut (H a)) ∧ Temps K F (fun _ => False) H ts ∧ NoBor ts ∧
  call f (ts.map (·.x)) = .ok v outs ∧ ∀ v' F' H' own ots, CallEnd K F ts H v outs v' F' H' own ots → Q v' H'
def CallOk (X : Cx) (call : Nat → List Vl → CR) (f : Nat) (x : Str) : Prop := ∃ (a : Addr) (fd : FuncData) (ps : List Str) (k : Nat), X.mg x = some (.ref a) ∧ PySem.W.keepIn X.K (.ref a) = true ∧ FnOk X.prog X.w X.K X.mg X.base CX0 k a fd ps (spF X.K call f) ∧ Room k X.A ∧ Binds X.K fd ps []

/-- what a body's context holds -/
structure Ctx (S : Stc) (X : Cx) (cx : CX) : Prop where
  calm : X.calm = true
  nd : X.N.Nodup
  N : X.N = S.N
  sc : X.env.scope = S.sc
  fb : ∀ x, S.fb x = true → X.fn x = true
  hu : X.A.units + 64 < cLine
  xe : X.xe = fun _ _ => False
  blt : ∀ b : Bi, X.mg (Str.ofString (biN b)) = none
  isi : X.mg (Str.ofString "isinstance") = none
  tys : ∀ t : Ty, t ≠ .non → X.mg (Str.ofString (tyN t)) = none
  rng : X.mg (Str.ofString "range") = none
  rev : X.mg (Str.ofString "reversed") = none
  zip : X.mg (Str.ofString "zip") = none
  enm : X.mg (Str.ofString "enumerate") = none
  calls : ∀ f x, S.nms f = some x → CallOk X cx.call f x
section
variable {S : Stc} {X : Cx} {cx : CX}
theorem slotOk_of {i : Nat} {x : Str} (C : Ctx S X cx) (h : slotOk S i x = true) : X.N[i]? = some x ∧ Vis X.env.scope x ∧ (x == ("__debug__" : Str)) = false ∧ (x == ("__classdict__" : Str)) = false := by
  unfold slotOk at h
  simp only [Bool.and_eq_true, decide_eq_true_eq, Bool.not_eq_true'] at h
  obtain ⟨⟨⟨h1, h2⟩, h3⟩, h4⟩ := h
  rw [C.N, C.sc]
  refine ⟨h1, ?_, h3, h4⟩
  split at h2
  · rename_i q; exact .inl q
  · rename_i q; exact .inr (.inl q)
  · rename_i q; exact .inr (.inr q)
  · cases h2
theorem storeOk_of {i : Nat} {x : Str} (C : Ctx S X cx) (h : storeOk S i x = true) : X.N[i]? = some x ∧ L2.Loc X.env.scope x ∧ (X.fn x = true ∨ X.env.scope.names.lookup x = some .local) := by
  unfold storeOk at h
  simp only [Bool.and_eq_true, decide_eq_true_eq] at h
  obtain ⟨h1, h2⟩ := h
  rw [C.N, C.sc]
  refine ⟨h1, ?_⟩
  split at h2
  · rename_i q; exact ⟨.inl q, .inr q⟩
  · rename_i q; exact ⟨.inr q, .inl (C.fb x h2)⟩
  · cases h2
theorem globOk_of {x : Str} (C : Ctx S X cx) (h : globOk S x = true) : Gl X x ∧ (x == ("__debug__" : Str)) = false := by
  unfold globOk at h
  simp only [Bool.and_eq_true, Bool.not_eq_true'] at h
  refine ⟨?_, h.2⟩
  have h1 := h.1
  show X.env.scope.names.lookup x = some .globalImplicit
  rw [C.sc]
  split at h1
  · assumption
  · cases h1
end
end Ev

/-! Ev12: cells are set; names. -/
namespace Ev
open PySem PySem.Spec PyProof.Rows L2
section
variable {K : PySem.W.Frag} {F O : AP'} {H : Hp} {σ : L2.St} {e : En}
theorem cell_set {i : Nat} {c : Cell} (h : i < e.length) : cellAt (e.set i c) i = c := by
  unfold cellAt
  rw [List.getElem?_set_self h]; rfl
theorem cell_ne {i j : Nat} {c : Cell} (h : j ≠ i) : cellAt (e.set i c) j = cellAt e j := by
  unfold cellAt
  rw [List.getElem?_set_ne (Ne.symm h)]
theorem cell_lt {i : Nat} {x : Vl} (h : cellAt e i = some x) : i < e.length := by
  unfold cellAt at h
  cases q : e[i]? with
  | none => rw [q] at h; cases h
  | some _ => exact (List.getElem?_eq_some_iff.mp q).1
theorem Rel.put (r : Rel K F O H σ e) (i : Nat) : ∃ old : List Addr, (∀ b ∈ old, O b) ∧ old.Nodup ∧ (cellAt e i = none → old = []) ∧ (∀ x, cellAt e i = some x → x.2 ≠ .bor ∧ ∃ v, σ[i]? = some (some v) ∧ Val K F O H v x old) ∧
    ∀ (T own' : List Addr) (F1 : AP') (σ' : L2.St) (c : Cell), Apart F O T → (∀ b ∈ T, Mut (H b)) → (∀ b, F b → F1 b) → (∀ b, F1 b → F b ∨ b ∈ old ∨ b ∈ T) → own'.Nodup → (∀ b ∈ own', (b ∈ old ∨ b ∈ T) ∧ ¬ F1 b) → (c = none → own' = []) → (c ≠ none → i < e.length) →
      (∀ x, c = some x → x.2 ≠ .bor ∧ ∃ v, σ'[i]? = some (some v) ∧ Val K F1 (fun _ => False) H v x own') → σ'.length = σ.length → (∀ j, j ≠ i → σ'[j]? = σ[j]?) →
      ∃ O', Rel K F1 O' H σ' (e.set i c) ∧ (∀ b, O' b ↔ b ∈ own' ∨ (O b ∧ b ∉ old)) := by
  obtain ⟨sep, len, ow, h1, h2, h3, h4, h5⟩ := r
  refine ⟨ow i, fun b hb => (h5 b).mpr ⟨i, hb⟩, h3 i, h2 i, h1 i, fun T own' F1 σ' c ap hmT fin fout nd sub hn hl hv hlen hσ => ?_⟩
  let ow' : Nat → List Addr := fun j => if j = i then own' else ow j
  have ow_i : ow' i = own' := if_pos rfl
  have ow_j : ∀ j, j ≠ i → ow' j = ow j := fun j hj => if_neg hj
  have other : ∀ j, j ≠ i → ∀ b ∈ ow j, O b ∧ b ∉ ow i ∧ b ∉ T := fun j hj b hb => ⟨(h5 b).mpr ⟨j, hb⟩, fun z => hj (h4 j i b hb z), fun z => ap.no b z ((h5 b).mpr ⟨j, hb⟩)⟩
  have nF : ∀ j, j ≠ i → ∀ b ∈ ow j, ¬ F1 b := fun j hj b hb z => by
    obtain ⟨o1, o2, o3⟩ := other j hj b hb
    rcases fout b z with z | z | z
    · exact sep.d b z o1
    · exact o2 z
    · exact o3 z
  have mF : ∀ b, F1 b → Mut (H b) := fun b z => by
    rcases fout b z with z | z | z
    · exact sep.f b z
    · exact sep.o b ((h5 b).mpr ⟨i, z⟩)
    · exact hmT b z
  refine ⟨fun b => ∃ j, b ∈ ow' j, ⟨⟨mF, fun b z => ?_, fun b z w => ?_⟩, ?_, ow', fun j x hj => ?_, fun j hj => ?_, fun j => ?_, fun j k b hj hk => ?_, fun b => Iff.rfl⟩, fun b => ?_⟩
  · obtain ⟨j, hj⟩ := z
    by_cases ej : j = i
    · subst ej
      rw [ow_i] at hj
      rcases (sub b hj).1 with z | z
      · exact sep.o b ((h5 b).mpr ⟨j, z⟩)
      · exact hmT b z
    · rw [ow_j j ej] at hj
      exact sep.o b (other j ej b hj).1
  · obtain ⟨j, hj⟩ := w
    by_cases ej : j = i
    · subst ej
      rw [ow_i] at hj
      exact (sub b hj).2 z
    · rw [ow_j j ej] at hj
      exact nF j ej b hj z
  · rw [List.length_set, hlen]; exact len
  · by_cases ej : j = i
    · subst ej
      have hc : c = some x := by
        by_cases hl' : j < e.length
        · rw [cell_set hl'] at hj; exact hj
        · rw [List.set_eq_of_length_le (Nat.le_of_not_lt hl')] at hj
          exact absurd (cell_lt hj) hl'
      obtain ⟨nb, v, e1, hv1⟩ := hv x hc
      refine ⟨nb, v, e1, ?_⟩
      rw [ow_i]
      exact hv1.grow nb fun _ h => h
    · rw [cell_ne ej] at hj
      obtain ⟨nb, v, e1, hv1⟩ := h1 j x hj
      refine ⟨nb, v, (hσ j ej).trans e1, ?_⟩
      rw [ow_j j ej]
      exact hv1.grow nb fin
  · by_cases ej : j = i
    · subst ej
      rw [ow_i]
      by_cases hl' : j < e.length
      · rw [cell_set hl'] at hj; exact hn hj
      · by_cases hc : c = none
        · exact hn hc
        · exact absurd (hl hc) hl'
    · rw [cell_ne ej] at hj
      rw [ow_j j ej]
      exact h2 j hj
  · by_cases ej : j = i
    · subst ej; rw [ow_i]; exact nd
    · rw [ow_j j ej]; exact h3 j
  · by_cases ej : j = i
    · subst ej
      by_cases ek : k = j
      · exact ek.symm
      · rw [ow_i] at hj
        rw [ow_j k ek] at hk
        obtain ⟨o1, o2, o3⟩ := other k ek b hk
        rcases (sub b hj).1 with z | z
        · exact absurd z o2
        · exact absurd z o3
    · by_cases ek : k = i
      · subst ek
        rw [ow_i] at hk
        rw [ow_j j ej] at hj
        obtain ⟨o1, o2, o3⟩ := other j ej b hj
        rcases (sub b hk).1 with z | z
        · exact absurd z o2
        · exact absurd z o3
      · rw [ow_j j ej] at hj
        rw [ow_j k ek] at hk
        exact h4 j k b hj hk
  · constructor
    · rintro ⟨j, hj⟩
      by_cases ej : j = i
      · subst ej; rw [ow_i] at hj; exact .inl hj
      · rw [ow_j j ej] at hj
        have o := other j ej b hj
        exact .inr ⟨o.1, o.2.1⟩
    · rintro (z | ⟨z, n⟩)
      · exact ⟨i, by rw [ow_i]; exact z⟩
      · obtain ⟨j, hj⟩ := (h5 b).mp z
        by_cases ej : j = i
        · subst ej; exact absurd hj n
        · exact ⟨j, by rw [ow_j j ej]; exact hj⟩
end
/-! ### names -/
section
variable {S : Stc} {X : Cx} {cx : CX} {e : Expr}
abbrev SE (cx : CX) (p : PX) : Prop := ∀ (S : Stc) (X : Cx) (e : Expr), Ctx S X cx → mE S p e = true → PE X e (tE X.K cx p)
abbrev ST (cx : CX) (p : PX) : Prop := ∀ (S : Stc) (X : Cx) (e : Expr), Ctx S X cx → mE S p e = true → L2.PT X e (tT X.K cx p)
theorem name_of {i : Nat} {p : PX} (hp : ∀ S e, mE S p e = mE S (.nm i) e) {S : Stc} {e : Expr} (h : mE S p e = true) : ∃ x pos, e = .Name x pos ∧ slotOk S i x = true := by
  rw [hp] at h
  cases e with
  | Name x pos => exact ⟨x, pos, rfl, h⟩
  | _ => exact absurd h (by simp [mE])
theorem se_nm (i : Nat) : SE cx (.nm i) := fun S X e C hm => by
  obtain ⟨x, pos, rfl, hs⟩ := name_of (fun _ _ => rfl) hm
  obtain ⟨h1, h2, h3, h4⟩ := slotOk_of C hs
  refine ⟨fun pins s σ H Q I h => (pe_var h1 h2 h3 h4).run pins s σ H Q I ?_⟩
  obtain ⟨F, O, e0, r, h⟩ := h
  obtain ⟨old, o1, _, _, o4, _⟩ := r.put i
  simp only [evE] at h
  cases q : cellAt e0 i with
  | none => rw [q] at h; exact h.elim
  | some y =>
    obtain ⟨d, f⟩ := y
    rw [q] at h
    obtain ⟨nb, v, e1, hv⟩ := o4 _ q
    refine ⟨v, e1, h v F O H [] ⟨.refl, fun _ => .refl, r, ?_, .nil, fun _ h => nomatch h⟩⟩
    cases f with
    | fro => exact hv |> fun ⟨fp, a, b, _⟩ => ⟨fp, a, b, rfl⟩
    | deep => exact ⟨old, hv.1, fun b hb => .inr (o1 b hb), rfl⟩
    | top =>
      obtain ⟨a, fp, e2, rp, hf, ho⟩ := hv
      refine ⟨_, rp, fun b hb => ?_, rfl⟩
      rcases List.mem_cons.mp hb with rfl | hb
      · exact .inr (o1 _ (by rw [ho]; exact List.mem_cons_self))
      · exact .inl (hf b hb)
    | bor => exact absurd rfl nb
theorem se_tk (i : Nat) : SE cx (.tk i) := fun S X e C hm => by
  obtain ⟨x, pos, rfl, hs⟩ := name_of (fun _ _ => rfl) hm
  obtain ⟨h1, h2, h3, h4⟩ := slotOk_of C hs
  refine ⟨fun pins s σ H Q I h => (pe_var h1 h2 h3 h4).run pins s σ H Q I ?_⟩
  obtain ⟨F, O, e0, r, h⟩ := h
  obtain ⟨old, o1, o2, _, o4, o5⟩ := r.put i
  simp only [evE] at h
  cases q : cellAt e0 i with
  | none => rw [q] at h; exact h.elim
  | some y =>
    obtain ⟨d, f⟩ := y
    rw [q] at h
    obtain ⟨nb, v, e1, hv⟩ := o4 _ q
    have hm' : ∀ b ∈ old, Mut (H b) := hv.mut
    have fro : Val X.K (addF F old) (fun _ => False) H v (d, .fro) [] := by
      obtain ⟨fp, rp, hfp⟩ := hv.rep
      obtain ⟨fp, rp, c1, c2, c3, c4⟩ := hv.nodes
      refine ⟨fp, rp, fun b hb => ?_, rfl⟩
      cases f with
      | deep => exact .inr (by rw [(c1 rfl).1]; exact hb)
      | top => exact (c2 rfl b hb)
      | fro => exact .inl (c3 rfl b hb)
      | bor => exact absurd rfl nb
    obtain ⟨O', r', hO⟩ := o5 [] [] (addF F old) σ (some (d, .fro)) .nil (fun _ h => nomatch h) (fun _ h => .inl h) (fun b h => h.imp id .inl) .nil (fun _ h => nomatch h) (fun h => nomatch h) (fun _ => cell_lt q)
      (fun x hx => by cases hx; exact ⟨(by decide : (Fl.fro : Fl) ≠ .bor), v, e1, fro⟩) rfl (fun _ _ => rfl)
    refine ⟨v, e1, h v (addF F old) O' H [] ⟨⟨fun _ _ e _ _ => e, fun _ h => .inl h, fun b h => h.imp id fun z => .inl (o1 b z), fun b h => .inl (((hO b).mp h).elim (fun z => nomatch z) fun z => z.1)⟩, fun _ => ⟨fun _ _ e => e, fun b h => ?_⟩, r', ?_, .nil, fun _ h => nomatch h⟩⟩
    · rcases h with h | h
      · exact .inl (.inl h)
      · by_cases hb : b ∈ old
        · exact .inl (.inr hb)
        · exact .inr ((hO b).mpr (.inr ⟨h, hb⟩))
    · exact fro
theorem se_mv (i : Nat) : SE cx (.mv i) := fun S X e C hm => by
  obtain ⟨x, pos, rfl, hs⟩ := name_of (fun _ _ => rfl) hm
  obtain ⟨h1, h2, h3, h4⟩ := slotOk_of C hs
  refine ⟨fun pins s σ H Q I h => (pe_var h1 h2 h3 h4).run pins s σ H Q I ?_⟩
  obtain ⟨F, O, e0, r, h⟩ := h
  obtain ⟨old, o1, o2, _, o4, o5⟩ := r.put i
  simp only [evE] at h
  cases q : cellAt e0 i with
  | none => rw [q] at h; exact h.elim
  | some y =>
    obtain ⟨d, f⟩ := y
    rw [q] at h
    obtain ⟨nb, v, e1, hv⟩ := o4 _ q
    obtain ⟨O', r', hO⟩ := o5 [] [] F σ none .nil (fun _ h => nomatch h) (fun _ h => h) (fun b h => .inl h) .nil (fun _ h => nomatch h) (fun _ => rfl) (fun h => absurd rfl h) (fun x hx => nomatch hx) rfl (fun _ _ => rfl)
    refine ⟨v, e1, h v F O' H old ⟨⟨fun _ _ e _ _ => e, fun _ h => h, fun b h => .inl h, fun b h => .inl (((hO b).mp h).elim (fun z => nomatch z) fun z => z.1)⟩, (fun z => nomatch z), r', hv.grow nb fun _ h => h, ⟨fun b hb z => r.sep.d b z (o1 b hb), fun b hb z => ?_⟩, fun b hb => .inl (o1 b hb)⟩⟩
    exact ((hO b).mp z).elim (fun z => nomatch z) fun z => z.2 hb
theorem se_io (i : Nat) : SE cx (.io i) := fun S X e C hm => ⟨fun pins s σ H Q I h => by
  obtain ⟨F, O, e0, r, h⟩ := h
  simp only [evE] at h
  exact h.elim⟩
theorem se_never : SE cx .never := fun S X e C hm => ⟨fun pins s σ H Q I h => by
  obtain ⟨F, O, e0, r, h⟩ := h
  simp only [evE] at h
  exact h.elim⟩
end
end Ev

/-! Ev13: expressions. -/
namespace Ev
open PySem PySem.Spec PyProof.Rows L2
section
variable {S : Stc} {X : Cx} {cx : CX} {e : Expr}
/-- a leaf -/
theorem se_leaf {p : PX} {d : D} {v : V} (hE : ∀ e, evE cx p e = .ok (d, .deep) e) (hr : ∀ K H, Rep K H v d []) (hf : ∀ (S : Stc) (X : Cx) (e : Expr), mE S p e = true → PE X e (tC v)) : SE cx p := fun S X e C hm =>
  ⟨fun pins s σ H Q I h => (hf S X e hm).run pins s σ H Q I (by
    obtain ⟨F, O, e0, r, h⟩ := h
    rw [hE] at h
    exact h v F O H [] (.atom r (hr _ _)))⟩
theorem se_cI (i : Int) : SE cx (.cI i) := se_leaf (fun _ => by simp only [evE]) (fun _ _ => .int i) fun S X e h => by
  simp only [mE] at h
  split at h
  · obtain rfl := of_decide_eq_true h
    exact pe_int
  · cases h
theorem se_cB (i : Bool) : SE cx (.cB i) := se_leaf (fun _ => by simp only [evE]) (fun _ _ => .bl i) fun S X e h => by
  simp only [mE] at h
  split at h
  · obtain rfl := of_decide_eq_true h
    exact pe_bl
  · cases h
theorem se_cN : SE cx .cN := se_leaf (fun _ => by simp only [evE]) (fun _ _ => .non) fun S X e h => by
  simp only [mE] at h
  split at h
  · exact pe_non
  · cases h
theorem se_cS (i : Str) : SE cx (.cS i) := se_leaf (fun _ => by simp only [evE]) (fun _ _ => .str i) fun S X e h => by
  simp only [mE] at h
  split at h
  · obtain rfl := of_decide_eq_true h
    exact pe_str
  · cases h
theorem nob (K : PySem.W.Frag) : NoBor [] := fun _ h => nomatch h
theorem nob_one {v : V} {x : Vl} {own : List Addr} {p : Bool} (h : ¬ (x.2 = .bor && !p) = true) : NoBor [⟨v, x, own⟩] ∨ p = true := by
  by_cases hx : x.2 = .bor
  · right
    cases p with
    | true => rfl
    | false => exact absurd (by simp [hx]) h
  · left
    intro t ht
    obtain rfl := List.mem_singleton.mp ht
    exact hx
/-- the test of a pair: a borrowed one wants stillness behind it -/
theorem outR_guard {α : Type} {c : Prop} [Decidable c] {r : R α} {P : α → En → Prop} (h : OutR (if c then .bad else r) P) : ¬ c ∧ OutR r P := by
  by_cases hc : c
  · rw [if_pos hc] at h; exact h.elim
  · rw [if_neg hc] at h; exact ⟨hc, h⟩
theorem outR_ite {α : Type} {c : Prop} [Decidable c] {r : R α} {P : α → En → Prop} (h : OutR (if c then r else .bad) P) : c ∧ OutR r P := by
  by_cases hc : c
  · rw [if_pos hc] at h; exact ⟨hc, h⟩
  · rw [if_neg hc] at h; exact h.elim
theorem se_bin {o : Operator} {a b : PX} (ha : SE cx a) (hb : SE cx b) : SE cx (.bin o a b) := fun S X e C hm => by
  simp only [mE] at hm
  split at hm
  · rename_i x o' y pos
    simp only [Bool.and_eq_true, decide_eq_true_eq] at hm
    obtain ⟨⟨rfl, h1⟩, h2⟩ := hm
    refine ⟨fun pins s σ H Q I h => ?_⟩
    obtain ⟨F, O, e0, r, h⟩ := h
    simp only [evE] at h
    have A0 : Acc X.K F O H σ (pur (.bin o a b)) [] e0 F O H := .start r
    refine wpAny_BinOp (thn ((ha S X x C h1).run pins s σ H _ I (A0.next (fun z => by simp only [pur, Bool.and_eq_true] at z; exact z.1) (.inl (nob X.K)) (outR_bind h))) fun u s1 ⟨v1, H1, I1, r1, F1, O1, x1, e1, own1, hN1, A1⟩ => ?_)
    obtain ⟨hg, hN1⟩ := outR_guard hN1
    refine thn ((hb S X y C h2).run pins s1 σ H1 _ I1 (A1.next (fun z => by simp only [pur, Bool.and_eq_true] at z; exact z.2) (nob_one hg) (outR_bind hN1))) fun u' s2 ⟨v2, H2, I2, r2, F2, O2, x2, e2, own2, hN2, A2⟩ => ?_
    obtain ⟨z, hz, hq⟩ := outR_of hN2
    have v1' := A2.tm.val _ List.mem_cons_self
    have v2' := A2.tm.val ⟨v2, x2, own2⟩ (by simp)
    have nd := A2.tm.nd
    have ap := A2.tm.ap
    have g := A2.give hq
    simp only [tOwn, List.cons_append, List.nil_append, List.flatMap_cons, List.flatMap_nil, List.append_nil] at nd ap g
    exact binS_ok I2 r1 r2 A2.rel v1' v2' nd ap hz g
  · cases hm
theorem se_neg {a : PX} (ha : SE cx a) : SE cx (.neg a) := fun S X e C hm => by
  simp only [mE] at hm
  split at hm
  · rename_i x pos
    refine ⟨fun pins s σ H Q I h => ?_⟩
    obtain ⟨F, O, e0, r, h⟩ := h
    simp only [evE] at h
    have A0 : Acc X.K F O H σ (pur (.neg a)) [] e0 F O H := .start r
    refine UnaryOp_ (thn ((ha S X x C hm).run pins s σ H _ I (A0.next (fun z => z) (.inl (nob X.K)) (outR_bind h))) fun u s1 ⟨v1, H1, I1, r1, F1, O1, x1, e1, own1, hN1, A1⟩ => ?_)
    obtain ⟨d, f⟩ := x1
    cases d with
    | int i =>
      have hv := (A1.tm.val ⟨v1, (.int i, f), own1⟩ (by simp)).int
      exact un_neg pins s1 σ H1 v1 u Q I1 r1 ⟨i, hv, A1.give hN1 _ _ _ _ _ (.atom A1.rel (.int _))⟩
    | _ => exact hN1.elim
  · cases hm
theorem se_inv {a : PX} (ha : SE cx a) : SE cx (.inv a) := fun S X e C hm => by
  simp only [mE] at hm
  split at hm
  · rename_i x pos
    refine ⟨fun pins s σ H Q I h => ?_⟩
    obtain ⟨F, O, e0, r, h⟩ := h
    simp only [evE] at h
    have A0 : Acc X.K F O H σ (pur (.inv a)) [] e0 F O H := .start r
    refine UnaryOp_ (thn ((ha S X x C hm).run pins s σ H _ I (A0.next (fun z => z) (.inl (nob X.K)) (outR_bind h))) fun u s1 ⟨v1, H1, I1, r1, F1, O1, x1, e1, own1, hN1, A1⟩ => ?_)
    obtain ⟨d, f⟩ := x1
    cases d with
    | int i =>
      have hv := (A1.tm.val ⟨v1, (.int i, f), own1⟩ (by simp)).int
      exact un_inv pins s1 σ H1 v1 u Q I1 r1 ⟨i, hv, A1.give hN1 _ _ _ _ _ (.atom A1.rel (.int _))⟩
    | _ => exact hN1.elim
  · cases hm
/-- tests: a value's truth -/
theorem outR_tru {r : R Vl} {P : Bool → En → Prop} (h : OutR r.tru P) : OutR r fun x e => ∃ b, truth x.1 = some b ∧ P b e := (outR_bind h).imp fun x e hN => outR_of hN
/-- what a test is to end with -/
abbrev TQ (K : PySem.W.Frag) (F O : AP') (H : Hp) (σ : L2.St) (pu : Bool) (Q : Bool → Hp → Prop) : Bool → En → Prop := fun b e' => ∀ F' O' H', Step F O [] H F' O' H' → (pu = true → Still F O H F' O' H') → Rel K F' O' H' σ e' → Q b H'
theorem Acc.test {K : PySem.W.Frag} {F O F1 O1 : AP'} {H H1 : Hp} {σ : L2.St} {e1 : En} {pu : Bool} {ts : List Tmp} {p : PX} {N : Bool → En → Prop} (A : Acc K F O H σ pu ts e1 F1 O1 H1) (hp : pu = true → pur p = true) (hb : NoBor ts ∨ pur p = true) (h : OutR (evE cx p e1).tru N) :
    tT K cx p σ H1 fun b H2 => ∃ F2 O2 e2, N b e2 ∧ Acc K F O H σ pu ts e2 F2 O2 H2 :=
  ⟨F1, O1, e1, A.rel, h.imp fun b e2 hN F2 O2 H2 st sl r => ⟨F2, O2, e2, hN, A.step.trans st (fun _ h => nomatch h), fun z => (A.still z).trans (sl (hp z)), r,
    A.tm.step A.rel.sep st (hb.imp id sl), A.fr⟩⟩
theorem Acc.drop {K : PySem.W.Frag} {F O F1 O1 : AP'} {H H1 : Hp} {σ : L2.St} {e1 : En} {pu : Bool} {ts us : List Tmp} (A : Acc K F O H σ pu (ts ++ us) e1 F1 O1 H1) : Acc K F O H σ pu ts e1 F1 O1 H1 where
  step := A.step
  still := A.still
  rel := A.rel
  tm := ⟨fun t ht => A.tm.val t (List.mem_append_left _ ht), by
    have := A.tm.nd
    rw [tOwn_app, List.nodup_append] at this
    exact this.1, ⟨fun b hb => A.tm.ap.nf b (by rw [tOwn_app]; exact List.mem_append_left _ hb), fun b hb => A.tm.ap.no b (by rw [tOwn_app]; exact List.mem_append_left _ hb)⟩⟩
  fr := fun b hb => A.fr b (by rw [tOwn_app]; exact List.mem_append_left _ hb)
/-- a test of a value, its expression's form plain -/
theorem st_val {p : PX} (hp : SE cx p) (hn : ∀ (S : Stc) (e : Expr), mE S p e = true → testE e = false) : ST cx p := fun S X e C hm => by
  refine ⟨fun pins s σ H Q I h => ?_⟩
  obtain ⟨F, O, e0, r, h⟩ := h
  have A0 : Acc X.K F O H σ (pur p) [] e0 F O H := .start r
  refine isTrue_plain (thn ((hp S X e C hm).run pins s σ H _ I (A0.next (fun z => z) (.inl (nob X.K)) (outR_tru h))) fun u s1 ⟨v1, H1, I1, r1, F1, O1, x1, e1, own1, ⟨b, hb, hN⟩, A1⟩ => ?_) (true_plain (plain_of_mE hm) (hn S e hm) _)
  obtain ⟨fp, rp, _⟩ := (A1.tm.val ⟨v1, x1, own1⟩ (by simp)).rep
  exact truth_ok I1 r1 rp hb (hN F1 O1 H1 A1.step A1.still A1.rel)
theorem se_not {a : PX} (ha : SE cx a) : SE cx (.not a) := fun S X e C hm => by
  simp only [mE] at hm
  split at hm
  · rename_i x pos
    refine ⟨fun pins s σ H Q I h => ?_⟩
    obtain ⟨F, O, e0, r, h⟩ := h
    simp only [evE] at h
    have A0 : Acc X.K F O H σ (pur (.not a)) [] e0 F O H := .start r
    refine UnaryOp_ (thn ((ha S X x C hm).run pins s σ H _ I (A0.next (fun z => z) (.inl (nob X.K)) (outR_tru (outR_bind h)))) fun u s1 ⟨v1, H1, I1, r1, F1, O1, x1, e1, own1, ⟨b, hb, hN⟩, A1⟩ => ?_)
    obtain ⟨fp, rp, _⟩ := (A1.tm.val ⟨v1, x1, own1⟩ (by simp)).rep
    exact not_of (thn (truth_ok (Q := fun b H => b = _ ∧ H = H1) I1 r1 rp hb ⟨rfl, rfl⟩) fun c s2 ⟨H2, I2, e1', e2'⟩ => by
      rw [e1']
      rw [e2'] at I2
      exact ⟨.bl (!b), H1, I2, rfl, A1.give hN _ _ _ _ _ (.atom A1.rel (.bl _))⟩)
  · cases hm
theorem st_not {a : PX} (ha : ST cx a) : ST cx (.not a) := fun S X e C hm => by
  simp only [mE] at hm
  split at hm
  · rename_i x pos
    refine ⟨fun pins s σ H Q I h => ?_⟩
    obtain ⟨F, O, e0, r, h⟩ := h
    simp only [evE] at h
    refine isTrue_not ((ha S X x C hm).run pins s σ H (fun c H1 => Q (!c) H1) I ⟨F, O, e0, r, ?_⟩)
    have h2 := outR_bind (outR_tru h)
    exact h2.imp fun b e1 ⟨c, hc, hN⟩ F' O' H' st sl rl => by
      cases hc
      exact hN F' O' H' st sl rl
  · cases hm

/-! ### and, or -/
theorem and_unf {a b : PX} {e0 : En} {N : Vl → En → Prop} (h : OutR (evE cx (.and a b) e0) N) : OutR (evE cx a e0) fun x e1 => ∃ t, truth x.1 = some t ∧ if t = true then OutR (evE cx b e1) N else N x e1 := by
  simp only [evE] at h
  exact (outR_bind h).imp fun x e1 hN => by
    obtain ⟨t, ht, hN⟩ := outR_of (outR_bind hN)
    refine ⟨t, ht, ?_⟩
    cases t with
    | true => exact hN
    | false => exact hN
theorem or_unf {a b : PX} {e0 : En} {N : Vl → En → Prop} (h : OutR (evE cx (.or a b) e0) N) : OutR (evE cx a e0) fun x e1 => ∃ t, truth x.1 = some t ∧ if t = true then N x e1 else OutR (evE cx b e1) N := by
  simp only [evE] at h
  exact (outR_bind h).imp fun x e1 hN => by
    obtain ⟨t, ht, hN⟩ := outR_of (outR_bind hN)
    refine ⟨t, ht, ?_⟩
    cases t with
    | true => exact hN
    | false => exact hN
/-- the rest of an and, an or -/
theorem and_of {o : BoolOp} {S : Stc} {a b : PX} {p : PX} {e : Expr} (hp : p = .and a b ∧ o = .And ∨ p = .or a b ∧ o = .Or) (h : mE S p e = true) : ∃ x y r pos e', e = .BoolOp o (x :: y :: r) pos ∧ mE S a x = true ∧ mE S b e' = true ∧ ((r = [] ∧ e' = y) ∨ (r ≠ [] ∧ e' = .BoolOp o (y :: r) pos)) := by
  rcases hp with ⟨rfl, rfl⟩ | ⟨rfl, rfl⟩
  · simp only [mE] at h
    split at h
    · rename_i x y pos
      simp only [Bool.and_eq_true] at h
      exact ⟨x, y, [], pos, y, rfl, h.1, h.2, .inl ⟨rfl, rfl⟩⟩
    · rename_i x y z r pos
      simp only [Bool.and_eq_true] at h
      exact ⟨x, y, z :: r, pos, _, rfl, h.1, h.2, .inr ⟨by simp, rfl⟩⟩
    · cases h
  · simp only [mE] at h
    split at h
    · rename_i x y pos
      simp only [Bool.and_eq_true] at h
      exact ⟨x, y, [], pos, y, rfl, h.1, h.2, .inl ⟨rfl, rfl⟩⟩
    · rename_i x y z r pos
      simp only [Bool.and_eq_true] at h
      exact ⟨x, y, z :: r, pos, _, rfl, h.1, h.2, .inr ⟨by simp, rfl⟩⟩
    · cases h
theorem pe_rest {o : BoolOp} {y : Expr} {r : List Expr} {pos : Pos} {e' : Expr} {t : TE} (h : (r = [] ∧ e' = y) ∨ (r ≠ [] ∧ e' = .BoolOp o (y :: r) pos)) (he : PE X e' t) : PE X (.BoolOp o (y :: r) pos) t := by
  rcases h with ⟨rfl, rfl⟩ | ⟨_, rfl⟩
  · exact pe_one he
  · exact he
theorem pw_rest {o : BoolOp} {y : Expr} {r : List Expr} {pos : Pos} {e' : Expr} {t : TT} (h : (r = [] ∧ e' = y) ∨ (r ≠ [] ∧ e' = .BoolOp o (y :: r) pos)) (he : L2.PT X e' t) : PW X (.BoolOp o (y :: r) pos) t := by
  rcases h with ⟨rfl, rfl⟩ | ⟨_, rfl⟩
  · cases o with
    | And => exact pw_and1 he
    | Or => exact pw_or1 he
  · exact ⟨fun wh pins s σ H Q I h => he.run pins s σ H Q I h⟩
theorem and_pur {a b : PX} {pu : Bool} (h : pu = (pur a && pur b)) : (pu = true → pur a = true) ∧ (pu = true → pur b = true) := by
  subst h
  simp only [Bool.and_eq_true]
  exact ⟨fun z => z.1, fun z => z.2⟩
theorem se_and {a b : PX} (ha : SE cx a) (hb : SE cx b) : SE cx (.and a b) := fun S X e C hm => by
  obtain ⟨x, y, rr, pos, e', rfl, h1, h2, h3⟩ := and_of (o := .And) (.inl ⟨rfl, rfl⟩) hm
  refine ⟨fun pins s σ H Q I h => ?_⟩
  obtain ⟨F, O, e0, r, h⟩ := h
  obtain ⟨p1, p2⟩ := and_pur (a := a) (b := b) rfl
  have A0 : Acc X.K F O H σ (pur (.and a b)) [] e0 F O H := .start r
  refine BoolOp_and (thn ((ha S X x C h1).run pins s σ H _ I (A0.next p1 (.inl (nob X.K)) (and_unf h))) fun u s1 ⟨v1, H1, I1, r1, F1, O1, x1, e1, own1, ⟨t, ht, hN⟩, A1⟩ => ?_)
  obtain ⟨fp, rp, _⟩ := (A1.tm.val ⟨v1, x1, own1⟩ (by simp)).rep
  refine thn (truth_ok (Q := fun b' H' => b' = t ∧ H' = H1) I1 r1 rp ht ⟨rfl, rfl⟩) fun c s2 ⟨H2, I2, e1', e2'⟩ => ?_
  subst e1' e2'
  cases c with
  | true =>
    rw [if_pos rfl] at hN
    rw [if_pos rfl]
    have A2 := Acc.drop (ts := []) A1
    exact thn ((pe_rest h3 (hb S X e' C h2)).run pins s2 σ H2 _ I2 (A2.next p2 (.inl (nob X.K)) hN)) fun u s3 ⟨v2, H3, I3, r2, F3, O3, x2, e2, own2, hN2, A3⟩ =>
      ⟨v2, H3, I3, r2, hN2 v2 F3 O3 H3 own2 ⟨A3.step, A3.still, A3.rel, A3.tm.val ⟨v2, x2, own2⟩ (by simp), by have := A3.tm.ap; simpa [tOwn] using this, by have := A3.fr; simpa [tOwn] using this⟩⟩
  | false =>
    rw [if_neg (by decide)] at hN
    rw [if_neg (by decide)]
    exact ⟨v1, H2, I2, r1, hN v1 F1 O1 H2 own1 ⟨A1.step, A1.still, A1.rel, A1.tm.val ⟨v1, x1, own1⟩ (by simp), by have := A1.tm.ap; simpa [tOwn] using this, by have := A1.fr; simpa [tOwn] using this⟩⟩
theorem se_or {a b : PX} (ha : SE cx a) (hb : SE cx b) : SE cx (.or a b) := fun S X e C hm => by
  obtain ⟨x, y, rr, pos, e', rfl, h1, h2, h3⟩ := and_of (o := .Or) (.inr ⟨rfl, rfl⟩) hm
  refine ⟨fun pins s σ H Q I h => ?_⟩
  obtain ⟨F, O, e0, r, h⟩ := h
  obtain ⟨p1, p2⟩ := and_pur (a := a) (b := b) rfl
  have A0 : Acc X.K F O H σ (pur (.or a b)) [] e0 F O H := .start r
  refine BoolOp_or (thn ((ha S X x C h1).run pins s σ H _ I (A0.next p1 (.inl (nob X.K)) (or_unf h))) fun u s1 ⟨v1, H1, I1, r1, F1, O1, x1, e1, own1, ⟨t, ht, hN⟩, A1⟩ => ?_)
  obtain ⟨fp, rp, _⟩ := (A1.tm.val ⟨v1, x1, own1⟩ (by simp)).rep
  refine thn (truth_ok (Q := fun b' H' => b' = t ∧ H' = H1) I1 r1 rp ht ⟨rfl, rfl⟩) fun c s2 ⟨H2, I2, e1', e2'⟩ => ?_
  subst e1' e2'
  cases c with
  | false =>
    rw [if_neg (by decide)] at hN
    rw [if_neg (by decide)]
    have A2 := Acc.drop (ts := []) A1
    exact thn ((pe_rest h3 (hb S X e' C h2)).run pins s2 σ H2 _ I2 (A2.next p2 (.inl (nob X.K)) hN)) fun u s3 ⟨v2, H3, I3, r2, F3, O3, x2, e2, own2, hN2, A3⟩ =>
      ⟨v2, H3, I3, r2, hN2 v2 F3 O3 H3 own2 ⟨A3.step, A3.still, A3.rel, A3.tm.val ⟨v2, x2, own2⟩ (by simp), by have := A3.tm.ap; simpa [tOwn] using this, by have := A3.fr; simpa [tOwn] using this⟩⟩
  | true =>
    rw [if_pos rfl] at hN
    rw [if_pos rfl]
    exact ⟨v1, H2, I2, r1, hN v1 F1 O1 H2 own1 ⟨A1.step, A1.still, A1.rel, A1.tm.val ⟨v1, x1, own1⟩ (by simp), by have := A1.tm.ap; simpa [tOwn] using this, by have := A1.fr; simpa [tOwn] using this⟩⟩
theorem st_and {a b : PX} (ha : ST cx a) (hb : ST cx b) : ST cx (.and a b) := fun S X e C hm => by
  obtain ⟨x, y, rr, pos, e', rfl, h1, h2, h3⟩ := and_of (o := .And) (.inl ⟨rfl, rfl⟩) hm
  refine PW.pt ⟨fun wh pins s σ H Q I h => ?_⟩
  obtain ⟨F, O, e0, r, h⟩ := h
  obtain ⟨p1, p2⟩ := and_pur (a := a) (b := b) rfl
  have A0 : Acc X.K F O H σ (pur (.and a b)) [] e0 F O H := .start r
  have h' : OutR (evE cx a e0).tru fun t e1 => if t = true then OutR (evE cx b e1).tru (TQ X.K F O H σ (pur (.and a b)) Q) else TQ X.K F O H σ (pur (.and a b)) Q false e1 := by
    have q := and_unf (outR_tru h)
    unfold R.tru
    cases hr : evE cx a e0 with
    | ok x1 e1 =>
      rw [hr] at q
      obtain ⟨t, ht, q⟩ := q
      show OutR (R.of (truth x1.1) e1) _
      rw [ht]
      cases t with
      | true =>
        show OutR (evE cx b e1).tru _
        rw [if_pos rfl] at q
        unfold R.tru
        cases hr2 : evE cx b e1 with
        | ok x2 e2 =>
          rw [hr2] at q
          obtain ⟨b2, hb2, q⟩ := q
          show OutR (R.of (truth x2.1) e2) _
          rw [hb2]
          exact q
        | ex x e => rw [hr2] at q; exact q
        | bad => rw [hr2] at q; exact q
      | false =>
        rw [if_neg (by decide)] at q
        obtain ⟨b2, hb2, q⟩ := q
        rw [ht] at hb2
        cases hb2
        exact q
    | ex x e => rw [hr] at q; exact q
    | bad => rw [hr] at q; exact q
  refine isTrue_and (thn ((ha S X x C h1).run pins s σ H _ I (A0.test p1 (.inl (nob X.K)) h')) fun c s1 ⟨H1, I1, F1, O1, e1, hN, A1⟩ => ?_)
  cases c with
  | true =>
    rw [if_pos rfl] at hN ⊢
    exact thn ((pw_rest h3 (hb S X e' C h2)).run wh pins s1 σ H1 _ I1 (A1.test p2 (.inl (nob X.K)) hN)) fun c s2 ⟨H2, I2, F2, O2, e2, hN2, A2⟩ => ⟨H2, I2, hN2 F2 O2 H2 A2.step A2.still A2.rel⟩
  | false =>
    rw [if_neg (by decide)] at hN ⊢
    exact ⟨H1, I1, hN F1 O1 H1 A1.step A1.still A1.rel⟩
theorem st_or {a b : PX} (ha : ST cx a) (hb : ST cx b) : ST cx (.or a b) := fun S X e C hm => by
  obtain ⟨x, y, rr, pos, e', rfl, h1, h2, h3⟩ := and_of (o := .Or) (.inr ⟨rfl, rfl⟩) hm
  refine PW.pt ⟨fun wh pins s σ H Q I h => ?_⟩
  obtain ⟨F, O, e0, r, h⟩ := h
  obtain ⟨p1, p2⟩ := and_pur (a := a) (b := b) rfl
  have A0 : Acc X.K F O H σ (pur (.or a b)) [] e0 F O H := .start r
  have h' : OutR (evE cx a e0).tru fun t e1 => if t = true then TQ X.K F O H σ (pur (.or a b)) Q true e1 else OutR (evE cx b e1).tru (TQ X.K F O H σ (pur (.or a b)) Q) := by
    have q := or_unf (outR_tru h)
    unfold R.tru
    cases hr : evE cx a e0 with
    | ok x1 e1 =>
      rw [hr] at q
      obtain ⟨t, ht, q⟩ := q
      show OutR (R.of (truth x1.1) e1) _
      rw [ht]
      cases t with
      | false =>
        show OutR (evE cx b e1).tru _
        rw [if_neg (by decide)] at q
        unfold R.tru
        cases hr2 : evE cx b e1 with
        | ok x2 e2 =>
          rw [hr2] at q
          obtain ⟨b2, hb2, q⟩ := q
          show OutR (R.of (truth x2.1) e2) _
          rw [hb2]
          exact q
        | ex x e => rw [hr2] at q; exact q
        | bad => rw [hr2] at q; exact q
      | true =>
        rw [if_pos rfl] at q
        obtain ⟨b2, hb2, q⟩ := q
        rw [ht] at hb2
        cases hb2
        exact q
    | ex x e => rw [hr] at q; exact q
    | bad => rw [hr] at q; exact q
  refine isTrue_or (thn ((ha S X x C h1).run pins s σ H _ I (A0.test p1 (.inl (nob X.K)) h')) fun c s1 ⟨H1, I1, F1, O1, e1, hN, A1⟩ => ?_)
  cases c with
  | false =>
    rw [if_neg (by decide)] at hN ⊢
    exact thn ((pw_rest h3 (hb S X e' C h2)).run wh pins s1 σ H1 _ I1 (A1.test p2 (.inl (nob X.K)) hN)) fun c s2 ⟨H2, I2, F2, O2, e2, hN2, A2⟩ => ⟨H2, I2, hN2 F2 O2 H2 A2.step A2.still A2.rel⟩
  | true =>
    rw [if_pos rfl] at hN ⊢
    exact ⟨H1, I1, hN F1 O1 H1 A1.step A1.still A1.rel⟩
end
end Ev

/-! Ev14: comparisons, choices, argument lists, displays, subscripts, builtins. -/
namespace Ev
open PySem PySem.Spec PyProof.Rows L2
section
variable {S : Stc} {X : Cx} {cx : CX} {e : Expr}
/-- the end of an expression by its last value -/
theorem Acc.last {K : PySem.W.Frag} {F O F1 O1 : AP'} {H H1 : Hp} {σ : L2.St} {e1 : En} {pu : Bool} {v : V} {x : Vl} {own : List Addr} (A : Acc K F O H σ pu [⟨v, x, own⟩] e1 F1 O1 H1) : Come K F O [] H σ pu x e1 v F1 O1 H1 own :=
  ⟨A.step, A.still, A.rel, A.tm.val ⟨v, x, own⟩ (by simp), by have := A.tm.ap; simpa [tOwn] using this, by have := A.fr; simpa [tOwn] using this⟩
theorem Acc.none {K : PySem.W.Frag} {F O F1 O1 : AP'} {H H1 : Hp} {σ : L2.St} {e1 : En} {pu : Bool} {ts : List Tmp} (A : Acc K F O H σ pu ts e1 F1 O1 H1) : Acc K F O H σ pu [] e1 F1 O1 H1 := Acc.drop (ts := []) A
theorem rep_at {K : PySem.W.Frag} {F O F1 O1 : AP'} {H H1 : Hp} {σ : L2.St} {e1 : En} {pu : Bool} {ts : List Tmp} {t : Tmp} (A : Acc K F O H σ pu ts e1 F1 O1 H1) (h : t ∈ ts) : ∃ fp, Rep K H1 t.v t.x.1 fp := by
  obtain ⟨fp, rp, _⟩ := (A.tm.val t h).rep
  exact ⟨fp, rp⟩
theorem se_cmp {o : CmpOp} {a b : PX} (ha : SE cx a) (hb : SE cx b) : SE cx (.cmp o a b) := fun S X e C hm => by
  simp only [mE] at hm
  split at hm
  · rename_i x o' y pos
    simp only [Bool.and_eq_true, decide_eq_true_eq] at hm
    obtain ⟨⟨rfl, h1⟩, h2⟩ := hm
    refine ⟨fun pins s σ H Q I h => ?_⟩
    obtain ⟨F, O, e0, r, h⟩ := h
    simp only [evE] at h
    obtain ⟨p1, p2⟩ := and_pur (a := a) (b := b) rfl
    have A0 : Acc X.K F O H σ (pur (.cmp o a b)) [] e0 F O H := .start r
    refine wpAny_Compare1 (thn ((ha S X x C h1).run pins s σ H _ I (A0.next p1 (.inl (nob X.K)) (outR_bind h))) fun u s1 ⟨v1, H1, I1, r1, F1, O1, x1, e1, own1, hN1, A1⟩ => ?_) (marks_plain (plain_of_mE h2) _)
    obtain ⟨hg, hN1⟩ := outR_guard hN1
    refine thn ((hb S X y C h2).run pins s1 σ H1 _ I1 (A1.next p2 (nob_one hg) (outR_bind hN1))) fun u' s2 ⟨v2, H2, I2, r2, F2, O2, x2, e2, own2, hN2, A2⟩ => ?_
    obtain ⟨t, ht, hq⟩ := outR_of (outR_bind hN2)
    obtain ⟨f1, rp1⟩ := rep_at A2 (t := ⟨v1, x1, own1⟩) (by simp)
    obtain ⟨f2, rp2⟩ := rep_at A2 (t := ⟨v2, x2, own2⟩) (by simp)
    exact cmpS_ok C.hu I2 r1 r2 rp1 rp2 ht (A2.give hq _ _ _ _ _ (.atom A2.rel (.bl _)))
  · cases hm
theorem tru_bl {α : Type} {r : R Bool} {N : Bool → En → Prop} (h : OutR (r.bind fun t e => R.ok (D.bl t, Fl.deep) e).tru N) : OutR r N := by
  cases r with
  | ok a e => exact h
  | ex x e => exact h
  | bad => exact h
theorem st_cmp {o : CmpOp} {a b : PX} (ha : SE cx a) (hb : SE cx b) : ST cx (.cmp o a b) := fun S X e C hm => by
  simp only [mE] at hm
  split at hm
  · rename_i x o' y pos
    simp only [Bool.and_eq_true, decide_eq_true_eq] at hm
    obtain ⟨⟨rfl, h1⟩, h2⟩ := hm
    refine ⟨fun pins s σ H Q I h => ?_⟩
    obtain ⟨F, O, e0, r, h⟩ := h
    have h := outR_tru h
    simp only [evE] at h
    obtain ⟨p1, p2⟩ := and_pur (a := a) (b := b) rfl
    have A0 : Acc X.K F O H σ (pur (.cmp o a b)) [] e0 F O H := .start r
    refine wpAny_isTrue_Compare1 (thn ((ha S X x C h1).run pins s σ H _ I (A0.next p1 (.inl (nob X.K)) (outR_bind h))) fun u s1 ⟨v1, H1, I1, r1, F1, O1, x1, e1, own1, hN1, A1⟩ => ?_) (marks_plain (plain_of_mE h2) _)
    obtain ⟨hg, hN1⟩ := outR_guard hN1
    refine thn ((hb S X y C h2).run pins s1 σ H1 _ I1 (A1.next p2 (nob_one hg) (outR_bind hN1))) fun u' s2 ⟨v2, H2, I2, r2, F2, O2, x2, e2, own2, hN2, A2⟩ => ?_
    obtain ⟨t, ht, b', hb', hq⟩ := outR_of (outR_bind hN2)
    cases hb'
    obtain ⟨f1, rp1⟩ := rep_at A2 (t := ⟨v1, x1, own1⟩) (by simp)
    obtain ⟨f2, rp2⟩ := rep_at A2 (t := ⟨v2, x2, own2⟩) (by simp)
    refine thn (cmpS_ok (Q := fun v H' => v = .bl t ∧ H' = H2) C.hu I2 r1 r2 rp1 rp2 ht ⟨rfl, rfl⟩) fun c s3 ⟨v3, H3, I3, r3, e1', e2'⟩ => ?_
    subst e1' e2'
    cases r3
    exact wpAny_truthy_bool ⟨H3, I3, hq F2 O2 H3 A2.step A2.still A2.rel⟩
  · cases hm
theorem marks2 {o p : CmpOp} {y z : Expr} (h : plainE z = true) : lastMarks [o, p] [y, z] = false := by
  show behindInMarks p z = false
  exact marks_plain h p
theorem chn_pur {a b c : PX} {pu : Bool} (h : pu = (pur a && pur b && pur c)) : (pu = true → pur a = true) ∧ (pu = true → pur b = true) ∧ (pu = true → pur c = true) := by
  subst h
  simp only [Bool.and_eq_true]
  exact ⟨fun z => z.1.1, fun z => z.1.2, fun z => z.2⟩
theorem Acc.tail {K : PySem.W.Frag} {F O F1 O1 : AP'} {H H1 : Hp} {σ : L2.St} {e1 : En} {pu : Bool} {t : Tmp} {ts : List Tmp} (A : Acc K F O H σ pu (t :: ts) e1 F1 O1 H1) : Acc K F O H σ pu ts e1 F1 O1 H1 where
  step := A.step
  still := A.still
  rel := A.rel
  tm := by
    have e : tOwn (t :: ts) = t.own ++ tOwn ts := by simp [tOwn]
    have nd := A.tm.nd
    have ap := A.tm.ap
    rw [e] at nd ap
    exact ⟨fun u hu => A.tm.val u (List.mem_cons_of_mem _ hu), (List.nodup_append.mp nd).2.1, ⟨fun b hb => ap.nf b (List.mem_append_right _ hb), fun b hb => ap.no b (List.mem_append_right _ hb)⟩⟩
  fr := fun b hb => A.fr b (by simp only [tOwn, List.flatMap_cons, List.mem_append]; exact .inr hb)
theorem se_chn {o p : CmpOp} {a b c : PX} (ha : SE cx a) (hb : SE cx b) (hc : SE cx c) : SE cx (.chn o p a b c) := fun S X e C hm => by
  simp only [mE] at hm
  split at hm
  · rename_i x o' p' y z pos
    simp only [Bool.and_eq_true, decide_eq_true_eq] at hm
    obtain ⟨⟨⟨⟨rfl, rfl⟩, h1⟩, h2⟩, h3⟩ := hm
    refine ⟨fun pins s σ H Q I h => ?_⟩
    obtain ⟨F, O, e0, r, h⟩ := h
    simp only [evE] at h
    obtain ⟨p1, p2, p3⟩ := chn_pur (a := a) (b := b) (c := c) rfl
    have A0 : Acc X.K F O H σ (pur (.chn o p a b c)) [] e0 F O H := .start r
    refine Compare_chain (thn ((ha S X x C h1).run pins s σ H _ I (A0.next p1 (.inl (nob X.K)) (outR_bind h))) fun u s1 ⟨v1, H1, I1, r1, F1, O1, x1, e1, own1, hN1, A1⟩ => ?_) (marks2 (plain_of_mE h3))
    obtain ⟨hg, hN1⟩ := outR_guard hN1
    refine chain_link (thn ((hb S X y C h2).run pins s1 σ H1 _ I1 (A1.next p2 (nob_one hg) (outR_bind hN1))) fun u' s2 ⟨v2, H2, I2, r2, F2, O2, x2, e2, own2, hN2, A2⟩ => ?_)
    obtain ⟨t, ht, hq⟩ := outR_of (outR_bind hN2)
    obtain ⟨f1, rp1⟩ := rep_at A2 (t := ⟨v1, x1, own1⟩) (by simp)
    obtain ⟨f2, rp2⟩ := rep_at A2 (t := ⟨v2, x2, own2⟩) (by simp)
    refine thn (cmpS_ok (Q := fun v H' => v = .bl t ∧ H' = H2) C.hu I2 r1 r2 rp1 rp2 ht ⟨rfl, rfl⟩) fun w3 s3 ⟨v3, H3, I3, r3, e1', e2'⟩ => ?_
    subst e1' e2'
    cases r3
    refine wpAny_truthy_bool ?_
    cases t with
    | false =>
      rw [if_neg (by decide)] at hq
      exact ite_ff ⟨.bl false, H3, I3, rfl, A2.give hq _ _ _ _ _ (.atom A2.rel (.bl _))⟩
    | true =>
      rw [if_pos rfl] at hq
      obtain ⟨hg2, hq⟩ := outR_guard hq
      have A2' := Acc.tail (t := ⟨v1, x1, own1⟩) A2
      refine ite_tt (chain_last (thn ((hc S X z C h3).run pins s3 σ H3 _ I3 (A2'.next p3 (nob_one hg2) (outR_bind hq))) fun u4 s4 ⟨v4, H4, I4, r4, F4, O4, x4, e4, own4, hN4, A4⟩ => ?_))
      obtain ⟨t', ht', hq'⟩ := outR_of (outR_bind hN4)
      obtain ⟨f2, rp2⟩ := rep_at A4 (t := ⟨v2, x2, own2⟩) (by simp)
      obtain ⟨f4, rp4⟩ := rep_at A4 (t := ⟨v4, x4, own4⟩) (by simp)
      exact cmpS_ok C.hu I4 r2 r4 rp2 rp4 ht' (A4.give hq' _ _ _ _ _ (.atom A4.rel (.bl _)))
  · cases hm
theorem st_chn {o p : CmpOp} {a b c : PX} (ha : SE cx a) (hb : SE cx b) (hc : SE cx c) : ST cx (.chn o p a b c) := fun S X e C hm => by
  simp only [mE] at hm
  split at hm
  · rename_i x o' p' y z pos
    simp only [Bool.and_eq_true, decide_eq_true_eq] at hm
    obtain ⟨⟨⟨⟨rfl, rfl⟩, h1⟩, h2⟩, h3⟩ := hm
    refine ⟨fun pins s σ H Q I h => ?_⟩
    obtain ⟨F, O, e0, r, h⟩ := h
    have h := outR_tru h
    simp only [evE] at h
    obtain ⟨p1, p2, p3⟩ := chn_pur (a := a) (b := b) (c := c) rfl
    have A0 : Acc X.K F O H σ (pur (.chn o p a b c)) [] e0 F O H := .start r
    refine isTrue_chain (thn ((ha S X x C h1).run pins s σ H _ I (A0.next p1 (.inl (nob X.K)) (outR_bind h))) fun u s1 ⟨v1, H1, I1, r1, F1, O1, x1, e1, own1, hN1, A1⟩ => ?_) (marks2 (plain_of_mE h3))
    obtain ⟨hg, hN1⟩ := outR_guard hN1
    refine test_link (thn ((hb S X y C h2).run pins s1 σ H1 _ I1 (A1.next p2 (nob_one hg) (outR_bind hN1))) fun u' s2 ⟨v2, H2, I2, r2, F2, O2, x2, e2, own2, hN2, A2⟩ => ?_)
    obtain ⟨t, ht, hq⟩ := outR_of (outR_bind hN2)
    obtain ⟨f1, rp1⟩ := rep_at A2 (t := ⟨v1, x1, own1⟩) (by simp)
    obtain ⟨f2, rp2⟩ := rep_at A2 (t := ⟨v2, x2, own2⟩) (by simp)
    refine thn (cmpS_ok (Q := fun v H' => v = .bl t ∧ H' = H2) C.hu I2 r1 r2 rp1 rp2 ht ⟨rfl, rfl⟩) fun w3 s3 ⟨v3, H3, I3, r3, e1', e2'⟩ => ?_
    subst e1' e2'
    cases r3
    refine wpAny_truthy_bool ?_
    cases t with
    | false =>
      rw [if_neg (by decide)] at hq
      obtain ⟨b', hb', hq⟩ := hq
      cases hb'
      exact ite_ff ⟨H3, I3, hq F2 O2 H3 A2.step A2.still A2.rel⟩
    | true =>
      rw [if_pos rfl] at hq
      obtain ⟨hg2, hq⟩ := outR_guard hq
      have A2' := Acc.tail (t := ⟨v1, x1, own1⟩) A2
      refine ite_tt (test_last (thn ((hc S X z C h3).run pins s3 σ H3 _ I3 (A2'.next p3 (nob_one hg2) (outR_bind hq))) fun u4 s4 ⟨v4, H4, I4, r4, F4, O4, x4, e4, own4, hN4, A4⟩ => ?_))
      obtain ⟨t', ht', b', hb', hq'⟩ := outR_of (outR_bind hN4)
      cases hb'
      obtain ⟨f2, rp2⟩ := rep_at A4 (t := ⟨v2, x2, own2⟩) (by simp)
      obtain ⟨f4, rp4⟩ := rep_at A4 (t := ⟨v4, x4, own4⟩) (by simp)
      refine thn (cmpS_ok (Q := fun v H' => v = .bl t' ∧ H' = H4) C.hu I4 r2 r4 rp2 rp4 ht' ⟨rfl, rfl⟩) fun w5 s5 ⟨v5, H5, I5, r5, e1', e2'⟩ => ?_
      subst e1' e2'
      cases r5
      exact wpAny_truthy_bool ⟨H5, I5, hq' F4 O4 H5 A4.step A4.still A4.rel⟩
  · cases hm
theorem se_ife {t a b : PX} (ht : ST cx t) (ha : SE cx a) (hb : SE cx b) : SE cx (.ife t a b) := fun S X e C hm => by
  simp only [mE] at hm
  split at hm
  · rename_i u x y pos
    simp only [Bool.and_eq_true] at hm
    obtain ⟨⟨h1, h2⟩, h3⟩ := hm
    refine ⟨fun pins s σ H Q I h => ?_⟩
    obtain ⟨F, O, e0, r, h⟩ := h
    simp only [evE] at h
    obtain ⟨p1, p2, p3⟩ := chn_pur (a := t) (b := a) (c := b) rfl
    have A0 : Acc X.K F O H σ (pur (.ife t a b)) [] e0 F O H := .start r
    refine wpAny_IfExp (thn ((ht S X u C h1).run pins s σ H _ I (A0.test p1 (.inl (nob X.K)) (outR_bind h))) fun c s1 ⟨H1, I1, F1, O1, e1, hN, A1⟩ => ?_)
    cases c with
    | true =>
      rw [if_pos rfl] at hN ⊢
      exact thn ((ha S X x C h2).run pins s1 σ H1 _ I1 (A1.next p2 (.inl (nob X.K)) hN)) fun u s3 ⟨v2, H3, I3, r2, F3, O3, x2, e2, own2, hN2, A3⟩ => ⟨v2, H3, I3, r2, hN2 v2 F3 O3 H3 own2 A3.last⟩
    | false =>
      rw [if_neg (by decide)] at hN ⊢
      exact thn ((hb S X y C h3).run pins s1 σ H1 _ I1 (A1.next p3 (.inl (nob X.K)) hN)) fun u s3 ⟨v2, H3, I3, r2, F3, O3, x2, e2, own2, hN2, A3⟩ => ⟨v2, H3, I3, r2, hN2 v2 F3 O3 H3 own2 A3.last⟩
  · cases hm
end
end Ev

/-! Ev15: argument lists, displays, subscripts, builtins. -/
namespace Ev
open PySem PySem.Spec PyProof.Rows L2
section
variable {S : Stc} {X : Cx} {cx : CX} {e : Expr}
def AllSE (cx : CX) : PXs → Prop
  | .nil => True
  | .cons e es => SE cx e ∧ AllSE cx es
theorem args_ok : ∀ {es : PXs} {xs : List Expr}, AllSE cx es → mA S es xs = true → Ctx S X cx → ∀ {pos : Pos} {pins : List (Addr × Obj)} {s : Shared} {σ : L2.St} {F O F1 O1 : AP'} {H H1 : Hp} {pu : Bool} {ts : List Tmp} {e1 : En} {N : List Vl → En → Prop},
    Acc X.K F O H σ pu ts e1 F1 O1 H1 → (pu = true → pures es = true) → (NoBor ts ∨ pures es = true) → OutR (evL cx es e1) N → Inv X pins σ H1 s →
    wpAny (model X.prog X.w) X.A (spliced (backTo pos (starEach xs X.env))) (fun us s2 => ∃ H2 F2 O2 e2 us', Inv X pins σ H2 s2 ∧ N (us'.map (·.x)) e2 ∧ Acc X.K F O H σ pu (ts ++ us') e2 F2 O2 H2 ∧ Vals (us'.map (·.v)) us) X.xe s
  | .nil, xs, _, hm, C, pos, pins, s, σ, F, O, F1, O1, H, H1, pu, ts, e1, N, A, hp, hb, h, I => by
    cases xs with
    | nil =>
      simp only [evL] at h
      exact Calls.spliced_nil ⟨H1, F1, O1, e1, [], I, h, by rw [List.append_nil]; exact A, .nil⟩
    | cons x r => exact absurd hm (by simp [mA])
  | .cons a es, xs, hS, hm, C, pos, pins, s, σ, F, O, F1, O1, H, H1, pu, ts, e1, N, A, hp, hb, h, I => by
    cases xs with
    | nil => exact absurd hm (by simp [mA])
    | cons x r =>
      have hm' : mE S a x = true ∧ mA S es r = true := by simpa [mA] using hm
      simp only [evL] at h
      have e0 : pures (.cons a es) = (pur a && pures es) := by simp only [pures]
      rw [e0] at hp hb
      have hp1 : pu = true → pur a = true := fun z => by have := hp z; simp only [Bool.and_eq_true] at this; exact this.1
      have hp2 : pu = true → pures es = true := fun z => by have := hp z; simp only [Bool.and_eq_true] at this; exact this.2
      refine args_cons (thn ((hS.1 S X x C hm'.1).run pins s σ H1 _ I (A.next hp1 (hb.imp id fun z => by simp only [Bool.and_eq_true] at z; exact z.1) (outR_bind h))) fun u s1 ⟨v1, H2, I2, r2, F2, O2, x2, e2, own2, hN, A2⟩ => ?_) (star_plain (plain_of_mE hm'.1))
      obtain ⟨hg, hN⟩ := outR_guard hN
      have hb2 : NoBor (ts ++ [⟨v1, x2, own2⟩]) ∨ pures es = true := by
        rcases hb with hb | hb
        · rcases nob_one hg with z | z
          · exact .inl fun t ht => (List.mem_append.mp ht).elim (hb t) (z t)
          · exact .inr z
        · simp only [Bool.and_eq_true] at hb
          exact .inr hb.2
      refine thn (args_ok hS.2 hm'.2 C A2 hp2 hb2 (outR_bind hN) I2) fun us s3 ⟨H3, F3, O3, e3, us', I3, hN3, A3, r3⟩ => ?_
      exact ⟨H3, F3, O3, e3, ⟨v1, x2, own2⟩ :: us', I3, hN3, by rw [List.append_assoc] at A3; exact A3, .cons r2 r3⟩
/-- the items at hand -/
theorem temps_reps {K : PySem.W.Frag} {F O : AP'} {H : Hp} : ∀ {ts : List Tmp}, (∀ t ∈ ts, Val K F O H t.v t.x t.own) → ∃ g, Reps K H (ts.map (·.v)) ((ts.map (·.x)).map (·.1)) g ∧ (((ts.map (·.x)).all fun x => decide (x.2 = .deep)) = true → g = tOwn ts) ∧
    (((ts.map (·.x)).all fun x => decide (x.2 ≠ .bor)) = true → ∀ b ∈ g, F b ∨ b ∈ tOwn ts) ∧ (∀ b ∈ g, F b ∨ O b ∨ b ∈ tOwn ts)
  | [], _ => ⟨[], .nil, fun _ => rfl, (fun _ _ h => nomatch h), (fun _ h => nomatch h)⟩
  | t :: ts, h => by
    obtain ⟨g, r, h1, h2, h3⟩ := temps_reps fun u hu => h u (List.mem_cons_of_mem _ hu)
    obtain ⟨fp, rp, c1, c2, c3, c4⟩ := (h t List.mem_cons_self).nodes
    have e : tOwn (t :: ts) = t.own ++ tOwn ts := by simp [tOwn]
    obtain ⟨fq, rq, cq⟩ := (h t List.mem_cons_self).rep
    refine ⟨fp ++ g, .cons rp r, fun hd => ?_, fun hd b hb => ?_, fun b hb => ?_⟩
    · simp only [List.map_cons, List.all_cons, Bool.and_eq_true, decide_eq_true_eq] at hd
      rw [e, h1 hd.2, (c1 hd.1).1]
    · simp only [List.map_cons, List.all_cons, Bool.and_eq_true, decide_eq_true_eq] at hd
      rw [e]
      rcases List.mem_append.mp hb with hb | hb
      · cases hf : t.x.2 with
        | deep => exact .inr (List.mem_append_left _ (by rw [(c1 hf).1]; exact hb))
        | top => exact (c2 hf b hb).imp id (List.mem_append_left _)
        | fro => exact .inl (c3 hf b hb)
        | bor => exact absurd hf hd.1
      · exact (h2 hd.2 b hb).imp id (List.mem_append_right _)
    · rw [e]
      rcases List.mem_append.mp hb with hb | hb
      · cases hf : t.x.2 with
        | deep => exact .inr (.inr (List.mem_append_left _ (by rw [(c1 hf).1]; exact hb)))
        | top => exact (c2 hf b hb).imp id fun z => .inr (List.mem_append_left _ z)
        | fro => exact .inl (c3 hf b hb)
        | bor => exact (c4 hf b hb).imp id .inl
      · exact (h3 b hb).imp id fun z => z.imp id (List.mem_append_right _)
theorem temps_give {K : PySem.W.Frag} {F O : AP'} {H : Hp} : ∀ {ts : List Tmp} {ws : List Vl}, (∀ t ∈ ts, Val K F O H t.v t.x t.own) → (tOwn ts).Nodup → (ts.map (·.x)).mapM esc = some ws → ∃ g, Reps K H (ts.map (·.v)) ((ts.map (·.x)).map (·.1)) g ∧
    (∀ b ∈ g, F b ∨ b ∈ tOwn ts) ∧ ((ws.all fun x => decide (x.2 = .deep)) = true → g.Nodup ∧ ∀ b ∈ g, b ∈ tOwn ts)
  | [], _, _, _, _ => ⟨[], .nil, (fun _ h => nomatch h), fun _ => ⟨.nil, (fun _ h => nomatch h)⟩⟩
  | t :: ts, ws, h, nd, hw => by
    have e : tOwn (t :: ts) = t.own ++ tOwn ts := by simp [tOwn]
    rw [e] at nd
    rw [e]
    obtain ⟨nd1, nd2, nd3⟩ := perm2 nd
    rw [List.map_cons, List.mapM_cons] at hw
    cases h1 : esc t.x with
    | none => rw [h1] at hw; cases hw
    | some y =>
      rw [h1] at hw
      cases h2 : (ts.map (·.x)).mapM esc with
      | none => rw [h2] at hw; cases hw
      | some ys =>
        rw [h2] at hw
        cases hw
        obtain ⟨d, gf⟩ := y
        have ed : d = t.x.1 := (esc_data h1).1
        obtain ⟨g, r, c1, c2⟩ := temps_give (fun u hu => h u (List.mem_cons_of_mem _ hu)) nd2 h2
        obtain ⟨fp, rp, d1, d2, _⟩ := (h t List.mem_cons_self).give h1
        refine ⟨fp ++ g, ?_, fun b hb => ?_, fun hd => ?_⟩
        · rw [List.map_cons, List.map_cons, List.map_cons, ← ed]
          exact .cons rp r
        · rcases List.mem_append.mp hb with hb | hb
          · exact (d1 b hb).imp id (List.mem_append_left _)
          · exact (c1 b hb).imp id (List.mem_append_right _)
        · simp only [List.all_cons, Bool.and_eq_true, decide_eq_true_eq] at hd
          obtain ⟨q1, q2⟩ := d2 hd.1
          obtain ⟨q3, q4⟩ := c2 hd.2
          refine ⟨?_, fun b hb => (List.mem_append.mp hb).elim (fun z => List.mem_append_left _ (q2 b z)) fun z => List.mem_append_right _ (q4 b z)⟩
          rw [List.nodup_append]
          refine ⟨q1, q3, fun b hb b' hb' ee => ?_⟩
          subst ee
          exact nd3 b (q2 b hb) (q4 b hb')
theorem pures_cons {a : PX} {es : PXs} : pures (.cons a es) = (pur a && pures es) := by simp only [pures]
theorem se_tup {es : PXs} (hS : AllSE cx es) : SE cx (.tup es) := fun S X e C hm => by
  simp only [mE] at hm
  split at hm
  · rename_i xs k pos
    refine ⟨fun pins s σ H Q I h => ?_⟩
    obtain ⟨F, O, e0, r, h⟩ := h
    simp only [evE] at h
    have A0 : Acc X.K F O H σ (pur (.tup es)) [] e0 F O H := .start r
    refine wpAny_Tuple_spliced (thn (args_ok hS hm C A0 (fun z => z) (.inl (nob X.K)) (outR_bind h) I) fun us s1 ⟨H1, F1, O1, e1, ts, I1, hN, A1, r1⟩ => ?_)
    obtain ⟨hz, hN⟩ := outR_ite hN
    rw [List.nil_append] at A1
    have hl : us.length = ts.length := by rw [← r1.length, List.length_map]
    rw [List.length_map] at hz
    refine ⟨by rw [hl]; exact hz, ?_⟩
    have hp : H1 s1.heap.objs.size = none := I1.hok.fresh (Nat.le_refl _)
    obtain ⟨g, rg, c1, c2, c3⟩ := temps_reps A1.tm.val
    have ap := A1.tm.ap
    have hm' := A1.tm.mut
    have rep : Rep X.K (upd H1 s1.heap.objs.size (.tup (ts.map (·.v)))) (.ref s1.heap.objs.size) (.tup ((ts.map (·.x)).map (·.1))) g := .tup (.of upd_same) (reps_upd rg hp)
    refine ⟨.ref s1.heap.objs.size, _, I1.laid (t' := s1.toks) (o := .tup (ts.map (·.v))) (fun b u e => Heap.get?_push_of_some _ e) (Nat.le_refl _) ⟨by rw [List.length_map]; exact hz, us, r1, ⟨_, Heap.get?_push_size _ rfl, rfl, _, rfl⟩⟩, rfl, ?_⟩
    have G := A1.give hN
    by_cases hd : ((ts.map (·.x)).all fun x => decide (x.2 = .deep)) = true
    · rw [if_pos hd] at G
      have eg := c1 hd
      subst eg
      exact G _ _ _ _ _ (tup_deep (upd_more hp) A1.rel rep A1.tm.nd (fun b hb => hb) ap)
    · rw [if_neg hd] at G
      by_cases hd2 : ((ts.map (·.x)).all fun x => decide (x.2 ≠ .bor)) = true
      · rw [if_pos hd2] at G
        exact G _ _ _ _ _ (tup_fro (upd_more hp) A1.rel rep (c2 hd2) ap hm')
      · rw [if_neg hd2] at G
        refine G _ (addF F1 (tOwn ts)) O1 _ [] ⟨addF_step (upd_more hp), fun _ => addF_still (upd_more hp), addF_rel A1.rel (upd_more hp) ap hm', ⟨g, rep, fun b hb => ?_, rfl⟩, .nil, fun _ h => nomatch h⟩
        rcases c3 b hb with z | z | z
        · exact .inl (.inl z)
        · exact .inr z
        · exact .inl (.inr z)
  · cases hm
theorem se_lst {es : PXs} (hS : AllSE cx es) : SE cx (.lst es) := fun S X e C hm => by
  simp only [mE] at hm
  split at hm
  · rename_i xs pos
    refine ⟨fun pins s σ H Q I h => ?_⟩
    obtain ⟨F, O, e0, r, h⟩ := h
    simp only [evE] at h
    have A0 : Acc X.K F O H σ (pur (.lst es)) [] e0 F O H := .start r
    refine wpAny_List_spliced (thn (args_ok hS hm C A0 (fun z => z) (.inl (nob X.K)) (outR_bind h) I) fun us s1 ⟨H1, F1, O1, e1, ts, I1, hN, A1, r1⟩ => ?_)
    rw [List.nil_append] at A1
    cases hw : (ts.map (·.x)).mapM esc with
    | none => rw [hw] at hN; exact hN.elim
    | some ws =>
      rw [hw] at hN
      obtain ⟨hz, hN⟩ := outR_ite hN
      have hl : us.length = ts.length := by rw [← r1.length, List.length_map]
      rw [List.length_map] at hz
      refine ⟨by rw [hl]; exact hz, ?_⟩
      have hp : H1 s1.heap.objs.size = none := I1.hok.fresh (Nat.le_refl _)
      obtain ⟨g, rg, c1, c2⟩ := temps_give A1.tm.val A1.tm.nd hw
      have ap := A1.tm.ap
      have hm' := A1.tm.mut
      refine ⟨.ref s1.heap.objs.size, _, I1.laid (t' := s1.toks) (o := .lst (ts.map (·.v))) (fun b u e => Heap.get?_push_of_some _ e) (Nat.le_refl _) ⟨by rw [List.length_map]; exact hz, us, 0, r1, Heap.get?_push_size _ rfl⟩, rfl, ?_⟩
      have G := A1.give hN
      by_cases hd : (ws.all fun x => decide (x.2 = .deep)) = true
      · rw [if_pos hd] at G
        exact G _ _ _ _ _ (new_deep A1.rel hp rg (c2 hd).1 (c2 hd).2 ap)
      · rw [if_neg hd] at G
        exact G _ _ _ _ _ (new_top A1.rel hp rg c1 ap hm')
  · cases hm
theorem se_dic : SE cx .dic := fun S X e C hm => by
  simp only [mE] at hm
  split at hm
  · refine ⟨fun pins s σ H Q I h => pe_dnewK.run pins s σ H Q I fun p hp => ?_⟩
    obtain ⟨F, O, e0, r, h⟩ := h
    simp only [evE] at h
    refine h _ F O _ [p] ⟨step_alloc hp, fun _ => still_alloc hp, r.alloc hp, ⟨.dic upd_same .nil, by simp⟩, ⟨fun b hb z => ?_, fun b hb z => ?_⟩, fun b hb => .inr (.inr (by rw [List.mem_singleton.mp hb]; exact hp))⟩
    · obtain rfl := List.mem_singleton.mp hb
      have m := r.sep.f _ z; rw [hp] at m; exact m
    · obtain rfl := List.mem_singleton.mp hb
      have m := r.sep.o _ z; rw [hp] at m; exact m
  · cases hm
theorem se_ix {a b : PX} (ha : SE cx a) (hb : SE cx b) : SE cx (.ix a b) := fun S X e C hm => by
  simp only [mE] at hm
  split at hm
  · rename_i x y pos
    simp only [Bool.and_eq_true] at hm
    obtain ⟨h1, h2⟩ := hm
    refine ⟨fun pins s σ H Q I h => ?_⟩
    obtain ⟨F, O, e0, r, h⟩ := h
    simp only [evE] at h
    obtain ⟨p1, p2⟩ := and_pur (a := a) (b := b) rfl
    have A0 : Acc X.K F O H σ (pur (.ix a b)) [] e0 F O H := .start r
    refine Subscript_ (thn ((ha S X x C h1).run pins s σ H _ I (A0.next p1 (.inl (nob X.K)) (outR_bind h))) fun u s1 ⟨v1, H1, I1, r1, F1, O1, x1, e1, own1, hN1, A1⟩ => ?_)
    obtain ⟨hg, hN1⟩ := outR_guard hN1
    refine thn ((hb S X y C h2).run pins s1 σ H1 _ I1 (A1.next p2 (nob_one hg) (outR_bind hN1))) fun u' s2 ⟨v2, H2, I2, r2, F2, O2, x2, e2, own2, hN2, A2⟩ => ?_
    obtain ⟨z, hz, hq⟩ := outR_of hN2
    have v1' := A2.tm.val ⟨v1, x1, own1⟩ (by simp)
    have v2' := A2.tm.val ⟨v2, x2, own2⟩ (by simp)
    have ap := A2.tm.ap
    have g := A2.give hq
    simp only [tOwn, List.cons_append, List.nil_append, List.flatMap_cons, List.flatMap_nil, List.append_nil] at ap g
    exact ixS_ok C.hu I2 r1 r2 A2.rel v1' v2' ap hz g (sub_plain (plain_of_mE h2) _ _)
  · cases hm
/-- a slice's part -/
def SO (cx : CX) : PO → Prop
  | .none => True
  | .some p => SE cx p
theorem part_ok {o : PO} {oe : Option Expr} (hS : SO cx o) (hm : mO S o oe = true) (C : Ctx S X cx) {pins : List (Addr × Obj)} {s : Shared} {σ : L2.St} {F O F1 O1 : AP'} {H H1 : Hp} {pu : Bool} {ts : List Tmp} {e1 : En} {N : Option Int → En → Prop}
    (A : Acc X.K F O H σ pu ts e1 F1 O1 H1) (hp : pu = true → pureO o = true) (hb : NoBor ts ∨ pureO o = true) (h : OutR (evO cx o e1) N) (I : Inv X pins σ H1 s) :
    wpAny (model X.prog X.w) X.A (evalPart oe X.env) (fun u s2 => ∃ i H2 F2 O2 e2, Inv X pins σ H2 s2 ∧ IsPart u i ∧ N i e2 ∧ Acc X.K F O H σ pu ts e2 F2 O2 H2) X.xe s := by
  cases o with
  | none =>
    cases oe with
    | none =>
      simp only [evO] at h
      rw [evalPart_none]
      exact wpAny_pure ⟨none, H1, F1, O1, e1, I, .none, h, A⟩
    | some x => exact absurd hm (by simp [mO])
  | some p =>
    cases oe with
    | none => exact absurd hm (by simp [mO])
    | some x =>
      have hm' : mE S p x = true := by simpa [mO] using hm
      simp only [evO] at h
      rw [evalPart_some]
      refine thn ((hS S X x C hm').run pins s σ H1 _ I (A.next hp hb (outR_bind h))) fun u s1 ⟨v1, H2, I2, r2, F2, O2, x2, e2, own2, hN, A2⟩ => ?_
      obtain ⟨d, f⟩ := x2
      cases d with
      | int i =>
        have hv := (A2.tm.val ⟨v1, (.int i, f), own2⟩ (by simp)).int
        have hv : v1 = .int i := hv
        subst hv
        obtain ⟨t, rfl⟩ := r2
        exact ⟨some i, H2, F2, O2, e2, I2, .int i t, hN, Acc.drop A2⟩
      | _ => exact hN.elim
theorem se_sl {a : PX} {lo hi : PO} (ha : SE cx a) (hl : SO cx lo) (hh : SO cx hi) : SE cx (.sl a lo hi) := fun S X e C hm => by
  simp only [mE] at hm
  split at hm
  · rename_i x l u p2 pos
    simp only [Bool.and_eq_true] at hm
    obtain ⟨⟨h1, h2⟩, h3⟩ := hm
    refine ⟨fun pins s σ H Q I h => ?_⟩
    obtain ⟨F, O, e0, r, h⟩ := h
    simp only [evE] at h
    have pp : pur (.sl a lo hi) = true → pur a = true ∧ pureO lo = true ∧ pureO hi = true := by
      simp only [pur, Bool.and_eq_true]
      exact fun z => ⟨z.1.1, z.1.2, z.2⟩
    have A0 : Acc X.K F O H σ (pur (.sl a lo hi)) [] e0 F O H := .start r
    refine Subscript_ (thn ((ha S X x C h1).run pins s σ H _ I (A0.next (fun z => (pp z).1) (.inl (nob X.K)) (outR_bind h))) fun u1 s1 ⟨v1, H1, I1, r1, F1, O1, x1, e1, own1, hN1, A1⟩ => ?_)
    obtain ⟨hg, hN1⟩ := outR_guard hN1
    have hb1 := nob_one (v := v1) (own := own1) hg
    refine wpAny_Slice (thn (part_ok hl h2 C A1 (fun z => (pp z).2.1) (hb1.imp id fun z => by simp only [Bool.and_eq_true] at z; exact z.1) (outR_bind hN1) I1) fun vl s2 ⟨il, H2, F2, O2, e2, I2, pl, hN2, A2⟩ => ?_)
    refine thn (part_ok hh h3 C A2 (fun z => (pp z).2.2) (hb1.imp id fun z => by simp only [Bool.and_eq_true] at z; exact z.2) (outR_bind hN2) I2) fun vu s3 ⟨iu, H3, F3, O3, e3, I3, pu, hN3, A3⟩ => ?_
    rw [evalPart_none]
    refine wpAny_pure ?_
    obtain ⟨z, hz, hq⟩ := outR_of hN3
    have I4 : Inv X pins σ H3 { s3 with heap := s3.heap.push { cls := .type "slice", data := .fields #[vl, vu, .none] } } := I3.kept (t' := s3.toks) fun b ob q => Heap.get?_push_of_some _ q
    have v1' := A3.tm.val ⟨v1, x1, own1⟩ (by simp)
    obtain ⟨T, id, hT, ht, hgg⟩ := slS_ok (T := tOwn ([] ++ [⟨v1, x1, own1⟩])) I4 r1 A3.rel v1' (fun b hb => mem_tOwn.mpr ⟨_, by simp, hb⟩) A3.tm.ap A3.tm.mut hz (A3.give hq) (Heap.IsSliceOf.new ..) pl pu
    exact tail_any (ops := [.ref s3.heap.objs.size, u1]) ht hT hgg (by with_unfolding_all rfl)
  · cases hm
theorem se_rev {a : PX} (ha : SE cx a) : SE cx (.rev a) := fun S X e C hm => by
  simp only [mE] at hm
  split at hm
  · rename_i x j k p1 p2 p3 pos
    simp only [Bool.and_eq_true, decide_eq_true_eq] at hm
    obtain ⟨rfl, h1⟩ := hm
    refine ⟨fun pins s σ H Q I h => ?_⟩
    obtain ⟨F, O, e0, r, h⟩ := h
    simp only [evE] at h
    have A0 : Acc X.K F O H σ (pur (.rev a)) [] e0 F O H := .start r
    refine Subscript_ (thn ((ha S X x C h1).run pins s σ H _ I (A0.next (fun z => z) (.inl (nob X.K)) (outR_bind h))) fun u1 s1 ⟨v1, H1, I1, r1, F1, O1, x1, e1, own1, hN1, A1⟩ => ?_)
    obtain ⟨z, hz, hq⟩ := outR_of hN1
    have hst : L2.PO X (some (.UnaryOp .USub (.Constant (.int 1) k p1) p2)) (tPart (tUn (rU fun i => .int (-i)) (tC (.int 1)))) := po_some (pe_un un_neg pe_int)
    refine wpAny_Slice (thn (po_none.run pins s1 σ H1 (fun o H2 => o = none ∧ H2 = H1) I1 ⟨rfl, rfl⟩) fun vl s2 ⟨l, H2, I2, pl, el, e2⟩ => ?_)
    subst el e2
    refine thn (po_none.run pins s2 σ H2 (fun o H3 => o = none ∧ H3 = H2) I2 ⟨rfl, rfl⟩) fun vu s3 ⟨u, H3, I3, pu, eu, e3⟩ => ?_
    subst eu e3
    refine thn (hst.run pins s3 σ H3 (fun o H4 => o = some (-1) ∧ H4 = H3) I3 ⟨1, rfl, -1, rfl, rfl, rfl⟩) fun vs s4 ⟨o, H4, I4, ps, eo, e4⟩ => ?_
    subst eo e4
    have I5 : Inv X pins σ H4 { s4 with heap := s4.heap.push { cls := .type "slice", data := .fields #[vl, vu, vs] } } := I4.kept (t' := s4.toks) fun b ob q => Heap.get?_push_of_some _ q
    have v1' := A1.tm.val ⟨v1, x1, own1⟩ (by simp)
    obtain ⟨T, id, hT, ht, hgg⟩ := revS_ok (T := tOwn ([] ++ [⟨v1, x1, own1⟩])) I5 r1 A1.rel v1' (fun b hb => mem_tOwn.mpr ⟨_, by simp, hb⟩) A1.tm.ap A1.tm.mut hz (A1.give hq) (Heap.IsSliceOf.new _ vl vu vs) pl pu ps
    exact tail_any (ops := [u1, .ref s4.heap.objs.size]) ht hT hgg (by with_unfolding_all rfl)
  · cases hm
end
end Ev

/-! Ev16: builtins, isinstance, lists of ranges, places, methods. -/
namespace Ev
open PySem PySem.Spec PyProof.Rows L2
theorem bi_name (b : Bi) : Str.ofString (biN b) ≠ ("__name__" : Str) := by cases b <;> decide +kernel
theorem ty_name (t : Ty) : Str.ofString (tyN t) ≠ ("__name__" : Str) := by cases t <;> decide +kernel
section
variable {S : Stc} {X : Cx} {cx : CX} {e : Expr}
theorem callWith_bi {M : Model} {A : Around} {E : Value → Shared → Prop} {s : Shared} {env : Env} {pos : Pos} {b : Bi} {e : Expr} {rest : List Expr} {Q : Value → Shared → Prop} (h : wpAny M A (spliced (backTo pos (starEach (e :: rest) env))) (fun us s' => wpAny M A (call (biF b) us) Q E s') E s)
    (he : starEach (e :: rest) env = (false, eval e env) :: starEach rest env) (hpl : (backTo pos (starEach rest env)).any (·.1) = false) : wpAny M A (callWith pos (biF b) [] (backTo pos (starEach (e :: rest) env)) (backToKw pos (keywordEach [] env))) Q E s := by
  have k : (∃ id, biF b = .builtin id) ∨ ∃ T, biF b = .type T := by cases b <;> first | exact .inl ⟨_, rfl⟩ | exact .inr ⟨_, rfl⟩
  rcases k with ⟨id, e1⟩ | ⟨T, e1⟩
  · rw [e1] at h ⊢
    exact PyProof.Rows.callWith_builtin1 h he hpl
  · rw [e1] at h ⊢
    exact PyProof.Rows.callWith_type1 h he hpl
theorem se_bi {b : Bi} {es : PXs} (hS : AllSE cx es) : SE cx (.bi b es) := fun S X e C hm => by
  simp only [mE] at hm
  split at hm
  · rename_i x p1 y xs pos
    simp only [Bool.and_eq_true, decide_eq_true_eq] at hm
    obtain ⟨⟨rfl, hg⟩, ha⟩ := hm
    obtain ⟨gl, hdb⟩ := globOk_of C hg
    refine ⟨fun pins s σ H Q I h => ?_⟩
    obtain ⟨F, O, e0, r, h⟩ := h
    simp only [evE] at h
    have A0 : Acc X.K F O H σ (pur (.bi b es)) [] e0 F O H := .start r
    have hp := plain_args ha
    refine wpAny_Call_Name_kw (ld_blt I gl (C.blt b) (bi_boot b) ?_ (bi_name b) hdb)
    refine callWith_bi (thn (args_ok hS ha C A0 (fun z => z) (.inl (nob X.K)) (outR_bind h) I) fun us s1 ⟨H1, F1, O1, e1, ts, I1, hN, A1, r1⟩ => ?_) (star_plain (hp y List.mem_cons_self)) (star_none fun z hz => hp z (List.mem_cons_of_mem _ hz))
    rw [List.nil_append] at A1
    obtain ⟨z, hz, hq⟩ := outR_of hN
    exact biS_ok C.calm I1 r1 A1.rel A1.tm hz (A1.give hq)
  · cases hm
theorem se_isi {a : PX} {t : Ty} (ha : SE cx a) : SE cx (.isi a t) := fun S X e C hm => by
  simp only [mE] at hm
  split at hm
  · rename_i x p1 y z p2 pos
    simp only [Bool.and_eq_true, decide_eq_true_eq] at hm
    obtain ⟨⟨⟨⟨⟨rfl, hg⟩, rfl⟩, hg2⟩, ht⟩, h1⟩ := hm
    obtain ⟨gl, hdb⟩ := globOk_of C hg
    obtain ⟨gl2, hdb2⟩ := globOk_of C hg2
    refine ⟨fun pins s σ H Q I h => ?_⟩
    obtain ⟨F, O, e0, r, h⟩ := h
    simp only [evE] at h
    have A0 : Acc X.K F O H σ (pur (.isi a t)) [] e0 F O H := .start r
    refine wpAny_Call_Name_kw (ld_blt I gl C.isi (u := .builtin "isinstance") PyProof.Rows.boot_isinstance ?_ (by decide +kernel) hdb)
    refine PyProof.Rows.callWith_builtin1 (args_cons (thn ((ha S X y C h1).run pins s σ H _ I (A0.next (fun z => z) (.inl (nob X.K)) (outR_bind h))) fun u s1 ⟨v1, H1, I1, r1, F1, O1, x1, e1, own1, hN1, A1⟩ => ?_) (star_plain (plain_of_mE h1))) (star_plain (plain_of_mE h1)) rfl
    refine args_cons (ld_blt I1 gl2 (C.tys t ht) (ty_boot t ht) (args_nil ?_) (ty_name t) hdb2)
    obtain ⟨b, hb, hq⟩ := outR_of (outR_bind hN1)
    obtain ⟨fp, rp⟩ := rep_at A1 (t := ⟨v1, x1, own1⟩) (by simp)
    exact tyS_ok ht I1 r1 rp hb (A1.give hq _ _ _ _ _ (.atom A1.rel (.bl _)))
  · cases hm
/-! ### list(range(..)) -/
def SR (cx : CX) : PI → Prop
  | .rg1 a => SE cx a
  | .rg2 a b => SE cx a ∧ SE cx b
  | _ => True
theorem rangeL_reps {K : PySem.W.Frag} {H : Hp} (lo : Int) (n : Nat) : Reps K H ((List.range n).map fun (i : Nat) => V.int (lo + i)) (rangeL lo n) [] := by
  have := Reps.ints (K := K) (H := H) ((List.range n).map fun (i : Nat) => lo + (i : Int))
  rw [List.map_map, List.map_map] at this
  exact this
theorem rgOk_of {i : Int} (h : rgOk i = true) : -(2 ^ 62) ≤ i ∧ i < 2 ^ 62 := rgOk_iff.mp h
/-- a range's reading -/
theorem range_rd {it : PI} {y : Expr} (C : Ctx S X cx) (hS : SR cx it) (hm : mR S it y = true) {still : Bool} : ∃ te, PRg X y te ∧ ∀ {σ : L2.St} {F O F1 O1 : AP'} {H H1 : Hp} {pu : Bool} {ts : List Tmp} {e1 : En} {N : List D → En → Prop},
    Acc X.K F O H σ pu ts e1 F1 O1 H1 → (pu = true → pureI it = true) → (NoBor ts ∨ pureI it = true) → OutR (evI cx it still e1) N → ∀ R : Int → Int → Hp → Prop, (∀ lo hi H2 F2 O2 e2, (-(2 ^ 62) ≤ lo ∧ lo < 2 ^ 62 ∧ -(2 ^ 62) ≤ hi ∧ hi < 2 ^ 62) → N (rangeL lo (hi - lo).toNat) e2 → Acc X.K F O H σ pu ts e2 F2 O2 H2 → R lo hi H2) → te σ H1 R := by
  cases it with
  | rg1 a =>
    simp only [mR] at hm
    split at hm
    · rename_i x p z pos
      simp only [Bool.and_eq_true, decide_eq_true_eq] at hm
      obtain ⟨⟨rfl, hg⟩, h1⟩ := hm
      obtain ⟨gl, _⟩ := globOk_of C hg
      refine ⟨_, prg_1 gl C.rng (hS S X z C h1) (star_plain (plain_of_mE h1)), fun {σ F O F1 O1 H H1 pu ts e1 N} A hp hb h R hR => ?_⟩
      simp only [evI] at h
      obtain ⟨G1, G2, G3, G4, G5⟩ := A.next hp hb (outR_bind h)
      refine ⟨G1, G2, G3, G4, G5.imp fun xv e2 hN v F' O' H' own c => ?_⟩
      obtain ⟨F2, O2, x, e2', own2, hN2, A2⟩ := hN v F' O' H' own c
      obtain ⟨d, f⟩ := x
      cases d with
      | int j =>
        have hv : v = .int j := (A2.tm.val ⟨v, (.int j, f), own2⟩ (by simp)).int
        subst hv
        obtain ⟨hj, hN3⟩ := outR_ite hN2
        obtain ⟨b1, b2⟩ := rgOk_of hj
        refine ⟨j, rfl, hR 0 j _ F2 O2 e2' ⟨by omega, by omega, b1, b2⟩ ?_ (Acc.drop A2)⟩
        have : (j - 0).toNat = j.toNat := by simp
        rw [this]; exact hN3
      | _ => exact hN2.elim
    · cases hm
  | rg2 a b =>
    simp only [mR] at hm
    split at hm
    · rename_i x p y z pos
      simp only [Bool.and_eq_true, decide_eq_true_eq] at hm
      obtain ⟨⟨⟨rfl, hg⟩, h1⟩, h2⟩ := hm
      obtain ⟨gl, _⟩ := globOk_of C hg
      refine ⟨_, prg_2 gl C.rng (hS.1 S X y C h1) (hS.2 S X z C h2) (star_plain (plain_of_mE h1)) (star_plain (plain_of_mE h2)) (star_none (fun w hw => by rw [List.mem_singleton.mp hw]; exact plain_of_mE h2)), fun {σ F O F1 O1 H H1 pu ts e1 N} A hp hb h R hR => ?_⟩
      simp only [evI] at h
      have e0 : pureI (.rg2 a b) = (pur a && pur b) := by simp only [pureI]
      rw [e0] at hp hb
      obtain ⟨G1, G2, G3, G4, G5⟩ := A.next (p := a) (fun z => by have := hp z; simp only [Bool.and_eq_true] at this; exact this.1) (hb.imp id fun z => by simp only [Bool.and_eq_true] at z; exact z.1) (outR_bind h)
      refine ⟨G1, G2, G3, G4, G5.imp fun xv e2 hN v F' O' H' own c => ?_⟩
      obtain ⟨F2, O2, x, e2', own2, hN2, A2⟩ := hN v F' O' H' own c
      obtain ⟨J1, J2, J3, J4, J5⟩ := (Acc.drop A2).next (p := b) (fun z => by have := hp z; simp only [Bool.and_eq_true] at this; exact this.2) (hb.imp id fun z => by simp only [Bool.and_eq_true] at z; exact z.2) (outR_bind hN2)
      refine ⟨J1, J2, J3, J4, J5.imp fun xv3 e3 hN3 v3 F3 O3 H3 own3 c3 => ?_⟩
      obtain ⟨F4, O4, y4, e4, own4, hN4, A4⟩ := hN3 v3 F3 O3 H3 own3 c3
      obtain ⟨d, f⟩ := x
      obtain ⟨d4, f4⟩ := y4
      have v1 := A2.tm.val ⟨v, (d, f), own2⟩ (by simp)
      have v2 := A4.tm.val ⟨v3, (d4, f4), own4⟩ (by simp)
      cases d with
      | int i =>
        cases d4 with
        | int j =>
          have hv : v = .int i := v1.int
          have hv2 : v3 = .int j := v2.int
          obtain ⟨hj, hN5⟩ := outR_ite hN4
          simp only [Bool.and_eq_true] at hj
          obtain ⟨b1, b2⟩ := rgOk_of hj.1
          obtain ⟨b3, b4⟩ := rgOk_of hj.2
          exact ⟨i, j, hv, hv2, hR i j _ F4 O4 e4 ⟨b1, b2, b3, b4⟩ hN5 (Acc.drop A4)⟩
        | _ => exact hN4.elim
      | _ => exact hN4.elim
    · cases hm
  | vl _ => exact absurd hm (by simp [mR])
  | rgd _ _ => exact absurd hm (by simp [mR])
  | rv _ => exact absurd hm (by simp [mR])
  | zip _ _ => exact absurd hm (by simp [mR])
  | enm _ => exact absurd hm (by simp [mR])
theorem plain_of_mR {it : PI} {y : Expr} (h : mR S it y = true) : plainE y = true := by
  cases it <;> simp only [mR] at h
  all_goals first
    | cases h; done
    | (split at h <;> first | rfl | cases h)
theorem se_lrng {it : PI} (hS : SR cx it) : SE cx (.lrng it) := fun S X e C hm => by
  simp only [mE] at hm
  split at hm
  · rename_i x p y pos
    simp only [Bool.and_eq_true, decide_eq_true_eq] at hm
    obtain ⟨⟨rfl, hg⟩, h1⟩ := hm
    obtain ⟨gl, hdb⟩ := globOk_of C hg
    obtain ⟨te, hte, rd⟩ := range_rd (still := false) C hS h1
    refine ⟨fun pins s σ H Q I h => (pe_listRg C.calm gl (C.blt .list) hte (star_plain (plain_of_mR h1))).run pins s σ H Q I ?_⟩
    obtain ⟨F, O, e0, r, h⟩ := h
    simp only [evE] at h
    have A0 : Acc X.K F O H σ (pur (.lrng it)) [] e0 F O H := .start r
    refine rd A0 (fun z => z) (.inl (nob X.K)) (outR_bind h) _ fun lo hi H2 F2 O2 e2 hb hN A2 => ?_
    obtain ⟨hz, hN⟩ := outR_ite hN
    have hl : (hi - lo).toNat ≤ 2 ^ 24 := by
      unfold rangeL at hz
      rw [List.length_map, List.length_range, sizeLine_eq] at hz
      omega
    refine ⟨⟨hb.1, hb.2.1, hb.2.2.1, hb.2.2.2, hl⟩, fun q hq => ?_⟩
    exact A2.give hN _ _ _ _ _ (new_deep A2.rel hq (rangeL_reps lo (hi - lo).toNat) .nil (fun _ h => nomatch h) A2.tm.ap)
  · cases hm
theorem se_trng {it : PI} (hS : SR cx it) : SE cx (.trng it) := fun S X e C hm => by
  simp only [mE] at hm
  split at hm
  · rename_i x p y pos
    simp only [Bool.and_eq_true, decide_eq_true_eq] at hm
    obtain ⟨⟨rfl, hg⟩, h1⟩ := hm
    obtain ⟨gl, hdb⟩ := globOk_of C hg
    obtain ⟨te, hte, rd⟩ := range_rd (still := false) C hS h1
    refine ⟨fun pins s σ H Q I h => (pe_tupRg C.calm gl (C.blt .tuple) hte (star_plain (plain_of_mR h1))).run pins s σ H Q I ?_⟩
    obtain ⟨F, O, e0, r, h⟩ := h
    simp only [evE] at h
    have A0 : Acc X.K F O H σ (pur (.trng it)) [] e0 F O H := .start r
    refine rd A0 (fun z => z) (.inl (nob X.K)) (outR_bind h) _ fun lo hi H2 F2 O2 e2 hb hN A2 => ?_
    obtain ⟨hz, hN⟩ := outR_ite hN
    have hl : (hi - lo).toNat ≤ 2 ^ 24 := by
      unfold rangeL at hz
      rw [List.length_map, List.length_range, sizeLine_eq] at hz
      omega
    refine ⟨⟨hb.1, hb.2.1, hb.2.2.1, hb.2.2.2, hl⟩, fun q hq => ?_⟩
    exact A2.give hN _ _ _ _ _ (tup_deep (upd_more hq) A2.rel (.tup (.of upd_same) (reps_upd (rangeL_reps lo (hi - lo).toNat) hq)) .nil (fun _ h => nomatch h) A2.tm.ap)
  · cases hm

/-! ### places -/
def AllPl (cx : CX) : PX → Prop
  | .ix a p => AllPl cx a ∧ SE cx p
  | _ => True
theorem place_run : ∀ (p : PX) {e : Expr}, AllPl cx p → mE S p e = true → Ctx S X cx → ∀ {pins : List (Addr × Obj)} {s : Shared} {σ : L2.St} {F O F1 O1 : AP'} {H H1 : Hp} {pu : Bool} {ts : List Tmp} {e1 : En} {N : Nat × List D × D → En → Prop},
    Acc X.K F O H σ pu ts e1 F1 O1 H1 → OutR (evP cx p e1) N → Inv X pins σ H1 s → callE e = false ∧
    wpAny (model X.prog X.w) X.A (eval e X.env) (fun u s2 => ∃ v H2 F2 O2 e2 i path d, Inv X pins σ H2 s2 ∧ RelV v u ∧ N (i, path, d) e2 ∧ Acc X.K F O H σ pu (ts ++ [⟨v, (d, .bor), []⟩]) e2 F2 O2 H2 ∧ Still F1 O1 H1 F2 O2 H2 ∧ ∃ v0, σ[i]? = some (some v0) ∧ Fol H2 v0 path v) X.xe s := by
  intro p
  cases p with
  | nm i =>
    intro e hS hm C pins s σ F O F1 O1 H H1 pu ts e1 N A h I
    obtain ⟨x, pos, rfl, hs⟩ := name_of (fun _ _ => rfl) hm
    obtain ⟨h1, h2, h3, h4⟩ := slotOk_of C hs
    obtain ⟨old, o1, _, _, o4, _⟩ := A.rel.put i
    simp only [evP] at h
    cases q : cellAt e1 i with
    | none => rw [q] at h; exact h.elim
    | some y =>
      rw [q] at h
      obtain ⟨nb, v, ev, hv⟩ := o4 _ q
      refine ⟨rfl, thn ((pe_var h1 h2 h3 h4).run pins s σ H1 (fun v' H2 => v' = v ∧ H2 = H1) I ⟨v, ev, rfl, rfl⟩) fun u s1 ⟨v', H2, I2, r2, e2, e3⟩ => ?_⟩
      subst e2 e3
      refine ⟨v', H2, F1, O1, e1, i, [], y.1, I2, r2, h, ?_, .refl, v', ev, rfl⟩
      obtain ⟨fp, rp, hfp⟩ := hv.rep
      have c : Come X.K F1 O1 [] H2 σ true (y.1, .bor) e1 v' F1 O1 H2 [] := ⟨.refl, fun _ => .refl, A.rel, ⟨fp, rp, fun b hb => (hfp b hb).imp id fun z => z.elim id (o1 b), rfl⟩, .nil, fun _ h => nomatch h⟩
      exact A.came (fun _ => rfl) (.inr rfl) c
  | ix a p =>
    intro e hS hm C pins s σ F O F1 O1 H H1 pu ts e1 N A h I
    simp only [mE] at hm
    split at hm
    · rename_i x y pos
      simp only [Bool.and_eq_true] at hm
      obtain ⟨m1, m2⟩ := hm
      simp only [evP] at h
      have ih := place_run a hS.1 m1 C A (outR_bind h) I
      refine ⟨rfl, Subscript_ (thn ih.2 fun u s1 ⟨v1, H2, F2, O2, e2, i, path, d, I2, r2, hN, A2, sl2, v0, ev0, fol⟩ => ?_)⟩
      obtain ⟨hp, hN⟩ := outR_ite hN
      have hN' := outR_bind hN
      refine thn ((hS.2 S X y C m2).run pins s1 σ H2 (fun v H3 => ∃ F3 O3 x3 e3 own3, Still F2 O2 H2 F3 O3 H3 ∧ _ ∧ Acc X.K F O H σ pu ((ts ++ [⟨v1, (d, .bor), []⟩]) ++ [⟨v, x3, own3⟩]) e3 F3 O3 H3) I2 ⟨F2, O2, e2, A2.rel, hN'.imp fun x3 e3 hN3 v F3 O3 H3 own3 c => ⟨F3, O3, x3, e3, own3, c.still hp, hN3, A2.came (fun _ => hp) (.inr hp) c⟩⟩) fun u3 s3 ⟨v3, H3, I3, r3, F3, O3, x3, e3, own3, sl3, hN3, A3⟩ => ?_
      obtain ⟨dk, fk⟩ := x3
      cases d with
      | lst xs =>
        cases dk with
        | int k =>
          have hv3 : v3 = .int k := (A3.tm.val ⟨v3, (.int k, fk), own3⟩ (by simp)).int
          have vp := A3.tm.val ⟨v1, (.lst xs, .bor), []⟩ (by simp)
          obtain ⟨fp, rp, c1, c2, c3, c4⟩ := vp.nodes
          have hfp := c4 rfl
          obtain ⟨a', vs, g, ev, hH, rs, rfl⟩ := rp.list
          cases hk : atI xs k with
          | none => simp only [hk] at hN3; exact hN3.elim
          | some d' =>
            simp only [hk] at hN3
            obtain ⟨v', fp', hv', rv', sb⟩ := atI_rep rs hk
            have A4 := Acc.drop (us := [⟨v3, (.int k, fk), own3⟩]) A3
            have A5 : Acc X.K F O H σ pu ts e3 F3 O3 H3 := Acc.drop A4
            refine thn (ix_list x y pins s3 σ H3 _ _ u u3 (fun w H' => w = v' ∧ H' = H3) I3 r2 r3 ⟨a', vs, k, v', ev, hv3, .of hH, hv', rfl, rfl⟩ (sub_plain (plain_of_mE m2) _ _)) fun u4 s4 ⟨v4, H4, I4, r4, e4', e5'⟩ => ?_
            subst e4' e5'
            refine ⟨v4, H4, F3, O3, e3, i, path ++ [D.int k], d', I4, r4, hN3, ?_, sl2.trans sl3, v0, ev0, ?_⟩
            · exact A5.came (pp := true) (fun _ => rfl) (.inr rfl) ⟨.refl, fun _ => .refl, A5.rel, ⟨fp', rv', fun b hb => hfp b (List.mem_cons_of_mem _ (sb.subset hb)), rfl⟩, .nil, fun _ h => nomatch h⟩
            · exact (fol.same (H' := H4) fun b ys hb => sl3.same b _ hb).snoc ⟨a', vs, k, ev, hH, rfl, hv'⟩
        | _ => exact hN3.elim
      | _ => cases dk <;> exact hN3.elim
    · cases hm
  | _ =>
    intro e hS hm C pins s σ F O F1 O1 H H1 pu ts e1 N A h I
    simp only [evP] at h
    exact h.elim
end
end Ev

/-! Ev17: methods that change a list. -/
namespace Ev
open PySem PySem.Spec PyProof.Rows L2
theorem mu_slot (m : Mu) : Slot "list" (Str.ofString (muN m)) (muId m) := by
  cases m
  · exact PySem.F.slot_list_append
  · exact PySem.F.slot_list_pop
  · exact PySem.F.slot_list_clear
  · exact PySem.F.slot_list_reverse
  · exact PySem.F.slot_list_extend
  · exact PySem.F.slot_list_insert
theorem mu_type (m : Mu) : typeOf (.builtin (muId m)) = pure (.type "method_descriptor") := by
  cases m
  · exact PySem.F.type_list_append
  · exact PySem.F.type_list_pop
  · exact PySem.F.type_list_clear
  · exact PySem.F.type_list_reverse
  · exact PySem.F.type_list_extend
  · exact PySem.F.type_list_insert
section
variable {S : Stc} {X : Cx} {cx : CX} {e : Expr}
theorem star_all {env : Env} {pos : Pos} : ∀ {es : List Expr}, (∀ e ∈ es, plainE e = true) → (backTo pos (starEach es env)).all (fun x => !x.1) = true
  | [], _ => rfl
  | e :: es, h => by
    rw [star_plain (h e List.mem_cons_self)]
    show (!false && (backTo pos (starEach es env)).all (fun x => !x.1)) = true
    rw [star_all fun x hx => h x (List.mem_cons_of_mem _ hx)]
    rfl
theorem se_mu {m : Mu} {o : PX} {es : PXs} (hP : AllPl cx o) (hS : AllSE cx es) : SE cx (.mu m o es) := fun S X e C hm => by
  simp only [mE] at hm
  split at hm
  · rename_i y nm apos xs cpos
    simp only [Bool.and_eq_true, decide_eq_true_eq] at hm
    obtain ⟨⟨⟨⟨rfl, m1⟩, m2⟩, hline⟩, hfew⟩ := hm
    refine ⟨fun pins s σ H Q I h => ?_⟩
    obtain ⟨F, O, e0, r, h⟩ := h
    simp only [evE] at h
    have A0 : Acc X.K F O H σ false [] e0 F O H := .start r
    obtain ⟨hce, hpl⟩ := place_run o hP m1 C A0 (outR_bind h) I
    have hp := plain_args m2
    refine wpAny_Call_method_late (base_plain hce _ _) (by rw [star_all hp]; simpa [keywordEach, backToKw] using hfew) hline rfl (thn hpl fun ov s1 ⟨v, H1, F1, O1, e1, i, path, d, I1, rv, hN, A1, _, v0, ev0, fol⟩ => ?_)
    obtain ⟨hc, hN⟩ := outR_ite hN
    simp only [Bool.and_eq_true, Bool.or_eq_true] at hc
    obtain ⟨hl, hpth⟩ := hc
    obtain ⟨fp0, rp0⟩ := rep_at A1 (t := ⟨v, (d, .bor), []⟩) (by simp)
    cases d with
    | lst xs0 =>
      obtain ⟨a, vs0, g0, ev, hH, _⟩ := rp0.list
      have ev : v = .ref a := ev
      subst ev
      obtain ⟨t1, t2⟩ := tyV_is (T := "list") I1 rv (.inl ⟨rfl, _, .of hH⟩)
      refine ⟨"list", muId m, PySem.F.plainAttrs_list, mu_slot m, mu_type m, t1, t2, ?_⟩
      have A1' : Acc X.K F O H σ false [] e1 F1 O1 H1 := A1.none
      have B0 : Acc X.K F1 O1 H1 σ (pures es) [] e1 F1 O1 H1 := .start A1'.rel
      have body := args_ok (pos := cpos) hS m2 C B0 (fun z => z) (.inl (nob X.K)) (outR_bind hN) I1
      have fin : ∀ us s2, (∃ H2 F2 O2 e2 us', Inv X pins σ H2 s2 ∧ OutR (match cellAt e2 i with
          | some x => (match alter (fun y => muS m y (us'.map (·.x))) path x with
            | some (x', v) => R.ok v (e2.set i (some x'))
            | none => .bad)
          | none => .bad) (fun x e' => ∀ v F' O' H' own, Come X.K F O [] H σ (pur (.mu m o es)) x e' v F' O' H' own → Q v H') ∧ Acc X.K F1 O1 H1 σ (pures es) ([] ++ us') e2 F2 O2 H2 ∧ Vals (us'.map (·.v)) us) → wpAny (model X.prog X.w) X.A (call (.builtin (muId m)) (ov :: us)) (EP X pins σ Q) X.xe s2 := by
        rintro us s2 ⟨H2, F2, O2, e2, us', I2, hN2, A2, r2⟩
        rw [List.nil_append] at A2
        cases hc : cellAt e2 i with
        | none => rw [hc] at hN2; exact hN2.elim
        | some x =>
          rw [hc] at hN2
          cases ha : alter (fun y => muS m y (us'.map (·.x))) path x with
          | none => simp only [ha] at hN2; exact hN2.elim
          | some xb =>
            obtain ⟨x', b⟩ := xb
            simp only [ha] at hN2
            have fol2 : Fol H2 v0 path (.ref a) := by
              rcases hpth with q | q
              · have : path = [] := by simpa using q
                subst this
                exact fol
              · exact fol.same fun b ys hb => (A2.still q).same b _ hb
            obtain ⟨y', y'', ownY, vy, hy, hO, hf, hC⟩ := place_ok A2.rel hc ev0 fol2 ha A2.tm.ap A2.tm.mut
            refine muS_ok I2 rv r2 A2.rel.sep vy hy hO A2.tm hf fun F3 H3 vb ownY' ownB cg => ?_
            obtain ⟨F4, O4, c⟩ := hC F3 H3 vb ownY' ownB cg
            have c1 := Come.after (pu := false) A2.step (fun z => nomatch z) A2.fr c (fun z => z)
            have c2 := Come.after (pu := false) (T1 := []) A1'.step (fun z => nomatch z) (fun _ h => nomatch h) c1 (fun z => z)
            exact hN2 vb F4 O4 H3 ownB ⟨c2.step, fun z => absurd z (by simp [pur]), c2.rel, c2.val, c2.ap, c2.fr⟩
      cases xs with
      | nil =>
        refine Calls.callWith_builtin rfl (PySem.evalArgs_none ?_)
        cases es with
        | nil =>
          have hN' := outR_bind hN
          simp only [evL] at hN'
          exact fin [] s1 ⟨H1, F1, O1, e1, [], I1, hN', B0, .nil⟩
        | cons a as => exact absurd m2 (by simp [mA])
      | cons x rest =>
        rw [star_plain (hp x List.mem_cons_self)] at body ⊢
        refine Calls.callWith_builtin (by show (false || (backTo cpos (starEach rest X.env)).any (·.1)) = false; rw [star_none fun z hz => hp z (List.mem_cons_of_mem _ hz)] <;> rfl) (Calls.evalArgs_plain ?_)
        exact thn body fun us s2 h2 => fin us s2 h2
    | _ => exact absurd hl (by simp [isLst])
  · cases hm
end
end Ev

/-! Ev18: what is walked. -/
namespace Ev
open PySem PySem.Spec PyProof.Rows L2 RT RZ
structure Walk (K : PySem.W.Frag) (J : It) (ds : List D) (fz fi : List Addr) (C : Hp → Prop) : Prop where
  keep : ∀ H H' : Hp, C H → (∀ b o, H b = some o → (b ∈ fz ∨ ¬ Mut (some o)) → H' b = some o) → C H'
  go : ∀ i d H, C H → ds[i]? = some d → J.go i H ∧ ∀ x H', J.yld i H x H' → (∀ b o, H b = some o → H' b = some o) ∧ ∃ fp, Rep K H' x d fp ∧ ∀ b ∈ fp, b ∈ fi
  stop : ∀ H, C H → J.stop ds.length H
section
variable {K : PySem.W.Frag} {a b : Addr} {vs ws : List V} {ds es : List D} {g g' : List Addr}
theorem reps_keepF {H H' : Hp} {fz : List Addr} (r : Reps K H vs ds g) (hg : ∀ c ∈ g, c ∈ fz) (k : ∀ b o, H b = some o → (b ∈ fz ∨ ¬ Mut (some o)) → H' b = some o) : Reps K H' vs ds g :=
  r.keep (fun b o e m => k b o e (.inr m)) fun b hb => by
    have m := r.mut b hb
    cases e : H b with
    | none => rw [e] at m; exact m.elim
    | some o => exact k b o e (.inl (hg b hb))
theorem sqT_keepF {H H' : Hp} {fz : List Addr} (h : SqT K H a vs) (k : ∀ b o, H b = some o → (b ∈ fz ∨ ¬ Mut (some o)) → H' b = some o) : SqT K H' a vs :=
  sqT_keepI h fun b o e m => k b o e (.inr m)
theorem walk_list : Walk K (Itl K a) ds (a :: g) g fun H => H a = some (.lst vs) ∧ Reps K H vs ds g where
  keep := fun H H' ⟨h1, h2⟩ k => ⟨k a _ h1 (.inl List.mem_cons_self), reps_keepF h2 (fun c hc => List.mem_cons_of_mem _ hc) k⟩
  go := fun i d H ⟨h1, h2⟩ hd => by
    obtain ⟨v, f, e1, rv, sb, _⟩ := h2.sub hd
    refine ⟨⟨vs, v, .of h1, e1⟩, fun x H' y => ?_⟩
    obtain ⟨e2, y⟩ := y
    subst e2
    have e3 := y vs (.of h1)
    rw [e1] at e3
    cases e3
    exact ⟨fun _ _ e => e, f, rv, sb⟩
  stop := fun H ⟨h1, h2⟩ => ⟨vs, .of h1, by rw [h2.length]; exact Nat.le_refl _⟩
theorem walk_tup : Walk K (Itt K a) ds g g fun H => SqT K H a vs ∧ Reps K H vs ds g where
  keep := fun H H' ⟨h1, h2⟩ k => ⟨sqT_keepF h1 k, reps_keepF h2 (fun c hc => hc) k⟩
  go := fun i d H ⟨h1, h2⟩ hd => by
    obtain ⟨v, f, e1, rv, sb, _⟩ := h2.sub hd
    refine ⟨⟨vs, v, h1, e1⟩, fun x H' y => ?_⟩
    obtain ⟨e2, y⟩ := y
    subst e2
    have e3 := y vs h1
    rw [e1] at e3
    cases e3
    exact ⟨fun _ _ e => e, f, rv, sb⟩
  stop := fun H ⟨h1, h2⟩ => ⟨vs, h1, by rw [h2.length]; exact Nat.le_refl _⟩
theorem rangeL_get {lo : Int} {n i : Nat} {d : D} (h : (rangeL lo n)[i]? = some d) : i < n ∧ d = .int (lo + i) := by
  unfold rangeL at h
  rw [List.getElem?_map] at h
  by_cases hi : i < n
  · rw [List.getElem?_range hi] at h
    exact ⟨hi, (Option.some.inj h).symm⟩
  · rw [List.getElem?_eq_none (by simp; omega)] at h; cases h
theorem rangeL_len {lo : Int} {n : Nat} : (rangeL lo n).length = n := by unfold rangeL; rw [List.length_map, List.length_range]
theorem walk_rng {lo : Int} {n : Nat} : Walk K (Itr lo n) (rangeL lo n) [] [] fun _ => True where
  keep := fun _ _ _ _ => trivial
  go := fun i d H _ hd => by
    obtain ⟨h1, rfl⟩ := rangeL_get hd
    refine ⟨h1, fun x H' y => ?_⟩
    obtain ⟨e2, e3⟩ := y
    subst e2 e3
    exact ⟨fun _ _ e => e, [], .int _, (fun _ h => nomatch h)⟩
  stop := fun H _ => by rw [rangeL_len]; exact Nat.le_refl n
theorem rev_get {i : Nat} {d : D} (h : ds.reverse[i]? = some d) : i < ds.length ∧ ds[ds.length - 1 - i]? = some d := by
  have hi : i < ds.length := by
    obtain ⟨h1, _⟩ := List.getElem?_eq_some_iff.mp h
    simpa using h1
  rw [List.getElem?_reverse hi] at h
  exact ⟨hi, h⟩
theorem walk_rev : Walk K (Itv K a vs.length) ds.reverse (a :: g) g fun H => H a = some (.lst vs) ∧ Reps K H vs ds g where
  keep := fun H H' ⟨h1, h2⟩ k => ⟨k a _ h1 (.inl List.mem_cons_self), reps_keepF h2 (fun c hc => List.mem_cons_of_mem _ hc) k⟩
  go := fun i d H ⟨h1, h2⟩ hd => by
    obtain ⟨hi, hd⟩ := rev_get hd
    obtain ⟨v, f, e1, rv, sb, _⟩ := h2.sub hd
    rw [← h2.length] at e1 hi
    refine ⟨⟨hi, vs, v, .of h1, e1⟩, fun x H' y => ?_⟩
    obtain ⟨e2, y⟩ := y
    subst e2
    have e3 := y vs (.of h1)
    rw [e1] at e3
    cases e3
    exact ⟨fun _ _ e => e, f, rv, sb⟩
  stop := fun H ⟨h1, h2⟩ => by
    show vs.length ≤ ds.reverse.length
    rw [h2.length, List.length_reverse]
    exact Nat.le_refl _
theorem walk_revT : Walk K (ItvT K a vs.length) ds.reverse g g fun H => SqT K H a vs ∧ Reps K H vs ds g where
  keep := fun H H' ⟨h1, h2⟩ k => ⟨sqT_keepF h1 k, reps_keepF h2 (fun c hc => hc) k⟩
  go := fun i d H ⟨h1, h2⟩ hd => by
    obtain ⟨hi, hd⟩ := rev_get hd
    obtain ⟨v, f, e1, rv, sb, _⟩ := h2.sub hd
    rw [← h2.length] at e1 hi
    refine ⟨⟨hi, vs, v, h1, e1⟩, fun x H' y => ?_⟩
    obtain ⟨e2, y⟩ := y
    subst e2
    have e3 := y vs h1
    rw [e1] at e3
    cases e3
    exact ⟨fun _ _ e => e, f, rv, sb⟩
  stop := fun H ⟨h1, h2⟩ => by
    show vs.length ≤ ds.reverse.length
    rw [h2.length, List.length_reverse]
    exact Nat.le_refl _
theorem zipD_get : ∀ {ds es : List D} {i : Nat} {d : D}, (zipD ds es)[i]? = some d → ∃ x y, ds[i]? = some x ∧ es[i]? = some y ∧ d = .tup [x, y]
  | [], es, i, d, h => by cases es <;> simp [zipD] at h
  | _ :: _, [], i, d, h => by simp [zipD] at h
  | x :: ds, y :: es, 0, d, h => by
    have h : some (D.tup [x, y]) = some d := h
    exact ⟨x, y, rfl, rfl, (Option.some.inj h).symm⟩
  | x :: ds, y :: es, i + 1, d, h => by
    have h : (zipD ds es)[i]? = some d := h
    exact zipD_get (ds := ds) (es := es) (i := i) h
theorem zipD_len : ∀ {ds es : List D}, ds.length ≤ (zipD ds es).length ∨ es.length ≤ (zipD ds es).length
  | [], es => .inl (Nat.zero_le _)
  | _ :: _, [] => .inr (Nat.zero_le _)
  | x :: ds, y :: es => by
    show ds.length + 1 ≤ (zipD ds es).length + 1 ∨ es.length + 1 ≤ (zipD ds es).length + 1
    rcases zipD_len (ds := ds) (es := es) with h | h
    · exact .inl (by omega)
    · exact .inr (by omega)
theorem walk_zip : Walk K (Itz K a b) (zipD ds es) ((a :: g) ++ (b :: g')) (g ++ g') fun H => (H a = some (.lst vs) ∧ Reps K H vs ds g) ∧ H b = some (.lst ws) ∧ Reps K H ws es g' where
  keep := fun H H' ⟨⟨h1, h2⟩, h3, h4⟩ k => ⟨⟨k a _ h1 (.inl (by simp)), reps_keepF h2 (fun c hc => by simp [hc]) k⟩, k b _ h3 (.inl (by simp)), reps_keepF h4 (fun c hc => by simp [hc]) k⟩
  go := fun i d H ⟨⟨h1, h2⟩, h3, h4⟩ hd => by
    obtain ⟨x, y, hx, hy, rfl⟩ := zipD_get hd
    obtain ⟨v, f, e1, rv, sb, _⟩ := h2.sub hx
    obtain ⟨w, f', e1', rw', sb', _⟩ := h4.sub hy
    refine ⟨⟨vs, ws, v, w, .of h1, .of h3, e1, e1'⟩, fun z H' y => ?_⟩
    obtain ⟨T, p, q, rfl, hT, rfl, y1, y2⟩ := y
    have e2 := y1 vs (.of h1)
    have e3 := y2 ws (.of h3)
    rw [e1] at e2
    rw [e1'] at e3
    cases e2
    cases e3
    refine ⟨upd_more hT, f ++ (f' ++ []), .tup (.of upd_same) (reps_upd (.cons rv (.cons rw' .nil)) hT), fun c hc => ?_⟩
    simp only [List.append_nil] at hc
    rcases List.mem_append.mp hc with hc | hc
    · simp [sb c hc]
    · simp [sb' c hc]
  stop := fun H ⟨⟨h1, h2⟩, h3, h4⟩ => ⟨vs, ws, .of h1, .of h3, by rw [h2.length, h4.length]; exact zipD_len⟩
theorem walk_zipT : Walk K (ItzT K a b) (zipD ds es) (g ++ g') (g ++ g') fun H => (SqT K H a vs ∧ Reps K H vs ds g) ∧ SqT K H b ws ∧ Reps K H ws es g' where
  keep := fun H H' ⟨⟨h1, h2⟩, h3, h4⟩ k => ⟨⟨sqT_keepF h1 k, reps_keepF h2 (fun c hc => by simp [hc]) k⟩, sqT_keepF h3 k, reps_keepF h4 (fun c hc => by simp [hc]) k⟩
  go := fun i d H ⟨⟨h1, h2⟩, h3, h4⟩ hd => by
    obtain ⟨x, y, hx, hy, rfl⟩ := zipD_get hd
    obtain ⟨v, f, e1, rv, sb, _⟩ := h2.sub hx
    obtain ⟨w, f', e1', rw', sb', _⟩ := h4.sub hy
    refine ⟨⟨vs, ws, v, w, h1, h3, e1, e1'⟩, fun z H' y => ?_⟩
    obtain ⟨T, p, q, rfl, hT, rfl, y1, y2⟩ := y
    have e2 := y1 vs h1
    have e3 := y2 ws h3
    rw [e1] at e2
    rw [e1'] at e3
    cases e2
    cases e3
    refine ⟨upd_more hT, f ++ (f' ++ []), .tup (.of upd_same) (reps_upd (.cons rv (.cons rw' .nil)) hT), fun c hc => ?_⟩
    simp only [List.append_nil] at hc
    rcases List.mem_append.mp hc with hc | hc
    · simp [sb c hc]
    · simp [sb' c hc]
  stop := fun H ⟨⟨h1, h2⟩, h3, h4⟩ => ⟨vs, ws, h1, h3, by rw [h2.length, h4.length]; exact zipD_len⟩
theorem walk_enum : Walk K (Ite K a) (zipD (rangeL 0 ds.length) ds) (a :: g) g fun H => H a = some (.lst vs) ∧ Reps K H vs ds g where
  keep := fun H H' ⟨h1, h2⟩ k => ⟨k a _ h1 (.inl List.mem_cons_self), reps_keepF h2 (fun c hc => List.mem_cons_of_mem _ hc) k⟩
  go := fun i d H ⟨h1, h2⟩ hd => by
    obtain ⟨x, y, hx, hy, rfl⟩ := zipD_get hd
    obtain ⟨_, rfl⟩ := rangeL_get hx
    obtain ⟨v, f, e1, rv, sb, _⟩ := h2.sub hy
    refine ⟨⟨vs, v, .of h1, e1⟩, fun z H' y => ?_⟩
    obtain ⟨T, p, rfl, hT, rfl, y1⟩ := y
    have e2 := y1 vs (.of h1)
    rw [e1] at e2
    cases e2
    refine ⟨upd_more hT, [] ++ (f ++ []), .tup (.of upd_same) (reps_upd (.cons (by rw [show (0 : Int) + (i : Int) = (i : Int) by omega]; exact .int _) (.cons rv .nil)) hT), fun c hc => ?_⟩
    simp only [List.append_nil, List.nil_append] at hc
    exact sb c hc
  stop := fun H ⟨h1, h2⟩ => ⟨vs, .of h1, by
    rw [h2.length]
    rcases zipD_len (ds := rangeL 0 ds.length) (es := ds) with h | h
    · rw [rangeL_len] at h; exact h
    · exact h⟩

/-! ### the readings -/
/-- where the walk starts -/
def WI (K : PySem.W.Frag) (F O : AP') (H : Hp) (σ : L2.St) (pu still : Bool) (R : It → Hp → Prop) (ds : List D) (e1 : En) : Prop :=
  ∀ J fz fi C H' F' O', Walk K J ds fz fi C → C H' → Acc K F O H σ pu [] e1 F' O' H' → (∀ b ∈ fz, F' b ∨ (still = true ∧ O' b)) → (∀ b ∈ fi, F' b) → R J H'
def SI (cx : CX) (it : PI) : Prop := ∀ (S : Stc) (X : Cx) (tg e : Expr), Ctx S X cx → mI S it e = true → okTg it tg = true → ∀ (pins : List (Addr × Obj)) (s : Shared) (σ : L2.St) (F O : AP') (H : Hp) (e0 : En) (still : Bool) (R : It → Hp → Prop),
  Inv X pins σ H s → Rel X.K F O H σ e0 → OutR (evI cx it still e0) (WI X.K F O H σ (pureI it) still R) →
  wpAny (model X.prog X.w) X.A (eval e X.env) (fun v s1 => wpAny (model X.prog X.w) X.A (pyIter v) (PIE X pins σ tg R) X.xe s1) X.xe s
end
section
variable {cx : CX} {K : PySem.W.Frag}
theorem Acc.freeze {F O F1 O1 : AP'} {H H1 : Hp} {σ : L2.St} {e1 : En} {pu : Bool} {ts : List Tmp} (A : Acc K F O H σ pu ts e1 F1 O1 H1) : Acc K F O H σ pu [] e1 (addF F1 (tOwn ts)) O1 H1 where
  step := A.step.trans (T1 := tOwn ts) (addF_step (T := tOwn ts) fun _ _ h => h) A.fr
  still := fun z => (A.still z).trans (addF_still fun _ _ h => h)
  rel := addF_rel A.rel (fun _ _ h => h) A.tm.ap A.tm.mut
  tm := .nil
  fr := fun b h => nomatch (show b ∈ ([] : List Addr) from h)
/-- what is at hand, to be walked -/
theorem Val.walk {F O : AP'} {H : Hp} {v : V} {x : Vl} {own : List Addr} {still : Bool} {ds : List D} (h : Val K F O H v x own) (hi : itemsS x still = some ds) :
    (∃ a vs g, x.1 = .lst ds ∧ v = .ref a ∧ H a = some (.lst vs) ∧ Reps K H vs ds g ∧ (∀ b ∈ a :: g, F b ∨ b ∈ own ∨ (still = true ∧ O b)) ∧ ∀ b ∈ g, F b ∨ b ∈ own) ∨
    (∃ a vs g, x.1 = .tup ds ∧ v = .ref a ∧ SqT K H a vs ∧ Reps K H vs ds g ∧ (∀ b ∈ g, F b ∨ b ∈ own ∨ (still = true ∧ O b)) ∧ ∀ b ∈ g, F b ∨ b ∈ own) := by
  obtain ⟨d, f⟩ := x
  obtain ⟨fp, rp, c1, c2, c3, c4⟩ := h.nodes
  cases d with
  | lst xs =>
    left
    obtain ⟨a, vs, g, e, hH, r, rfl⟩ := rp.list
    have fin : ∀ (hd : xs = ds), (∀ b ∈ a :: g, F b ∨ b ∈ own ∨ (still = true ∧ O b)) → (∀ b ∈ g, F b ∨ b ∈ own) → ∃ a vs g, D.lst xs = .lst ds ∧ v = .ref a ∧ H a = some (.lst vs) ∧ Reps K H vs ds g ∧ (∀ b ∈ a :: g, F b ∨ b ∈ own ∨ (still = true ∧ O b)) ∧ ∀ b ∈ g, F b ∨ b ∈ own := fun hd hb hc => by
      subst hd
      exact ⟨a, vs, g, rfl, e, hH, r, hb, hc⟩
    cases f with
    | deep => exact fin (Option.some.inj hi) (fun b hb => .inr (.inl (by rw [(c1 rfl).1]; exact hb))) fun b hb => .inr (by rw [(c1 rfl).1]; exact List.mem_cons_of_mem _ hb)
    | top => exact fin (Option.some.inj hi) (fun b hb => (c2 rfl b hb).imp id .inl) fun b hb => c2 rfl b (List.mem_cons_of_mem _ hb)
    | fro => exact fin (Option.some.inj hi) (fun b hb => .inl (c3 rfl b hb)) fun b hb => .inl (c3 rfl b (List.mem_cons_of_mem _ hb))
    | bor =>
      have hi' : (if (still && noMuts xs) = true then some xs else none) = some ds := hi
      split at hi'
      · rename_i hc
        simp only [Bool.and_eq_true] at hc
        refine fin (Option.some.inj hi') (fun b hb => (c4 rfl b hb).imp id fun z => .inr ⟨hc.1, z⟩) fun b hb => ?_
        rw [r.noMut hc.2] at hb
        exact nomatch hb
      · cases hi'
  | tup xs =>
    right
    obtain ⟨a, vs, e, hH, r⟩ := rp.tuple
    have fin : ∀ (hd : xs = ds), (∀ b ∈ fp, F b ∨ b ∈ own ∨ (still = true ∧ O b)) → (∀ b ∈ fp, F b ∨ b ∈ own) → ∃ a vs g, D.tup xs = .tup ds ∧ v = .ref a ∧ SqT K H a vs ∧ Reps K H vs ds g ∧ (∀ b ∈ g, F b ∨ b ∈ own ∨ (still = true ∧ O b)) ∧ ∀ b ∈ g, F b ∨ b ∈ own := fun hd hb hc => by
      subst hd
      exact ⟨a, vs, fp, rfl, e, hH, r, hb, hc⟩
    cases f with
    | deep => exact fin (Option.some.inj hi) (fun b hb => .inr (.inl (by rw [(c1 rfl).1]; exact hb))) fun b hb => .inr (by rw [(c1 rfl).1]; exact hb)
    | top => exact fin (Option.some.inj hi) (fun b hb => (c2 rfl b hb).imp id .inl) fun b hb => c2 rfl b hb
    | fro => exact fin (Option.some.inj hi) (fun b hb => .inl (c3 rfl b hb)) fun b hb => .inl (c3 rfl b hb)
    | bor =>
      have hi' : (if noMuts xs = true then some xs else none) = some ds := hi
      split at hi'
      · rename_i hc
        refine fin (Option.some.inj hi') (fun b hb => ?_) fun b hb => ?_
        · rw [r.noMut hc] at hb
          exact nomatch hb
        · rw [r.noMut hc] at hb
          exact nomatch hb
      · cases hi'
  | non => cases f <;> cases hi
  | bl _ => cases f <;> cases hi
  | int _ => cases f <;> cases hi
  | str _ => cases f <;> cases hi
  | scr _ => cases f <;> cases hi
  | dic _ => cases f <;> cases hi
  | set _ => cases f <;> cases hi
  | obj _ _ => cases f <;> cases hi
theorem freeze_ok {F O : AP'} {fz own T : List Addr} {still : Bool} (h : ∀ b ∈ fz, F b ∨ b ∈ own ∨ (still = true ∧ O b)) (hT : ∀ b ∈ own, b ∈ T) : ∀ b ∈ fz, addF F T b ∨ (still = true ∧ O b) := fun b hb => by
  rcases h b hb with z | z | z
  · exact .inl (.inl z)
  · exact .inl (.inr (hT b z))
  · exact .inr z
theorem freeze_it {F : AP'} {fi own T : List Addr} (h : ∀ b ∈ fi, F b ∨ b ∈ own) (hT : ∀ b ∈ own, b ∈ T) : ∀ b ∈ fi, addF F T b := fun b hb => (h b hb).imp id (hT b)
theorem outR_cases {α : Type} {r : R α} {P : α → En → Prop} (h : OutR r P) : ∃ x e, r = .ok x e ∧ P x e := by
  cases r with
  | ok a e => exact ⟨a, e, rfl, h⟩
  | ex x e => exact h.elim
  | bad => exact h.elim
theorem si_vl {a : PX} (ha : SE cx a) : SI cx (.vl a) := fun S X tg e C hm _ pins s σ F O H e0 still R I r h => by
  have hm' : mE S a e = true := by simpa [mI] using hm
  simp only [evI] at h
  obtain ⟨x, e1, hE, hN⟩ := outR_cases (outR_bind h)
  obtain ⟨ds, hi, hW⟩ := outR_of hN
  have A0 : Acc X.K F O H σ (pureI (.vl a)) [] e0 F O H := .start r
  have rd := A0.next (cx := cx) (p := a) (N := fun x' e' => x' = x ∧ e' = e1) (fun z => by simpa [pureI] using z) (.inl (nob X.K)) (by rw [hE]; exact ⟨rfl, rfl⟩)
  by_cases hl : ∃ xs, x.1 = .lst xs
  · obtain ⟨xs, hl⟩ := hl
    refine (pi_list (ha S X e C hm')).run pins s σ H R I ?_
    refine rd |> fun ⟨G1, G2, G3, G4, G5⟩ => ⟨G1, G2, G3, G4, G5.imp fun xv e2 hN v F' O' H' own c => ?_⟩
    obtain ⟨F2, O2, x2, e2', own2, ⟨rfl, rfl⟩, A2⟩ := hN v F' O' H' own c
    rcases (A2.tm.val ⟨v, x2, own2⟩ (by simp)).walk hi with ⟨a', vs, g, e3, ev, hH, rs, hb, hb'⟩ | ⟨a', vs, g, e3, _⟩
    · exact ⟨a', ev, ⟨vs, .of hH⟩, hW _ _ _ _ _ _ _ walk_list ⟨hH, rs⟩ A2.freeze (freeze_ok hb fun b hb => by simpa [tOwn] using hb) (freeze_it hb' fun b hb => by simpa [tOwn] using hb)⟩
    · rw [hl] at e3; cases e3
  · refine (pi_tup (ha S X e C hm')).run pins s σ H R I ?_
    refine rd |> fun ⟨G1, G2, G3, G4, G5⟩ => ⟨G1, G2, G3, G4, G5.imp fun xv e2 hN v F' O' H' own c => ?_⟩
    obtain ⟨F2, O2, x2, e2', own2, ⟨rfl, rfl⟩, A2⟩ := hN v F' O' H' own c
    rcases (A2.tm.val ⟨v, x2, own2⟩ (by simp)).walk hi with ⟨a', vs, g, e3, _⟩ | ⟨a', vs, g, e3, ev, hH, rs, hb, hb'⟩
    · exact absurd ⟨_, e3⟩ hl
    · exact ⟨a', ev, ⟨vs, hH⟩, hW _ _ _ _ _ _ _ walk_tup ⟨hH, rs⟩ A2.freeze (freeze_ok hb fun b hb => by simpa [tOwn] using hb) (freeze_it hb' fun b hb => by simpa [tOwn] using hb)⟩
theorem si_rg1 {a : PX} (ha : SE cx a) : SI cx (.rg1 a) := fun S X tg e C hm _ pins s σ F O H e0 still R I r h => by
  simp only [mI] at hm
  split at hm
  · rename_i x p y pos
    simp only [Bool.and_eq_true, decide_eq_true_eq] at hm
    obtain ⟨⟨rfl, hg⟩, h1⟩ := hm
    obtain ⟨gl, _⟩ := globOk_of C hg
    simp only [evI] at h
    have A0 : Acc X.K F O H σ (pureI (.rg1 a)) [] e0 F O H := .start r
    refine (pi_range1 gl C.rng (pa_cons (ha S X y C h1) pa_nil (star_plain (plain_of_mE h1))) (star_plain (plain_of_mE h1))).run pins s σ H R I ?_
    refine A0.next (cx := cx) (p := a) (fun z => by simpa [pureI] using z) (.inl (nob X.K)) (outR_bind h) |> fun ⟨G1, G2, G3, G4, G5⟩ => ⟨G1, G2, G3, G4, G5.imp fun xv e2 hN v F' O' H' own c => ?_⟩
    obtain ⟨F2, O2, x, e2', own2, hN2, A2⟩ := hN v F' O' H' own c
    obtain ⟨d, f⟩ := x
    cases d with
    | int j =>
      have hv : v = .int j := (A2.tm.val ⟨v, (.int j, f), own2⟩ (by simp)).int
      subst hv
      obtain ⟨hj, hN3⟩ := outR_ite hN2
      obtain ⟨b1, b2⟩ := rgOk_of hj
      exact ⟨j, rfl, b1, b2, hN3 _ _ _ _ _ _ _ walk_rng trivial A2.none (fun _ h => nomatch h) (fun _ h => nomatch h)⟩
    | _ => exact hN2.elim
  · cases hm
theorem si_rg2 {a b : PX} (ha : SE cx a) (hb : SE cx b) : SI cx (.rg2 a b) := fun S X tg e C hm _ pins s σ F O H e0 still R I r h => by
  simp only [mI] at hm
  split at hm
  · rename_i x p y z pos
    simp only [Bool.and_eq_true, decide_eq_true_eq] at hm
    obtain ⟨⟨⟨rfl, hg⟩, h1⟩, h2⟩ := hm
    obtain ⟨gl, _⟩ := globOk_of C hg
    simp only [evI] at h
    obtain ⟨p1, p2⟩ := and_pur (a := a) (b := b) rfl
    have A0 : Acc X.K F O H σ (pureI (.rg2 a b)) [] e0 F O H := .start r
    refine (pi_range2 gl C.rng (pa_cons (ha S X y C h1) (pa_cons (hb S X z C h2) pa_nil (star_plain (plain_of_mE h2))) (star_plain (plain_of_mE h1))) (by rw [star_plain (plain_of_mE h1), star_plain (plain_of_mE h2)]; rfl) (by rw [star_plain (plain_of_mE h2)]; rfl)).run pins s σ H R I ?_
    refine A0.next (cx := cx) (p := a) p1 (.inl (nob X.K)) (outR_bind h) |> fun ⟨G1, G2, G3, G4, G5⟩ => ⟨G1, G2, G3, G4, G5.imp fun xv e2 hN v F' O' H' own c => ?_⟩
    obtain ⟨F2, O2, x, e2', own2, hN2, A2⟩ := hN v F' O' H' own c
    refine (Acc.none A2).next (cx := cx) (p := b) p2 (.inl (nob X.K)) (outR_bind hN2) |> fun ⟨J1, J2, J3, J4, J5⟩ => ⟨J1, J2, J3, J4, J5.imp fun xv3 e3 hN3 v3 F3 O3 H3 own3 c3 => ?_⟩
    obtain ⟨F4, O4, y4, e4, own4, hN4, A4⟩ := hN3 v3 F3 O3 H3 own3 c3
    obtain ⟨d, f⟩ := x
    obtain ⟨d4, f4⟩ := y4
    have v1 := A2.tm.val ⟨v, (d, f), own2⟩ (by simp)
    have v2 := A4.tm.val ⟨v3, (d4, f4), own4⟩ (by simp)
    cases d with
    | int i =>
      cases d4 with
      | int j =>
        have hv : v = .int i := v1.int
        have hv2 : v3 = .int j := v2.int
        obtain ⟨hj, hN5⟩ := outR_ite hN4
        simp only [Bool.and_eq_true] at hj
        obtain ⟨b1, b2⟩ := rgOk_of hj.1
        obtain ⟨b3, b4⟩ := rgOk_of hj.2
        exact ⟨i, j, by rw [hv, hv2], ⟨b1, b2, b3, b4⟩, hN5 _ _ _ _ _ _ _ walk_rng trivial A4.none (fun _ h => nomatch h) (fun _ h => nomatch h)⟩
      | _ => exact hN4.elim
    | _ => exact hN4.elim
  · cases hm
theorem si_rgd {a b : PX} : SI cx (.rgd a b) := fun S X tg e C hm _ pins s σ F O H e0 still R I r h => by
  simp only [evI] at h
  exact h.elim
theorem si_rv {a : PX} (ha : SE cx a) : SI cx (.rv a) := fun S X tg e C hm _ pins s σ F O H e0 still R I r h => by
  simp only [mI] at hm
  split at hm
  · rename_i x p y pos
    simp only [Bool.and_eq_true, decide_eq_true_eq] at hm
    obtain ⟨⟨rfl, hg⟩, h1⟩ := hm
    obtain ⟨gl, _⟩ := globOk_of C hg
    simp only [evI] at h
    have A0 : Acc X.K F O H σ (pureI (.rv a)) [] e0 F O H := .start r
    refine (pi_revA gl C.rev (ha S X y C h1) (star_plain (plain_of_mE h1))).run pins s σ H R I ?_
    refine A0.next (cx := cx) (p := a) (fun z => by simpa [pureI] using z) (.inl (nob X.K)) (outR_bind h) |> fun ⟨G1, G2, G3, G4, G5⟩ => ⟨G1, G2, G3, G4, G5.imp fun xv e2 hN v F' O' H' own c => ?_⟩
    obtain ⟨F2, O2, x, e2', own2, hN2, A2⟩ := hN v F' O' H' own c
    obtain ⟨ds, hi, hW⟩ := outR_of (outR_bind hN2)
    rcases (A2.tm.val ⟨v, x, own2⟩ (by simp)).walk hi with ⟨a', vs, g, e3, ev, hH, rs, hb, hb'⟩ | ⟨a', vs, g, e3, ev, hH, rs, hb, hb'⟩
    · exact ⟨a', vs, ev, .inl ⟨.of hH, hW _ _ _ _ _ _ _ walk_rev ⟨hH, rs⟩ A2.freeze (freeze_ok hb fun b hb => by simpa [tOwn] using hb) (freeze_it hb' fun b hb => by simpa [tOwn] using hb)⟩⟩
    · exact ⟨a', vs, ev, .inr ⟨hH, hW _ _ _ _ _ _ _ walk_revT ⟨hH, rs⟩ A2.freeze (freeze_ok hb fun b hb => by simpa [tOwn] using hb) (freeze_it hb' fun b hb => by simpa [tOwn] using hb)⟩⟩
  · cases hm
theorem si_enm {a : PX} (ha : SE cx a) : SI cx (.enm a) := fun S X tg e C hm ht pins s σ F O H e0 still R I r h => by
  simp only [mI] at hm
  split at hm
  · rename_i x p y pos
    simp only [Bool.and_eq_true, decide_eq_true_eq] at hm
    obtain ⟨⟨rfl, hg⟩, h1⟩ := hm
    obtain ⟨gl, _⟩ := globOk_of C hg
    simp only [evI] at h
    simp only [okTg] at ht
    split at ht
    · have A0 : Acc X.K F O H σ (pureI (.enm a)) [] e0 F O H := .start r
      refine (pi_enum gl C.enm (pa_cons (ha S X y C h1) pa_nil (star_plain (plain_of_mE h1))) (star_plain (plain_of_mE h1))).run pins s σ H R I ?_
      refine A0.next (cx := cx) (p := a) (fun z => by simpa [pureI] using z) (.inl (nob X.K)) (outR_bind h) |> fun ⟨G1, G2, G3, G4, G5⟩ => ⟨G1, G2, G3, G4, G5.imp fun xv e2 hN v F' O' H' own c => ?_⟩
      obtain ⟨F2, O2, x, e2', own2, hN2, A2⟩ := hN v F' O' H' own c
      obtain ⟨hl, hN2⟩ := outR_ite hN2
      obtain ⟨ds, hi, hW⟩ := outR_of (outR_bind hN2)
      rcases (A2.tm.val ⟨v, x, own2⟩ (by simp)).walk hi with ⟨a', vs, g, e3, ev, hH, rs, hb, hb'⟩ | ⟨a', vs, g, e3, ev, hH, rs, hb, hb'⟩
      · have ev : v = .ref a' := ev
        exact ⟨a', vs, by rw [ev], .of hH, hW _ _ _ _ _ _ _ walk_enum ⟨hH, rs⟩ A2.freeze (freeze_ok hb fun b hb => by simpa [tOwn] using hb) (freeze_it hb' fun b hb => by simpa [tOwn] using hb)⟩
      · have e3 : x.1 = .tup ds := e3
        rw [e3] at hl; cases hl
    · cases ht
  · cases hm
theorem si_zip {a b : PX} (ha : SE cx a) (hb : SE cx b) : SI cx (.zip a b) := fun S X tg e C hm ht pins s σ F O H e0 still R I r h => by
  simp only [mI] at hm
  split at hm
  · rename_i x p y z pos
    simp only [Bool.and_eq_true, decide_eq_true_eq] at hm
    obtain ⟨⟨⟨rfl, hg⟩, h1⟩, h2⟩ := hm
    obtain ⟨gl, _⟩ := globOk_of C hg
    simp only [evI] at h
    simp only [okTg] at ht
    split at ht
    · obtain ⟨p1, p2⟩ := and_pur (a := a) (b := b) rfl
      have A0 : Acc X.K F O H σ (pureI (.zip a b)) [] e0 F O H := .start r
      refine (pi_zipA gl C.zip (pa_cons (ha S X y C h1) (pa_cons (hb S X z C h2) pa_nil (star_plain (plain_of_mE h2))) (star_plain (plain_of_mE h1))) (star_plain (plain_of_mE h1)) (star_none fun w hw => by rw [List.mem_singleton.mp hw]; exact plain_of_mE h2)).run pins s σ H R I ?_
      refine A0.next (cx := cx) (p := a) p1 (.inl (nob X.K)) (outR_bind h) |> fun ⟨G1, G2, G3, G4, G5⟩ => ⟨G1, G2, G3, G4, G5.imp fun xv e2 hN v F' O' H' own c => ?_⟩
      obtain ⟨F2, O2, x, e2', own2, hN2, A2⟩ := hN v F' O' H' own c
      obtain ⟨hgd, hN2⟩ := outR_guard hN2
      refine A2.next (cx := cx) (p := b) p2 (nob_one hgd) (outR_bind hN2) |> fun ⟨J1, J2, J3, J4, J5⟩ => ⟨J1, J2, J3, J4, J5.imp fun xv3 e3 hN3 v3 F3 O3 H3 own3 c3 => ?_⟩
      obtain ⟨F4, O4, y4, e4, own4, hN4, A4⟩ := hN3 v3 F3 O3 H3 own3 c3
      obtain ⟨hs, hN4⟩ := outR_ite hN4
      obtain ⟨ds, hi, hN5⟩ := outR_of (outR_bind hN4)
      obtain ⟨es, hi2, hW⟩ := outR_of (outR_bind hN5)
      rcases (A4.tm.val ⟨v, x, own2⟩ (by simp)).walk hi with ⟨a', vs, g, q3, ev, hH, rs, hb1, hc1⟩ | ⟨a', vs, g, q3, ev, hH, rs, hb1, hc1⟩ <;> rcases (A4.tm.val ⟨v3, y4, own4⟩ (by simp)).walk hi2 with ⟨a2, vs2, g2, q4, ev2, hH2, rs2, hb2, hc2⟩ | ⟨a2, vs2, g2, q4, ev2, hH2, rs2, hb2, hc2⟩
      · have ev : v = .ref a' := ev
        have ev2 : v3 = .ref a2 := ev2
        refine ⟨a', a2, vs, vs2, by rw [ev, ev2], .inl ⟨.of hH, .of hH2, hW _ _ _ _ _ _ _ walk_zip ⟨⟨hH, rs⟩, hH2, rs2⟩ A4.freeze (fun c hc => ?_) fun c hc => ?_⟩⟩
        · rcases List.mem_append.mp hc with hc | hc
          · exact freeze_ok hb1 (fun b hb => by simp only [tOwn, List.cons_append, List.nil_append, List.flatMap_cons, List.flatMap_nil, List.append_nil, List.mem_append]; exact .inl hb) c hc
          · exact freeze_ok hb2 (fun b hb => by simp only [tOwn, List.cons_append, List.nil_append, List.flatMap_cons, List.flatMap_nil, List.append_nil, List.mem_append]; exact .inr hb) c hc
        · rcases List.mem_append.mp hc with hc | hc
          · exact freeze_it hc1 (fun b hb => by simp only [tOwn, List.cons_append, List.nil_append, List.flatMap_cons, List.flatMap_nil, List.append_nil, List.mem_append]; exact .inl hb) c hc
          · exact freeze_it hc2 (fun b hb => by simp only [tOwn, List.cons_append, List.nil_append, List.flatMap_cons, List.flatMap_nil, List.append_nil, List.mem_append]; exact .inr hb) c hc
      · have q3 : x.1 = .lst ds := q3
        have q4 : y4.1 = .tup es := q4
        rw [q3, q4] at hs; cases hs
      · have q3 : x.1 = .tup ds := q3
        have q4 : y4.1 = .lst es := q4
        rw [q3, q4] at hs; cases hs
      · have ev : v = .ref a' := ev
        have ev2 : v3 = .ref a2 := ev2
        refine ⟨a', a2, vs, vs2, by rw [ev, ev2], .inr ⟨hH, hH2, hW _ _ _ _ _ _ _ walk_zipT ⟨⟨hH, rs⟩, hH2, rs2⟩ A4.freeze (fun c hc => ?_) fun c hc => ?_⟩⟩
        · rcases List.mem_append.mp hc with hc | hc
          · exact freeze_ok hb1 (fun b hb => by simp only [tOwn, List.cons_append, List.nil_append, List.flatMap_cons, List.flatMap_nil, List.append_nil, List.mem_append]; exact .inl hb) c hc
          · exact freeze_ok hb2 (fun b hb => by simp only [tOwn, List.cons_append, List.nil_append, List.flatMap_cons, List.flatMap_nil, List.append_nil, List.mem_append]; exact .inr hb) c hc
        · rcases List.mem_append.mp hc with hc | hc
          · exact freeze_it hc1 (fun b hb => by simp only [tOwn, List.cons_append, List.nil_append, List.flatMap_cons, List.flatMap_nil, List.append_nil, List.mem_append]; exact .inl hb) c hc
          · exact freeze_it hc2 (fun b hb => by simp only [tOwn, List.cons_append, List.nil_append, List.flatMap_cons, List.flatMap_nil, List.append_nil, List.mem_append]; exact .inr hb) c hc
    · cases ht
  · cases hm
end
end Ev

/-! Ev19: targets. -/
namespace Ev
open PySem PySem.Spec PyProof.Rows L2
section
variable {K : PySem.W.Frag} {F O : AP'} {H : Hp} {v : V} {x : Vl} {own : List Addr} {σ : L2.St} {e e1 : En}
/-- what a store leaves: T: the nodes of the value -/
structure Put (K : PySem.W.Frag) (F O : AP') (T : List Addr) (H : Hp) (σ : L2.St) (e : En) (fr : Bool) (sl : List Nat) (e1 : En) (F' O' : AP') (σ' : L2.St) : Prop where
  step : Step F O T H F' O' H
  rel : Rel K F' O' H σ' e1
  len : σ'.length = σ.length
  other : ∀ j, j ∉ sl → σ'[j]? = σ[j]?
  cells : ∀ j, j ∉ sl → cellAt e1 j = cellAt e j
  stay : fr = true → (∀ j ∈ sl, ∀ y, cellAt e j = some y → y.2 = .fro) → (∀ b, O b → O' b) ∧ (∀ j ∈ sl, ∀ y, cellAt e1 j = some y → y.2 = .fro)
def gA (K : PySem.W.Frag) (pin : List Nat) (t : PT) : TG := fun v σ H Q => ∃ F O e x own e1, Rel K F O H σ e ∧ Val K F O H v x own ∧ Apart F O own ∧ asgN pin t x e = some e1 ∧
  ∀ F' O' σ', Put K F O own H σ e (decide (x.2 = .fro)) (ptSlots t) e1 F' O' σ' → Q σ' H
def gAs (K : PySem.W.Frag) (pin : List Nat) (ts : PTs) : TGs := fun vs σ H Q => ∃ F O e xs f tl e1, Rel K F O H σ e ∧ tl.map (·.v) = vs ∧ tl.map (·.x) = xs.map (fun d => (d, f)) ∧ Temps K F O H tl ∧ f ≠ .bor ∧ asgNs pin ts xs f e = some e1 ∧
  ∀ F' O' σ', Put K F O (tOwn tl) H σ e (decide (f = .fro)) (ptsSlots ts) e1 F' O' σ' → Q σ' H
theorem put_name {i : Nat} {keep : Bool} (r : Rel K F O H σ e) (hv : Val K F O H v x own) (ap : Apart F O own) (hb : bindN i x keep e = some e1) : ∃ F' O', Put K F O own H σ e (decide (x.2 = .fro)) [i] e1 F' O' (σ.set i (some v)) := by
  unfold bindN at hb
  split at hb
  · rename_i d f hesc
    split at hb
    · rename_i hi
      cases hb
      obtain ⟨old, o1, o2, o3, o4, o5⟩ := r.put i
      have hm := hv.mut
      obtain ⟨fp, rp, d1, d2, d3, d4⟩ := hv.give hesc
      have hl : i < σ.length := by rw [r.len]; exact hi
      have lo : ∀ j, j ∉ [i] → (σ.set i (some v))[j]? = σ[j]? := fun j hj => by
        rw [List.getElem?_set_ne (show i ≠ j from fun z => hj (by rw [z]; simp))]
      have oldF : ∀ y, cellAt e i = some y → y.2 = .fro → old = [] := fun y hy hf => by
        obtain ⟨_, v', _, hv'⟩ := o4 y hy
        obtain ⟨dy, fy⟩ := y
        have hf : fy = .fro := hf
        subst hf
        obtain ⟨_, _, _, q⟩ := hv'
        exact q
      have oldE : (∀ j ∈ [i], ∀ y, cellAt e j = some y → y.2 = .fro) → old = [] := fun h => by
        cases q : cellAt e i with
        | none => exact o3 q
        | some y => exact oldF y q (h i (by simp) y q)
      cases keep with
      | true =>
        have vnew : Val K F (fun _ => False) H v (d, keepFl x.2 f) own := by
          unfold keepFl
          split
          · rename_i hx
            obtain ⟨dx, fx⟩ := x
            have hx : fx = .fro := hx
            subst hx
            have := (esc_data hesc).1
            rw [this]
            exact hv
          · exact esc_val hv hesc
        obtain ⟨O', r', hO⟩ := o5 own own F (σ.set i (some v)) (some (d, keepFl x.2 f)) ap hm (fun _ h => h) (fun b h => .inl h) hv.nodup (fun b hb => ⟨.inr hb, ap.nf b hb⟩) (fun h => nomatch h) (fun _ => hi)
          (fun y hy => by cases hy; exact ⟨keepFl_nb d4, v, by rw [List.getElem?_set_self hl], vnew⟩) (by rw [List.length_set]) (fun j hj => by rw [List.getElem?_set_ne (Ne.symm hj)])
        refine ⟨F, O', ⟨⟨fun _ _ e _ _ => e, fun _ h => h, fun b h => .inl h, fun b h => ((hO b).mp h).elim (fun z => .inr (.inl z)) fun z => .inl z.1⟩, r', by rw [List.length_set], lo, fun j hj => cell_ne (fun z => hj (by rw [z]; simp)), fun hf hs => ⟨fun b hb => (hO b).mpr (.inr ⟨hb, by rw [oldE hs]; exact fun z => nomatch z⟩), fun j hj y hy => ?_⟩⟩⟩
        obtain rfl := List.mem_singleton.mp hj
        rw [cell_set hi] at hy
        cases hy
        have hf := of_decide_eq_true hf
        obtain ⟨dx, fx⟩ := x
        have hf : fx = .fro := hf
        subst hf
        rfl
      | false =>
        have vnew : Val K (addF F own) (fun _ => False) H v (d, .fro) [] := ⟨fp, rp, fun b hb => d1 b hb, rfl⟩
        obtain ⟨O', r', hO⟩ := o5 own [] (addF F own) (σ.set i (some v)) (some (d, .fro)) ap hm (fun _ h => .inl h) (fun b h => h.imp id .inr) .nil (fun _ h => nomatch h) (fun h => nomatch h) (fun _ => hi)
          (fun y hy => by cases hy; exact ⟨(by decide : (Fl.fro : Fl) ≠ .bor), v, by rw [List.getElem?_set_self hl], vnew⟩) (by rw [List.length_set]) (fun j hj => by rw [List.getElem?_set_ne (Ne.symm hj)])
        refine ⟨addF F own, O', ⟨⟨fun _ _ e _ _ => e, fun _ h => .inl h, fun b h => h.imp id fun z => .inr (.inl z), fun b h => ((hO b).mp h).elim (fun z => nomatch z) fun z => .inl z.1⟩, r', by rw [List.length_set], lo, fun j hj => cell_ne (fun z => hj (by rw [z]; simp)), fun hf hs => ⟨fun b hb => (hO b).mpr (.inr ⟨hb, by rw [oldE hs]; exact fun z => nomatch z⟩), fun j hj y hy => ?_⟩⟩⟩
        obtain rfl := List.mem_singleton.mp hj
        rw [cell_set hi] at hy
        cases hy
        rfl
    · cases hb
  · cases hb
/-- a tuple's parts at hand -/
theorem parts_deep : ∀ {vs : List V} {ds : List D} {g : List Addr}, Reps K H vs ds g → g.Nodup → ∃ tl : List Tmp, tl.map (·.v) = vs ∧ tl.map (·.x) = ds.map (fun d => (d, Fl.deep)) ∧ (∀ t ∈ tl, Val K F O H t.v t.x t.own) ∧ tOwn tl = g
  | _, _, _, .nil, _ => ⟨[], rfl, rfl, (fun _ h => nomatch h), rfl⟩
  | _, _, _, .cons (v := v) (d := d) (f := f) (g := g) x r, nd => by
    obtain ⟨n1, n2, _⟩ := perm2 nd
    obtain ⟨tl, h1, h2, h3, h4⟩ := parts_deep r n2
    refine ⟨⟨v, (d, .deep), f⟩ :: tl, by rw [List.map_cons, h1], by rw [List.map_cons, h2, List.map_cons], fun t ht => ?_, by show f ++ tOwn tl = _; rw [h4]⟩
    rcases List.mem_cons.mp ht with rfl | ht
    · exact ⟨x, n1⟩
    · exact h3 t ht
theorem parts_fro : ∀ {vs : List V} {ds : List D} {g : List Addr}, Reps K H vs ds g → (∀ b ∈ g, F b) → ∃ tl : List Tmp, tl.map (·.v) = vs ∧ tl.map (·.x) = ds.map (fun d => (d, Fl.fro)) ∧ (∀ t ∈ tl, Val K F O H t.v t.x t.own) ∧ tOwn tl = []
  | _, _, _, .nil, _ => ⟨[], rfl, rfl, (fun _ h => nomatch h), rfl⟩
  | _, _, _, .cons (v := v) (d := d) (f := f) (g := g) x r, hF => by
    obtain ⟨tl, h1, h2, h3, h4⟩ := parts_fro r fun b hb => hF b (List.mem_append_right _ hb)
    refine ⟨⟨v, (d, .fro), []⟩ :: tl, by rw [List.map_cons, h1], by rw [List.map_cons, h2, List.map_cons], fun t ht => ?_, by show [] ++ tOwn tl = _; rw [h4]; rfl⟩
    rcases List.mem_cons.mp ht with rfl | ht
    · exact ⟨f, x, fun b hb => hF b (List.mem_append_left _ hb), rfl⟩
    · exact h3 t ht
theorem Val.parts {xs : List D} {f f' : Fl} (r : Rel K F O H σ e) (h : Val K F O H v (.tup xs, f) own) (ap : Apart F O own) (he : escs xs f = some f') : ∃ F1 a vs tl, v = .ref a ∧ SqT K H a vs ∧ tl.map (·.v) = vs ∧ tl.map (·.x) = xs.map (fun d => (d, keepFl f (elFl f'))) ∧ Temps K F1 O H tl ∧ Rel K F1 O H σ e ∧
    (∀ b, F b → F1 b) ∧ (∀ b, F1 b → F b ∨ b ∈ own) ∧ (∀ b ∈ tOwn tl, b ∈ own) ∧ vs.length = xs.length ∧ keepFl f (elFl f') ≠ .bor := by
  have hm := h.mut
  obtain ⟨fp, rp, c1, c2, c3, c4⟩ := h.nodes
  obtain ⟨a, vs, e1, hH, rs⟩ := rp.tuple
  unfold escs at he
  by_cases hn : noMuts xs = true
  · rw [if_pos hn] at he
    cases he
    have := rs.noMut hn
    subst this
    by_cases hfr : f = .fro
    · subst hfr
      obtain ⟨tl, h1, h2, h3, h4⟩ := parts_fro (F := F) (O := O) rs (fun b hb => c3 rfl b hb)
      exact ⟨F, a, vs, tl, e1, hH, h1, h2, ⟨h3, by rw [h4]; exact .nil, by rw [h4]; exact .nil⟩, r, fun _ h => h, fun _ h => .inl h, (by rw [h4]; intro b hb; cases hb), rs.length, by decide⟩
    have hk : keepFl f (elFl .deep) = .deep := by unfold keepFl; rw [if_neg hfr]; rfl
    rw [hk]
    obtain ⟨tl, h1, h2, h3, h4⟩ := parts_deep (F := F) (O := O) rs .nil
    exact ⟨F, a, vs, tl, e1, hH, h1, h2, ⟨h3, by rw [h4]; exact .nil, by rw [h4]; exact .nil⟩, r, fun _ h => h, fun _ h => .inl h, (by rw [h4]; intro b hb; cases hb), rs.length, by decide⟩
  rw [if_neg hn] at he
  cases f with
  | deep =>
    cases he
    obtain ⟨rfl, nd⟩ := c1 rfl
    obtain ⟨tl, h1, h2, h3, h4⟩ := parts_deep (F := F) (O := O) rs nd
    exact ⟨F, a, vs, tl, e1, hH, h1, h2, ⟨h3, by rw [h4]; exact nd, by rw [h4]; exact ap⟩, r, fun _ h => h, fun _ h => .inl h, (by rw [h4]; exact fun _ h => h), rs.length, by decide⟩
  | top =>
    cases he
    obtain ⟨tl, h1, h2, h3, h4⟩ := parts_fro (F := addF F own) (O := O) rs (fun b hb => c2 rfl b hb)
    exact ⟨addF F own, a, vs, tl, e1, hH, h1, h2, ⟨h3, by rw [h4]; exact .nil, by rw [h4]; exact .nil⟩, addF_rel r (fun _ _ h => h) ap hm, fun _ h => .inl h, fun _ h => h, (by rw [h4]; intro b hb; cases hb), rs.length, by decide⟩
  | fro =>
    cases he
    obtain ⟨tl, h1, h2, h3, h4⟩ := parts_fro (F := F) (O := O) rs (fun b hb => c3 rfl b hb)
    exact ⟨F, a, vs, tl, e1, hH, h1, h2, ⟨h3, by rw [h4]; exact .nil, by rw [h4]; exact .nil⟩, r, fun _ h => h, fun _ h => .inl h, (by rw [h4]; intro b hb; cases hb), rs.length, by decide⟩
  | bor => cases he
end
section
variable {S : Stc} {X : Cx} {cx : CX}
def starT : Expr → Bool
  | .Starred .. => true
  | _ => false
theorem starT_mT {t : PT} {e : Expr} (h : mT S t e = true) : starT e = false := by
  cases t <;> simp only [mT] at h <;> split at h <;> first | rfl | cases h
theorem each_cons {env : Env} {e : Expr} {es : List Expr} (h : starT e = false) : assignEach (e :: es) env = (false, assign e env) :: assignEach es env := by
  cases e <;> first | rfl | cases h
theorem each_all {env : Env} : ∀ {ts : PTs} {es : List Expr}, mTs S ts es = true → (assignEach es env).findIdx? (·.1) = none ∧ (assignEach es env).length = es.length
  | .nil, es, h => by
    cases es with
    | nil => exact ⟨rfl, rfl⟩
    | cons x r => exact absurd h (by simp [mTs])
  | .cons t ts, es, h => by
    cases es with
    | nil => exact absurd h (by simp [mTs])
    | cons x r =>
      have h' : mT S t x = true ∧ mTs S ts r = true := by simpa [mTs] using h
      obtain ⟨h1, h2⟩ := each_all (env := env) h'.2
      rw [each_cons (starT_mT h'.1)]
      refine ⟨?_, by rw [List.length_cons, h2, List.length_cons]⟩
      rw [List.findIdx?_cons]
      simp [h1]
theorem asgNs_len {pin : List Nat} : ∀ {ts : PTs} {xs : List D} {f : Fl} {e e1 : En} {es : List Expr}, asgNs pin ts xs f e = some e1 → mTs S ts es = true → xs.length = es.length
  | .nil, xs, f, e, e1, es, h, hm => by
    cases es with
    | nil =>
      cases xs with
      | nil => rfl
      | cons _ _ => simp [asgNs] at h
    | cons x r => exact absurd hm (by simp [mTs])
  | .cons t ts, xs, f, e, e1, es, h, hm => by
    cases es with
    | nil => exact absurd hm (by simp [mTs])
    | cons x r =>
      have h' : mT S t x = true ∧ mTs S ts r = true := by simpa [mTs] using hm
      cases xs with
      | nil => simp [asgNs] at h
      | cons y ys =>
        simp only [asgNs] at h
        split at h
        · rename_i e2 _
          rw [List.length_cons, List.length_cons, asgNs_len h h'.2]
        · cases h
mutual
theorem tg_ok (pin : List Nat) : ∀ (t : PT) {tg : Expr}, Ctx S X cx → mT S t tg = true → PG X tg (gA X.K pin t)
  | .nm i keep, tg, C, hm => by
    cases tg with
    | Name x pos =>
      have hs : storeOk S i x = true := hm
      obtain ⟨h1, h2, h3⟩ := storeOk_of C hs
      refine ⟨fun pins s σ H v u Q I r h => (pg_name C.nd h1 h2 h3).run pins s σ H v u Q I r ?_⟩
      obtain ⟨F, O, e, y, own, e1, rl, hv, ap, ha, q⟩ := h
      simp only [asgN] at ha
      split at ha
      · cases ha
      · obtain ⟨F', O', p⟩ := put_name rl hv ap ha
        exact q F' O' _ p
    | _ => exact absurd hm (by simp [mT])
  | .tp ts, tg, C, hm => by
    cases tg with
    | Tuple es k pos =>
      have hm' : mTs S ts es = true := hm
      obtain ⟨q1, q2⟩ := each_all (env := X.env) hm'
      refine ⟨fun pins s σ H v u Q I r h => (pg_tup C.calm (tgs_ok pin ts C hm') rfl q1).run pins s σ H v u Q I r ?_⟩
      obtain ⟨F, O, e, y, own, e1, rl, hv, ap, ha, q⟩ := h
      obtain ⟨d, f⟩ := y
      cases d with
      | tup xs =>
        simp only [asgN] at ha
        cases he : escs xs f with
        | none => rw [he] at ha; cases ha
        | some f' =>
        simp only [he] at ha
        obtain ⟨F1, a, vs, tl, ev, hH, m1, m2, tm, rl1, f1, f2, f3, hl, hnb⟩ := hv.parts rl ap he
        refine ⟨a, vs, ev, hH, ?_, F1, O, e, xs, keepFl f (elFl f'), tl, e1, rl1, m1, m2, tm, hnb, ha, fun F' O' σ' p => q F' O' σ' ⟨?_, p.rel, p.len, p.other, p.cells, fun hf hs => ?_⟩⟩
        · rw [q2, hl]; exact asgNs_len ha hm'
        · refine ⟨fun b o e n m => p.step.keep b o e n fun z => m (f3 b z), fun b h => p.step.fin b (f1 b h), fun b h => ?_, fun b h => (p.step.oout b h).imp id fun z => z.imp (f3 b) id⟩
          rcases p.step.fout b h with z | z | z | z
          · exact (f2 b z).imp id fun w => .inr (.inl w)
          · exact .inr (.inl z)
          · exact .inr (.inr (.inl (f3 b z)))
          · exact .inr (.inr (.inr z))
        · have hf := of_decide_eq_true hf
          have hf : f = .fro := hf
          subst hf
          exact p.stay (by simp [keepFl]) hs
      | _ => simp only [asgN] at ha; cases ha
    | _ => exact absurd hm (by simp [mT])
  | .sub o i, tg, C, hm => ⟨fun pins s σ H v u Q I r h => by
    obtain ⟨F, O, e, y, own, e1, rl, hv, ap, ha, q⟩ := h
    simp only [asgN] at ha
    cases ha⟩
theorem tgs_ok (pin : List Nat) : ∀ (ts : PTs) {es : List Expr}, Ctx S X cx → mTs S ts es = true → PGs X es (gAs X.K pin ts)
  | .nil, es, C, hm => by
    cases es with
    | nil =>
      refine ⟨fun pins s σ H vs us Q I r h => pgs_nil.run pins s σ H vs us Q I r ?_⟩
      obtain ⟨F, O, e, xs, f, tl, e1, rl, m1, m2, tm, hnb, ha, q⟩ := h
      cases xs with
      | nil =>
        have : tl = [] := by simpa using m2
        subst this
        simp only [asgNs] at ha
        cases ha
        exact ⟨m1.symm, q F O σ ⟨.refl, rl, rfl, fun _ _ => rfl, fun _ _ => rfl, fun _ hs => ⟨fun _ h => h, hs⟩⟩⟩
      | cons _ _ => simp [asgNs] at ha
    | cons x r => exact absurd hm (by simp [mTs])
  | .cons t ts, es, C, hm => by
    cases es with
    | nil => exact absurd hm (by simp [mTs])
    | cons x r =>
      have h' : mT S t x = true ∧ mTs S ts r = true := by simpa [mTs] using hm
      refine ⟨fun pins s σ H vs us Q I rr h => (pgs_cons (tg_ok pin t C h'.1) (tgs_ok pin ts C h'.2) (by rw [each_cons (starT_mT h'.1)]; rfl)).run pins s σ H vs us Q I rr ?_⟩
      obtain ⟨F, O, e, xs, f, tl, e1, rl, m1, m2, tm, hnb, ha, q⟩ := h
      cases xs with
      | nil => simp [asgNs] at ha
      | cons y ys =>
        cases tl with
        | nil => cases m2
        | cons t0 tl =>
          obtain ⟨mx, m2⟩ := List.cons.inj m2
          simp only [asgNs] at ha
          split at ha
          · rename_i e2 he2
            have eo : tOwn (t0 :: tl) = t0.own ++ tOwn tl := by simp [tOwn]
            have nd := tm.nd
            have ap := tm.ap
            rw [eo] at nd ap
            obtain ⟨n1, n2, n3⟩ := perm2 nd
            have v0 := tm.val t0 List.mem_cons_self
            have mx : t0.x = (y, f) := mx
            rw [mx] at v0
            have hm0 := v0.mut
            refine ⟨t0.v, tl.map (·.v), by rw [← m1]; rfl, F, O, e, (y, f), t0.own, e2, rl, v0, ⟨fun b hb => ap.nf b (List.mem_append_left _ hb), fun b hb => ap.no b (List.mem_append_left _ hb)⟩, he2, fun F' O' σ' p => ?_⟩
            have tmr : Temps X.K F O H tl := ⟨fun u hu => tm.val u (List.mem_cons_of_mem _ hu), n2, ⟨fun b hb => ap.nf b (List.mem_append_right _ hb), fun b hb => ap.no b (List.mem_append_right _ hb)⟩⟩
            have nbl : ∀ u ∈ tl, u.x.2 ≠ .bor := fun u hu => by
              have : u.x ∈ ys.map (fun d => (d, f)) := by rw [← m2]; exact List.mem_map_of_mem hu
              obtain ⟨d, _, ed⟩ := List.mem_map.mp this
              rw [← ed]
              exact hnb
            have tm' : Temps X.K F' O' H tl := ⟨fun u hu => (tmr.val u hu).step rl.sep p.step (fun c hc => ⟨hm0 c hc, ap.nf c (List.mem_append_left _ hc)⟩) (fun b hb => ⟨tmr.ap.nf b (mem_tOwn.mpr ⟨u, hu, hb⟩), tmr.ap.no b (mem_tOwn.mpr ⟨u, hu, hb⟩), fun z => n3 b z (mem_tOwn.mpr ⟨u, hu, hb⟩)⟩) (fun hbor => absurd hbor (nbl u hu)), n2, tmr.ap.step p.step tmr.mut fun b hb z => n3 b z hb⟩
            refine ⟨F', O', e2, ys, f, tl, e1, p.rel, rfl, m2, tm', hnb, ha, fun F'' O'' σ'' p2 => q F'' O'' σ'' ⟨?_, p2.rel, p2.len.trans p.len, fun j hj => ?_, fun j hj => ?_, fun hf hs => ?_⟩⟩
            · have s1 : Step F O (tOwn (t0 :: tl)) H F' O' H := p.step.more fun c hc => by rw [eo]; exact List.mem_append_left _ hc
              exact s1.trans p2.step fun c hc => .inr (.inl (by rw [eo]; exact List.mem_append_right _ hc))
            · simp only [ptsSlots, List.mem_append, not_or] at hj
              exact (p2.other j hj.2).trans (p.other j hj.1)
            · simp only [ptsSlots, List.mem_append, not_or] at hj
              exact (p2.cells j hj.2).trans (p.cells j hj.1)
            · have hs1 : ∀ j ∈ ptSlots t, ∀ y, cellAt e j = some y → y.2 = .fro := fun j hj => hs j (by simp only [ptsSlots, List.mem_append]; exact .inl hj)
              obtain ⟨g1, g2⟩ := p.stay hf hs1
              have hs2 : ∀ j ∈ ptsSlots ts, ∀ y, cellAt e2 j = some y → y.2 = .fro := fun j hj y hy => by
                by_cases hjt : j ∈ ptSlots t
                · exact g2 j hjt y hy
                · rw [p.cells j hjt] at hy
                  exact hs j (by simp only [ptsSlots, List.mem_append]; exact .inr hj) y hy
              obtain ⟨g3, g4⟩ := p2.stay hf hs2
              refine ⟨fun b hb => g3 b (g1 b hb), fun j hj y hy => ?_⟩
              by_cases hjt : j ∈ ptsSlots ts
              · exact g4 j hjt y hy
              · simp only [ptsSlots, List.mem_append] at hj
                rw [p2.cells j hjt] at hy
                exact g2 j (hj.resolve_right hjt) y hy
          · cases ha
end
end
end Ev

/-! Ev20: calls, the caller's side. -/
namespace Ev
open PySem PySem.Spec PyProof.Rows L2
section
variable {K : PySem.W.Frag} {F O F1 : AP'} {T : List Addr} {H H1 : Hp} {σ : L2.St} {e : En}
/-- the cells behind other code's work -/
theorem Rel.after (r : Rel K F O H σ e) (keep : ∀ b o, H b = some o → b ∉ T → H1 b = some o) (hT : ∀ b ∈ T, ¬ F b ∧ ¬ O b ∧ Mut (H b)) (fin : ∀ b, F b → F1 b) (fo : ∀ b, F1 b → ¬ O b) (mF : ∀ b, F1 b → Mut (H1 b)) : Rel K F1 O H1 σ e := by
  obtain ⟨sep, len, ow, h1, h2, h3, h4, h5⟩ := r
  have same : ∀ b, b ∉ T → Mut (H b) → H1 b = H b := fun b n m => by
    cases q : H b with
    | none => rw [q] at m; exact m.elim
    | some o => exact keep b o q n
  have im : ∀ b o, H b = some o → ¬ Mut (some o) → H1 b = some o := fun b o e0 m => keep b o e0 fun z => m (mut_some e0 (hT b z).2.2)
  refine ⟨⟨mF, fun b z => ?_, fun b z => fo b z⟩, len, ow, fun i x hx => ?_, h2, h3, h4, h5⟩
  · rw [same b (fun w => (hT b w).2.1 z) (sep.o b z)]
    exact sep.o b z
  · obtain ⟨nb, v, hv, va⟩ := h1 i x hx
    refine ⟨nb, v, hv, ?_⟩
    have kp : ∀ {fp : List Addr} {v : V} {d : D}, Rep K H v d fp → (∀ c ∈ fp, F c ∨ c ∈ ow i) → Rep K H1 v d fp := fun {fp v d} hr hs => hr.keep im fun c hc => same c (fun z => by
      rcases hs c hc with w | w
      · exact (hT c z).1 w
      · exact (hT c z).2.1 ((h5 c).mpr ⟨i, w⟩)) (hr.mut c hc)
    obtain ⟨dj, fj⟩ := x
    cases fj with
    | deep => exact ⟨kp va.1 fun c hc => .inr hc, va.2⟩
    | top =>
      obtain ⟨c, fp, ev, hr, hf', ho⟩ := va
      refine ⟨c, fp, ev, kp hr fun c' hc' => ?_, fun b hb => fin b (hf' b hb), ho⟩
      rcases List.mem_cons.mp hc' with rfl | hc'
      · exact .inr (by rw [ho]; exact List.mem_cons_self)
      · exact .inl (hf' _ hc')
    | fro =>
      obtain ⟨fp, hr, hf', ho⟩ := va
      exact ⟨fp, kp hr fun c hc => .inl (hf' c hc), fun b hb => fin b (hf' b hb), ho⟩
    | bor => exact absurd rfl nb
/-! ### what comes back into its cells -/
def ioSlots : Nat → PXs → List (Nat × Nat)
  | _, .nil => []
  | k, .cons a es => match a with
    | .io i => (k, i) :: ioSlots (k + 1) es
    | _ => ioSlots (k + 1) es
theorem ioSet_slots (outs : List (Nat × Vl)) : ∀ (es : PXs) (k : Nat) (e : En), ioSet outs k es e = (ioSlots k es).foldl (fun e p => e.set p.2 (outs.lookup p.1)) e
  | .nil, _, _ => rfl
  | .cons a es, k, e => by
    cases a <;> simp only [ioSet, ioSlots, List.foldl_cons] <;> exact ioSet_slots outs es _ _
theorem ioSlots_ge : ∀ (es : PXs) (k : Nat) (p : Nat × Nat), p ∈ ioSlots k es → k ≤ p.1
  | .nil, _, _, h => nomatch h
  | .cons a es, k, p, h => by
    cases a <;> simp only [ioSlots] at h
    case io i =>
      rcases List.mem_cons.mp h with rfl | h
      · exact Nat.le_refl _
      · exact Nat.le_of_succ_le (ioSlots_ge es _ p h)
    all_goals exact Nat.le_of_succ_le (ioSlots_ge es _ p h)
theorem ioSlots_nd : ∀ (es : PXs) (k : Nat), ((ioSlots k es).map (·.1)).Nodup
  | .nil, _ => .nil
  | .cons a es, k => by
    cases a <;> simp only [ioSlots]
    case io i =>
      rw [List.map_cons, List.nodup_cons]
      refine ⟨fun h => ?_, ioSlots_nd es _⟩
      obtain ⟨p, hp, e⟩ := List.mem_map.mp h
      have := ioSlots_ge es _ p hp
      omega
    all_goals exact ioSlots_nd es _
theorem lookup_mem {α : Type} : ∀ {l : List (Nat × α)} {k : Nat} {t : α}, l.lookup k = some t → (k, t) ∈ l
  | [], _, _, h => nomatch h
  | (q, u) :: l, k, t, h => by
    rw [List.lookup_cons] at h
    by_cases e : (k == q) = true
    · rw [e] at h
      cases h
      have : k = q := by simpa using e
      rw [this]
      exact List.mem_cons_self
    · have e : (k == q) = false := by simpa using e
      rw [e] at h
      exact List.mem_cons_of_mem _ (lookup_mem h)
theorem lookup_own {ots : List (Nat × Tmp)} (nd : (ots.flatMap (·.2.own)).Nodup) : ∀ {k k' : Nat} {t t' : Tmp}, ots.lookup k = some t → ots.lookup k' = some t' → k ≠ k' → ∀ b ∈ t.own, b ∉ t'.own := by
  induction ots with
  | nil => intro k k' t t' h; cases h
  | cons p ps ih =>
    intro k k' t t' h h' ne b hb hb'
    obtain ⟨q, u⟩ := p
    rw [List.flatMap_cons, List.nodup_append] at nd
    have mem : ∀ {k : Nat} {t : Tmp}, ps.lookup k = some t → ∀ b ∈ t.own, b ∈ ps.flatMap (·.2.own) := fun {k t} h b hb => List.mem_flatMap.mpr ⟨(k, t), lookup_mem h, hb⟩
    rw [List.lookup_cons] at h h'
    by_cases e : (k == q) = true
    · rw [e] at h
      cases h
      have e2 : (k' == q) = false := by
        have : k = q := by simpa using e
        subst this
        simpa using Ne.symm ne
      rw [e2] at h'
      exact nd.2.2 b hb b (mem h' b hb') rfl
    · have e : (k == q) = false := by simpa using e
      rw [e] at h
      by_cases e2 : (k' == q) = true
      · rw [e2] at h'
        cases h'
        exact nd.2.2 b hb' b (mem h b hb) rfl
      · have e2 : (k' == q) = false := by simpa using e2
        rw [e2] at h'
        exact ih nd.2.1 h h' ne b hb hb'
theorem lookup_map {ots : List (Nat × Tmp)} (k : Nat) : (ots.map fun p => (p.1, p.2.x)).lookup k = (ots.lookup k).map (·.x) := by
  induction ots with
  | nil => rfl
  | cons p ps ih =>
    obtain ⟨q, u⟩ := p
    rw [List.map_cons, List.lookup_cons, List.lookup_cons]
    cases (k == q) with
    | true => rfl
    | false => exact ih
theorem put_back {ots : List (Nat × Tmp)} (nd : (ots.flatMap (·.2.own)).Nodup) (hv : ∀ p ∈ ots, Val K F (fun _ => False) H p.2.v p.2.x p.2.own ∧ p.2.x.2 ≠ .bor) (nf : ∀ b ∈ ots.flatMap (·.2.own), ¬ F b) :
    ∀ (l : List (Nat × Nat)) {O : AP'} {e : En}, (l.map (·.1)).Nodup → Rel K F O H σ e → (∀ p ∈ l, ∀ t, ots.lookup p.1 = some t → σ[p.2]? = some (some t.v) ∧ ∀ b ∈ t.own, ¬ O b) →
    ∃ O', Rel K F O' H σ (l.foldl (fun e p => e.set p.2 ((ots.map fun p => (p.1, p.2.x)).lookup p.1)) e) ∧ (∀ b, O' b → O b ∨ b ∈ ots.flatMap (·.2.own)) ∧ (l = [] → ∀ b, O b → O' b)
  | [], O, e, _, r, _ => ⟨O, r, fun _ h => .inl h, fun _ _ h => h⟩
  | (k, i) :: l, O, e, hn, r, h => by
    rw [List.map_cons, List.nodup_cons] at hn
    obtain ⟨old, o1, o2, o3, o4, o5⟩ := r.put i
    rw [List.foldl_cons]
    show ∃ O', Rel K F O' H σ (l.foldl _ (e.set i ((ots.map fun p => (p.1, p.2.x)).lookup k))) ∧ _
    rw [lookup_map]
    cases q : ots.lookup k with
    | none =>
      obtain ⟨O1, r1, hO⟩ := o5 [] [] F σ none .nil (fun _ h => nomatch h) (fun _ h => h) (fun b h => .inl h) .nil (fun _ h => nomatch h) (fun _ => rfl) (fun h => absurd rfl h) (fun x hx => nomatch hx) rfl (fun _ _ => rfl)
      obtain ⟨O2, r2, hO2, _⟩ := put_back nd hv nf l hn.2 r1 fun p hp t ht => ⟨(h p (List.mem_cons_of_mem _ hp) t ht).1, fun b hb z => (h p (List.mem_cons_of_mem _ hp) t ht).2 b hb (((hO b).mp z).elim (fun w => nomatch w) fun w => w.1)⟩
      refine ⟨O2, r2, fun b hb => ?_, fun z => nomatch z⟩
      rcases hO2 b hb with z | z
      · exact .inl (((hO b).mp z).elim (fun w => nomatch w) fun w => w.1)
      · exact .inr z
    | some t =>
      obtain ⟨hs, ho⟩ := h (k, i) List.mem_cons_self t q
      have hmem := lookup_mem q
      obtain ⟨vt, nbt⟩ := hv _ hmem
      have inF : ∀ b ∈ t.own, b ∈ ots.flatMap (·.2.own) := fun b hb => List.mem_flatMap.mpr ⟨(k, t), hmem, hb⟩
      have il : i < e.length := by
        rw [← r.len]
        exact (List.getElem?_eq_some_iff.mp hs).1
      obtain ⟨O1, r1, hO⟩ := o5 t.own t.own F σ (some t.x) ⟨fun b hb => nf b (inF b hb), ho⟩ vt.mut (fun _ h => h) (fun b h => .inl h) vt.nodup (fun b hb => ⟨.inr hb, nf b (inF b hb)⟩) (fun h => nomatch h) (fun _ => il)
        (fun x hx => by cases hx; exact ⟨nbt, t.v, hs, vt⟩) rfl (fun _ _ => rfl)
      obtain ⟨O2, r2, hO2, _⟩ := put_back nd hv nf l hn.2 r1 fun p hp t' ht' => ⟨(h p (List.mem_cons_of_mem _ hp) t' ht').1, fun b hb z => by
        rcases (hO b).mp z with w | w
        · exact lookup_own nd ht' q (fun e => hn.1 (by rw [← e]; exact List.mem_map_of_mem (f := (·.1)) hp)) b hb w
        · exact (h p (List.mem_cons_of_mem _ hp) t' ht').2 b hb w.1⟩
      refine ⟨O2, r2, fun b hb => ?_, fun z => nomatch z⟩
      rcases hO2 b hb with z | z
      · rcases (hO b).mp z with w | w
        · exact .inr (inF b w)
        · exact .inl w.1
      · exact .inr z
end
section
variable {S : Stc} {X : Cx} {cx : CX}
/-- the reading of an argument handed in to be changed -/
theorem io_ok {i : Nat} {e : Expr} (C : Ctx S X cx) (hm : mE S (.io i) e = true) {pins : List (Addr × Obj)} {s : Shared} {σ : L2.St} {F1 O1 : AP'} {H1 : Hp} {e1 : En} {d : D} {f : Fl} (I : Inv X pins σ H1 s) (r : Rel X.K F1 O1 H1 σ e1) (hc : cellAt e1 i = some (d, f)) :
    wpAny (model X.prog X.w) X.A (eval e X.env) (fun u s2 => ∃ v O2 own, Inv X pins σ H1 s2 ∧ RelV v u ∧ σ[i]? = some (some v) ∧ Come X.K F1 O1 [] H1 σ false (d, f) (e1.set i none) v F1 O2 H1 own) X.xe s := by
  obtain ⟨x, pos, rfl, hs⟩ := name_of (fun _ _ => rfl) hm
  obtain ⟨h1, h2, h3, h4⟩ := slotOk_of C hs
  obtain ⟨old, o1, o2, _, o4, o5⟩ := r.put i
  obtain ⟨nb, v, ev, hv⟩ := o4 _ hc
  obtain ⟨O', r', hO⟩ := o5 [] [] F1 σ none .nil (fun _ h => nomatch h) (fun _ h => h) (fun b h => .inl h) .nil (fun _ h => nomatch h) (fun _ => rfl) (fun h => absurd rfl h) (fun x hx => nomatch hx) rfl (fun _ _ => rfl)
  refine thn ((pe_var h1 h2 h3 h4).run pins s σ H1 (fun v' H2 => v' = v ∧ H2 = H1) I ⟨v, ev, rfl, rfl⟩) fun u s1 ⟨v', H2, I2, r2, e2, e3⟩ => ?_
  subst e2 e3
  refine ⟨v', O', old, I2, r2, ev, ⟨⟨fun _ _ e _ _ => e, fun _ h => h, fun b h => .inl h, fun b h => .inl (((hO b).mp h).elim (fun z => nomatch z) fun z => z.1)⟩, (fun z => nomatch z), r', hv.grow nb fun _ h => h, ⟨fun b hb z => r.sep.d b z (o1 b hb), fun b hb z => ?_⟩, fun b hb => .inl (o1 b hb)⟩⟩
  exact ((hO b).mp z).elim (fun z => nomatch z) fun z => z.2 hb
/-- all arguments but those handed in to be changed -/
def AllSA (cx : CX) : PXs → Prop
  | .nil => True
  | .cons e es => SE cx e ∧ AllSA cx es
theorem same_fl (x : Vl) : (x.1, if x.2 = .bor then Fl.bor else x.2) = x := by
  obtain ⟨d, f⟩ := x
  cases f <;> rfl
theorem args2_ok : ∀ {es : PXs} {xs : List Expr}, AllSE cx es → mA S es xs = true → Ctx S X cx → ∀ {pos : Pos} {pins : List (Addr × Obj)} {s : Shared} {σ : L2.St} {F O F1 O1 : AP'} {H H1 : Hp} {pu : Bool} {ts : List Tmp} {e1 : En} {N : List Vl → En → Prop} {k0 : Nat},
    Acc X.K F O H σ pu ts e1 F1 O1 H1 → (pu = true → pures es = true) → (NoBor ts ∨ pures es = true) → OutR (evA cx es e1) N → Inv X pins σ H1 s →
    wpAny (model X.prog X.w) X.A (spliced (backTo pos (starEach xs X.env))) (fun us s2 => ∃ H2 F2 O2 e2 us', Inv X pins σ H2 s2 ∧ N (us'.map (·.x)) e2 ∧ Acc X.K F O H σ pu (ts ++ us') e2 F2 O2 H2 ∧ Vals (us'.map (·.v)) us ∧
      ∀ p ∈ ioSlots k0 es, ∃ t, us'[p.1 - k0]? = some t ∧ σ[p.2]? = some (some t.v)) X.xe s
  | .nil, xs, _, hm, C, pos, pins, s, σ, F, O, F1, O1, H, H1, pu, ts, e1, N, k0, A, hp, hb, h, I => by
    cases xs with
    | nil =>
      simp only [evA] at h
      exact Calls.spliced_nil ⟨H1, F1, O1, e1, [], I, h, by rw [List.append_nil]; exact A, .nil, fun _ h => nomatch h⟩
    | cons x r => exact absurd hm (by simp [mA])
  | .cons a es, xs, hS, hm, C, pos, pins, s, σ, F, O, F1, O1, H, H1, pu, ts, e1, N, k0, A, hp, hb, h, I => by
    cases xs with
    | nil => exact absurd hm (by simp [mA])
    | cons x r =>
      have hm' : mE S a x = true ∧ mA S es r = true := by simpa [mA] using hm
      have e0 : pures (.cons a es) = (pur a && pures es) := by simp only [pures]
      rw [e0] at hp hb
      have hp1 : pu = true → pur a = true := fun z => by have := hp z; simp only [Bool.and_eq_true] at this; exact this.1
      have hp2 : pu = true → pures es = true := fun z => by have := hp z; simp only [Bool.and_eq_true] at this; exact this.2
      have stp : ∀ (hn : ∀ i, a ≠ .io i), wpAny (model X.prog X.w) X.A (spliced (backTo pos (starEach (x :: r) X.env))) (fun us s2 => ∃ H2 F2 O2 e2 us', Inv X pins σ H2 s2 ∧ N (us'.map (·.x)) e2 ∧ Acc X.K F O H σ pu (ts ++ us') e2 F2 O2 H2 ∧ Vals (us'.map (·.v)) us ∧
          ∀ p ∈ ioSlots k0 (.cons a es), ∃ t, us'[p.1 - k0]? = some t ∧ σ[p.2]? = some (some t.v)) X.xe s := fun hn => by
        have eA : evA cx (.cons a es) e1 = (evE cx a e1).bind fun x e1 => if x.2 = .bor && !pures es then .bad else (evA cx es e1).bind fun xs e2 => .ok ((x.1, if x.2 = .bor then .bor else x.2) :: xs) e2 := by
          cases a <;> first | (simp only [evA]; done) | exact absurd rfl (hn _)
        have eS : ioSlots k0 (.cons a es) = ioSlots (k0 + 1) es := by
          cases a <;> first | (simp only [ioSlots]; done) | exact absurd rfl (hn _)
        rw [eA] at h
        rw [eS]
        refine args_cons (thn ((hS.1 S X x C hm'.1).run pins s σ H1 _ I (A.next hp1 (hb.imp id fun z => by simp only [Bool.and_eq_true] at z; exact z.1) (outR_bind h))) fun u s1 ⟨v1, H2, I2, r2, F2, O2, x2, e2, own2, hN, A2⟩ => ?_) (star_plain (plain_of_mE hm'.1))
        obtain ⟨hg, hN⟩ := outR_guard hN
        have hb2 : NoBor (ts ++ [⟨v1, x2, own2⟩]) ∨ pures es = true := by
          rcases hb with hb | hb
          · rcases nob_one hg with z | z
            · exact .inl fun t ht => (List.mem_append.mp ht).elim (hb t) (z t)
            · exact .inr z
          · simp only [Bool.and_eq_true] at hb
            exact .inr hb.2
        refine thn (args2_ok (k0 := k0 + 1) hS.2 hm'.2 C A2 hp2 hb2 (outR_bind hN) I2) fun us s3 ⟨H3, F3, O3, e3, us', I3, hN3, A3, r3, io3⟩ => ?_
        rw [same_fl] at hN3
        refine ⟨H3, F3, O3, e3, ⟨v1, x2, own2⟩ :: us', I3, hN3, by rw [List.append_assoc] at A3; exact A3, .cons r2 r3, fun p hpp => ?_⟩
        obtain ⟨t, h1, h2⟩ := io3 p hpp
        have hge := ioSlots_ge es _ p hpp
        refine ⟨t, ?_, h2⟩
        have : p.1 - k0 = (p.1 - (k0 + 1)) + 1 := by omega
        rw [this, List.getElem?_cons_succ]
        exact h1
      cases a with
      | io i =>
        have nbt : NoBor ts := hb.elim id fun z => by simp [pur] at z
        have nbp : pu = false := by
          cases pu with
          | false => rfl
          | true => have := hp1 rfl; simp [pur] at this
        subst nbp
        simp only [evA] at h
        cases hc : cellAt e1 i with
        | none => rw [hc] at h; exact h.elim
        | some y =>
          obtain ⟨d, f⟩ := y
          rw [hc] at h
          obtain ⟨hf, h⟩ := outR_ite h
          refine args_cons (thn (io_ok C hm'.1 I A.rel hc) fun u s1 ⟨v1, O2, own2, I2, r2, ev, c2⟩ => ?_) (star_plain (plain_of_mE hm'.1))
          have A2 := A.came (pp := false) (fun z => z) (.inl nbt) c2
          have hb2 : NoBor (ts ++ [⟨v1, (d, f), own2⟩]) ∨ pures es = true := .inl fun t ht => by
            rcases List.mem_append.mp ht with ht | ht
            · exact nbt t ht
            · rw [List.mem_singleton.mp ht]
              show f ≠ .bor
              rcases hf with hf | hf <;> rw [hf] <;> decide
          refine thn (args2_ok (k0 := k0 + 1) hS.2 hm'.2 C A2 hp2 hb2 (outR_bind h) I2) fun us s3 ⟨H3, F3, O3, e3, us', I3, hN3, A3, r3, io3⟩ => ?_
          refine ⟨H3, F3, O3, e3, ⟨v1, (d, f), own2⟩ :: us', I3, hN3, by rw [List.append_assoc] at A3; exact A3, .cons r2 r3, fun p hpp => ?_⟩
          simp only [ioSlots] at hpp
          rcases List.mem_cons.mp hpp with rfl | hpp
          · exact ⟨_, by rw [Nat.sub_self]; rfl, ev⟩
          · obtain ⟨t, h1, h2⟩ := io3 p hpp
            have hge := ioSlots_ge es _ p hpp
            refine ⟨t, ?_, h2⟩
            have : p.1 - k0 = (p.1 - (k0 + 1)) + 1 := by omega
            rw [this, List.getElem?_cons_succ]
            exact h1
      | _ => exact stp fun i => by intro z; cases z

theorem unb_id {x : Vl} (h : x.2 ≠ .bor) : unb x = x := by
  obtain ⟨d, f⟩ := x
  cases f <;> first | rfl | exact absurd rfl h
theorem Val.unb {K : PySem.W.Frag} {F O : AP'} {H : Hp} {v : V} {x : Vl} {own : List Addr} (h : Val K F O H v x own) : Val K (fun b => F b ∨ O b) (fun _ => False) H v (unb x) own := by
  obtain ⟨d, f⟩ := x
  cases f with
  | deep => exact h
  | top =>
    obtain ⟨c, fp, e, r, hf, ho⟩ := h
    exact ⟨c, fp, e, r, fun b hb => .inl (hf b hb), ho⟩
  | fro =>
    obtain ⟨fp, r, hf, ho⟩ := h
    exact ⟨fp, r, fun b hb => .inl (hf b hb), ho⟩
  | bor =>
    obtain ⟨fp, r, hf, ho⟩ := h
    exact ⟨fp, r, hf, ho⟩
/-- what is free leans on nothing -/
theorem free_val {K : PySem.W.Frag} {F F1 O1 : AP'} {H : Hp} {v : V} {x : Vl} {own : List Addr} (h : Val K F (fun _ => False) H v x own) (nb : x.2 ≠ .bor) (hf : free x = true) : Val K F1 O1 H v x own := by
  obtain ⟨d, f⟩ := x
  have nm : noMut d = true → Val K F1 O1 H v (d, f) own := fun hn => by
    cases f with
    | deep => exact h
    | top =>
      obtain ⟨c, fp, e, r, _, _⟩ := h
      have := r.noMut hn
      cases this
    | fro =>
      obtain ⟨fp, r, _, ho⟩ := h
      have := r.noMut hn
      subst this
      exact ⟨[], r, (fun _ h => nomatch h), ho⟩
    | bor => exact absurd rfl nb
  cases f with
  | deep => exact h
  | top =>
    cases d with
    | lst xs =>
      have hn : noMuts xs = true := hf
      obtain ⟨c, fp, e, r, _, ho⟩ := h
      obtain ⟨a, vs, g, e', hH, rs, e2⟩ := r.list
      obtain ⟨e3, e4⟩ := List.cons.inj e2
      subst e3 e4
      have := rs.noMut hn
      subst this
      exact ⟨c, [], e, r, (fun _ h => nomatch h), ho⟩
    | _ => exact nm hf
  | fro =>
    have : free (d, .fro) = noMut d := by cases d <;> rfl
    rw [this] at hf
    exact nm hf
  | bor => exact absurd rfl nb
theorem se_call {f : Nat} {es : PXs} (hS : AllSE cx es) : SE cx (.call f es) := fun S X e C hm => by
  simp only [mE] at hm
  split at hm
  · rename_i x p xs pos
    simp only [Bool.and_eq_true, decide_eq_true_eq] at hm
    obtain ⟨⟨hf, hg⟩, m2⟩ := hm
    obtain ⟨gl, hdb⟩ := globOk_of C hg
    obtain ⟨fa, fd, ps, k, hmg, hk, FO, hroom, hbind⟩ := C.calls f x hf
    refine ⟨fun pins s σ H Q I h => ?_⟩
    obtain ⟨F, O, e0, r, h⟩ := h
    simp only [evE] at h
    have A0 : Acc X.K F O H σ (pur (.call f es)) [] e0 F O H := .start r
    have hp := plain_args m2
    have eA := outR_bind h
    have body := args2_ok (k0 := 0) (pos := pos) hS m2 C A0 (fun z => z) (.inl (nob X.K)) eA I
    refine wpAny_Call_Name_kw (ld_glob I gl hmg ?_ hdb)
    have fin : ∀ us s2, (∃ H2 F2 O2 e2 us', Inv X pins σ H2 s2 ∧ OutR (match cx.call f ((us'.map (·.x)).map unb) with
        | .ok v outs => if (us'.map (·.x)).all (fun a => a.2 ≠ .bor) || free v && outs.all (fun o => free o.2) then R.ok v (ioSet outs 0 es e2) else .bad
        | .ex x => .ex x e2
        | .bad => .bad) (fun x e' => ∀ v F' O' H' own, Come X.K F O [] H σ (pur (.call f es)) x e' v F' O' H' own → Q v H') ∧ Acc X.K F O H σ (pur (.call f es)) ([] ++ us') e2 F2 O2 H2 ∧ Vals (us'.map (·.v)) us ∧
        ∀ p ∈ ioSlots 0 es, ∃ t, us'[p.1 - 0]? = some t ∧ σ[p.2]? = some (some t.v)) → wpAny (model X.prog X.w) X.A (call (.ref fa) us) (EP X pins σ Q) X.xe s2 := by
      rintro us s2 ⟨H2, F2, O2, e2, us', I2, hN, A2, r2, io2⟩
      rw [List.nil_append] at A2
      cases hcall : cx.call f ((us'.map (·.x)).map unb) with
      | ex x => rw [hcall] at hN; exact hN.elim
      | bad => rw [hcall] at hN; exact hN.elim
      | ok v outs =>
        rw [hcall] at hN
        obtain ⟨hcond, hN⟩ := outR_ite hN
        -- what is handed in
        let ts' : List Tmp := us'.map fun t => ⟨t.v, unb t.x, t.own⟩
        have eo : tOwn ts' = tOwn us' := by
          show (us'.map _).flatMap _ = _
          rw [List.flatMap_map]
        have ev : ts'.map (·.v) = us'.map (·.v) := by rw [List.map_map]; rfl
        have ex : ts'.map (·.x) = (us'.map (·.x)).map unb := by rw [List.map_map, List.map_map]; rfl
        have nbt : NoBor ts' := fun t ht => by
          obtain ⟨u, hu, rfl⟩ := List.mem_map.mp ht
          show (unb u.x).2 ≠ .bor
          cases hx : u.x with
          | mk d fl => cases fl <;> (simp [unb])
        -- what is frozen for the callee
        have key : ∃ Fc : AP', (∀ b, F2 b → Fc b) ∧ (∀ b, Fc b → F2 b ∨ O2 b) ∧ (∀ t ∈ ts', Val X.K Fc (fun _ => False) H2 t.v t.x t.own) ∧ ((∀ b, Fc b → F2 b) ∨ (free v = true ∧ outs.all (fun o => free o.2) = true)) := by
          by_cases hall : ((us'.map (·.x)).all fun a => decide (a.2 ≠ .bor)) = true
          · refine ⟨F2, fun _ h => h, fun _ h => .inl h, fun t ht => ?_, .inl fun _ h => h⟩
            obtain ⟨u, hu, rfl⟩ := List.mem_map.mp ht
            have hnb : u.x.2 ≠ .bor := by
              have := List.all_eq_true.mp hall u.x (List.mem_map_of_mem hu)
              simpa using this
            show Val X.K F2 _ H2 u.v (unb u.x) u.own
            rw [unb_id hnb]
            exact (A2.tm.val u hu).grow hnb fun _ h => h
          · refine ⟨fun b => F2 b ∨ O2 b, fun _ h => .inl h, fun _ h => h, fun t ht => ?_, .inr ?_⟩
            · obtain ⟨u, hu, rfl⟩ := List.mem_map.mp ht
              exact (A2.tm.val u hu).unb
            · simp only [Bool.or_eq_true, Bool.and_eq_true] at hcond
              exact hcond.resolve_left hall
        obtain ⟨Fc, fc1, fc2, hval, hcase⟩ := key
        have apc : Apart Fc (fun _ => False) (tOwn ts') := by
          rw [eo]
          exact ⟨fun b hb z => (fc2 b z).elim (A2.tm.ap.nf b hb) (A2.tm.ap.no b hb), fun b hb z => z⟩
        refine run_fn (dvs := []) (E := E0) FO hroom hbind .nil pass0 I2 r2 ?_
        rw [List.append_nil]
        refine ⟨Fc, ts', v, outs, ev, fun a ha => (fc2 a ha).elim (A2.rel.sep.f a) (A2.rel.sep.o a), ⟨hval, by rw [eo]; exact A2.tm.nd, apc⟩, nbt, by rw [ex]; exact hcall, fun v' F' H' own ots ce => ?_⟩
        have keep : ∀ b o, H2 b = some o → b ∉ tOwn us' → H' b = some o := fun b o h n => ce.keep b o h (by rw [eo]; exact n)
        have hT : ∀ b ∈ tOwn us', ¬ F2 b ∧ ¬ O2 b ∧ Mut (H2 b) := fun b hb => ⟨A2.tm.ap.nf b hb, A2.tm.ap.no b hb, A2.tm.mut b hb⟩
        have frr : ∀ b ∈ own ++ ots.flatMap (·.2.own), b ∈ tOwn us' ∨ H2 b = none := fun b hb => by
          have := ce.fr b hb
          rw [eo] at this; exact this
        have notO : ∀ b ∈ own ++ ots.flatMap (·.2.own), ¬ O2 b := fun b hb z => by
          rcases frr b hb with w | w
          · exact (hT b w).2.1 z
          · have := A2.rel.sep.o b z; rw [w] at this; exact this
        obtain ⟨nd1, nd2, nd3⟩ := perm2 ce.nd
        -- the caller's frozen nodes behind the call
        have fz : ∃ F3 : AP', (∀ b, F2 b → F3 b) ∧ (∀ b, F3 b → F2 b ∨ b ∈ tOwn us' ∨ H2 b = none) ∧ (∀ b, F3 b → Mut (H' b)) ∧ Val X.K F3 (fun _ => False) H' v' v own ∧ (∀ p ∈ ots, Val X.K F3 (fun _ => False) H' p.2.v p.2.x p.2.own ∧ p.2.x.2 ≠ .bor) ∧ (∀ b ∈ own ++ ots.flatMap (·.2.own), ¬ F3 b) := by
          rcases hcase with hF | ⟨hv, ho⟩
          · refine ⟨F', fun b h => ce.fin b (fc1 b h), fun b h => ?_, ce.mutF, ce.val, fun p hp => (ce.oval p hp).2, ce.nf⟩
            have := ce.fout b h
            rw [eo] at this
            exact this.imp (hF b) id
          · refine ⟨F2, fun _ h => h, fun _ h => .inl h, fun b h => ?_, free_val ce.val ce.nb hv, fun p hp => ⟨free_val (ce.oval p hp).2.1 (ce.oval p hp).2.2 ?_, (ce.oval p hp).2.2⟩, fun b hb z => ce.nf b hb (ce.fin b (fc1 b z))⟩
            · have m := A2.rel.sep.f b h
              cases q : H2 b with
              | none => rw [q] at m; exact m.elim
              | some o =>
                rw [keep b o q fun z => (hT b z).1 h]
                rw [q] at m; exact m
            · have := List.all_eq_true.mp ho (p.1, p.2.x) (by rw [ce.outs]; exact List.mem_map_of_mem (f := fun p : Nat × Tmp => (p.1, p.2.x)) hp)
              exact this
        obtain ⟨F3, g1, g2, g3, g4, g5, g6⟩ := fz
        have r3 : Rel X.K F3 O2 H' σ e2 := A2.rel.after keep hT g1 (fun b z w => by
          rcases g2 b z with q | q | q
          · exact A2.rel.sep.d b q w
          · exact (hT b q).2.1 w
          · have := A2.rel.sep.o b w; rw [q] at this; exact this) g3
        have look : ∀ p ∈ ioSlots 0 es, ∀ t, ots.lookup p.1 = some t → σ[p.2]? = some (some t.v) ∧ ∀ b ∈ t.own, ¬ O2 b := fun p hp t ht => by
          obtain ⟨u, hu, hs⟩ := io2 p hp
          obtain ⟨⟨u2, hu2, ev2⟩, _⟩ := ce.oval _ (lookup_mem ht)
          rw [List.getElem?_map] at hu2
          have hu' : us'[p.1]? = some u := by simpa using hu
          rw [hu'] at hu2
          cases hu2
          refine ⟨by rw [hs]; exact congrArg _ (congrArg _ ev2), fun b hb => notO b (List.mem_append_right _ (List.mem_flatMap.mpr ⟨_, lookup_mem ht, hb⟩))⟩
        obtain ⟨O4, r4, hO4, hst⟩ := put_back nd2 g5 (fun b hb => g6 b (List.mem_append_right _ hb)) (ioSlots 0 es) (ioSlots_nd es 0) r3 look
        have eset : ioSet outs 0 es e2 = (ioSlots 0 es).foldl (fun e p => e.set p.2 ((ots.map fun p => (p.1, p.2.x)).lookup p.1)) e2 := by rw [ioSet_slots, ce.outs]
        rw [← eset] at r4
        have st2 : Step F2 O2 (tOwn us') H2 F3 O4 H' := ⟨fun b o h _ n => keep b o h n, g1, fun b h => (g2 b h).imp id .inr, fun b h => (hO4 b h).imp id fun z => frr b (List.mem_append_right _ z)⟩
        have stt := A2.step.trans st2 A2.fr
        refine hN v' F3 O4 H' own ⟨stt, fun hpu => ?_, r4, g4.grow ce.nb fun _ h => h, ⟨fun b hb => g6 b (List.mem_append_left _ hb), fun b hb z => ?_⟩, fun b hb => ?_⟩
        · have sl := A2.still hpu
          have ios : ioSlots 0 es = [] := by
            have hpe : pures es = true := hpu
            have : ∀ (es : PXs) (k : Nat), pures es = true → ioSlots k es = [] := by
              intro es
              induction es using PXs.rec (motive_1 := fun _ => True) (motive_3 := fun _ => True) (motive_4 := fun _ => True) (motive_5 := fun _ => True) (motive_6 := fun _ => True) with
              | nil => intro k _; rfl
              | cons a es _ ih =>
                intro k h
                have h' : pur a = true ∧ pures es = true := by simpa [pures] using h
                cases a <;> simp only [ioSlots] <;> first | exact ih _ h'.2 | (simp [pur] at h')
              | _ => trivial
            exact this es 0 hpe
          refine ⟨fun b o hb => keep b o (sl.same b o hb) fun z => ?_, fun b hb => ?_⟩
          · rcases A2.fr b z with w | w | w
            · exact (sl.stay b (.inr w)).elim (hT b z).1 (hT b z).2.1
            · exact nomatch w
            · rw [hb] at w; cases w
          · rcases sl.stay b hb with z | z
            · exact .inl (g1 b z)
            · exact .inr (hst ios b z)
        · rcases hO4 b z with w | w
          · exact notO b (List.mem_append_left _ hb) w
          · exact nd3 b hb w
        · rcases frr b (List.mem_append_left _ hb) with w | w
          · exact A2.fr b w
          · exact A2.step.back w
    cases xs with
    | nil =>
      cases es with
      | nil =>
        simp only [evA] at eA
        exact PySem.W.callWith_K0 I.kIn hk (fin [] s ⟨H, F, O, e0, [], I, eA, A0, .nil, fun _ h => nomatch h⟩)
      | cons a as => exact absurd m2 (by simp [mA])
    | cons y rest =>
      refine PySem.W.callWith_K (h₀ := X.base) I.ok.mod.kin hk (thn body fun us s1 hh => ⟨?_, fin us s1 hh⟩) (star_plain (hp y List.mem_cons_self)) (star_none fun z hz => hp z (List.mem_cons_of_mem _ hz))
      obtain ⟨H2, F2, O2, e2, us', I2, _⟩ := hh
      exact I2.kIn
  · cases hm
end
end Ev

/-! Ev21: list comprehensions. -/
namespace Ev
open PySem PySem.Spec PyProof.Rows L2
section
variable {e e1 : En} {σ σ2 : L2.St} {own : List Nat}
theorem wipeE_len : ∀ own : List Nat, (wipeE e own).length = e.length
  | [] => rfl
  | i :: is => by unfold wipeE; rw [List.length_set, wipeE_len is]
theorem wipeE_in : ∀ {own : List Nat} {j : Nat}, j ∈ own → cellAt (wipeE e own) j = none
  | [], _, h => nomatch h
  | i :: is, j, h => by
    unfold wipeE
    by_cases hij : j = i
    · subst hij
      by_cases hl : j < (wipeE e is).length
      · rw [cell_set hl]
      · rw [List.set_eq_of_length_le (Nat.le_of_not_lt hl)]
        unfold cellAt
        rw [List.getElem?_eq_none (Nat.le_of_not_lt hl)]; rfl
    · rw [cell_ne hij]
      rcases List.mem_cons.mp h with h | h
      · exact absurd h hij
      · exact wipeE_in h
theorem wipeE_out : ∀ {own : List Nat} {j : Nat}, j ∉ own → cellAt (wipeE e own) j = cellAt e j
  | [], _, _ => rfl
  | i :: is, j, h => by
    simp only [List.mem_cons, not_or] at h
    unfold wipeE
    rw [cell_ne h.1, wipeE_out h.2]
theorem backE_len (e0 : En) : ∀ own : List Nat, (backE e e0 own).length = e.length
  | [] => rfl
  | i :: is => by unfold backE; rw [List.length_set, backE_len e0 is]
theorem backE_in {e0 : En} (hl : e.length = e0.length) : ∀ {own : List Nat} {j : Nat}, j ∈ own → cellAt (backE e e0 own) j = cellAt e0 j
  | [], _, h => nomatch h
  | i :: is, j, h => by
    unfold backE
    by_cases hij : j = i
    · subst hij
      by_cases hj : j < (backE e e0 is).length
      · rw [cell_set hj]; rfl
      · rw [List.set_eq_of_length_le (Nat.le_of_not_lt hj)]
        unfold cellAt
        rw [List.getElem?_eq_none (Nat.le_of_not_lt hj), List.getElem?_eq_none (by rw [backE_len] at hj; omega)]
    · rw [cell_ne hij]
      rcases List.mem_cons.mp h with h | h
      · exact absurd h hij
      · exact backE_in hl h
theorem backE_out {e0 : En} : ∀ {own : List Nat} {j : Nat}, j ∉ own → cellAt (backE e e0 own) j = cellAt e j
  | [], _, _ => rfl
  | i :: is, j, h => by
    simp only [List.mem_cons, not_or] at h
    unfold backE
    rw [cell_ne h.1, backE_out h.2]
theorem wipeS_in : ∀ {own : List Nat} {j : Nat}, j ∈ own → j < σ.length → (wipe σ own)[j]? = some none
  | [], _, h, _ => nomatch h
  | i :: is, j, h, hl => by
    unfold wipe
    by_cases hij : j = i
    · subst hij
      rw [List.getElem?_set_self (by rw [wipe_length]; exact hl)]
    · rw [List.getElem?_set_ne (Ne.symm hij)]
      rcases List.mem_cons.mp h with h | h
      · exact absurd h hij
      · exact wipeS_in h hl
theorem wipeS_eq (hl : σ2.length = σ.length) (h : ∀ j, j ∉ own → σ2[j]? = σ[j]?) : wipe σ2 own = wipe σ own := by
  apply List.ext_getElem?
  intro j
  by_cases hj : j ∈ own
  · by_cases hlt : j < σ.length
    · rw [wipeS_in hj hlt, wipeS_in hj (by rw [hl]; exact hlt)]
    · rw [List.getElem?_eq_none (by rw [wipe_length, hl]; omega), List.getElem?_eq_none (by rw [wipe_length]; omega)]
  · rw [wipe_out hj, wipe_out hj]
    exact h j hj
theorem ownOk_at (h : ownOk e own = true) {j : Nat} (hj : j ∈ own) : ∀ x, cellAt e j = some x → x.2 = .fro := fun x hx => by
  unfold ownOk at h
  have := List.all_eq_true.mp h j hj
  rw [hx] at this
  obtain ⟨d, f⟩ := x
  simpa using this
end
section
variable {K : PySem.W.Frag} {F O : AP'} {H : Hp} {σ σ2 : L2.St} {e e1 : En} {own : List Nat}
theorem Rel.wipe (r : Rel K F O H σ e) (h : ownOk e own = true) : Rel K F O H (L2.wipe σ own) (wipeE e own) := by
  obtain ⟨sep, len, ow, h1, h2, h3, h4, h5⟩ := r
  refine ⟨sep, by rw [wipe_length, wipeE_len]; exact len, ow, fun i x hx => ?_, fun i hi => ?_, h3, h4, h5⟩
  · by_cases hi : i ∈ own
    · rw [wipeE_in hi] at hx; cases hx
    · rw [wipeE_out hi] at hx
      rw [wipe_out hi]
      exact h1 i x hx
  · by_cases hm : i ∈ own
    · cases q : cellAt e i with
      | none => exact h2 i q
      | some x =>
        have hf := ownOk_at h hm x q
        obtain ⟨_, v, _, hv⟩ := h1 i x q
        obtain ⟨d, f⟩ := x
        have hf : f = .fro := hf
        subst hf
        obtain ⟨_, _, _, z⟩ := hv
        exact z
    · rw [wipeE_out hm] at hi
      exact h2 i hi
/-- the own names of a block as they were -/
def SlotsOk (K : PySem.W.Frag) (F O : AP') (H : Hp) (σ : L2.St) (e1 : En) (own : List Nat) : Prop := ∀ j ∈ own, ∀ x, cellAt e1 j = some x → x.2 = .fro ∧ ∃ v, σ[j]? = some (some v) ∧ Val K F O H v x []
theorem slots_of (r : Rel K F O H σ e1) (h : ownOk e1 own = true) : SlotsOk K F O H σ e1 own := fun j hj x hx => by
  have hf := ownOk_at h hj x hx
  obtain ⟨old, _, _, _, o4, _⟩ := r.put j
  obtain ⟨_, v, ev, hv⟩ := o4 x hx
  refine ⟨hf, v, ev, ?_⟩
  obtain ⟨d, f⟩ := x
  have hf : f = .fro := hf
  subst hf
  obtain ⟨fp, a, b, _⟩ := hv
  exact ⟨fp, a, b, rfl⟩
theorem SlotsOk.step {F1 O1 : AP'} {H1 : Hp} (h : SlotsOk K F O H σ e1 own) (s : Sep F O H) (st : Step F O [] H F1 O1 H1) : SlotsOk K F1 O1 H1 σ e1 own := fun j hj x hx => by
  obtain ⟨hf, v, ev, hv⟩ := h j hj x hx
  exact ⟨hf, v, ev, hv.step s st (fun _ h => nomatch h) (fun _ h => nomatch h) fun z => by rw [hf] at z; cases z⟩
theorem Rel.back (r : Rel K F O H (L2.wipe σ own) (wipeE e own)) (hl : e.length = e1.length) (h : SlotsOk K F O H σ e1 own) : Rel K F O H σ (backE e e1 own) := by
  obtain ⟨sep, len, ow, h1, h2, h3, h4, h5⟩ := r
  rw [wipe_length, wipeE_len] at len
  refine ⟨sep, by rw [backE_len]; exact len, ow, fun i x hx => ?_, fun i hi => ?_, h3, h4, h5⟩
  · by_cases hi : i ∈ own
    · rw [backE_in hl hi] at hx
      obtain ⟨hf, v, ev, hv⟩ := h i hi x hx
      rw [h2 i (wipeE_in hi)]
      exact ⟨by rw [hf]; decide, v, ev, hv⟩
    · rw [backE_out hi] at hx
      have := h1 i x (by rw [wipeE_out hi]; exact hx)
      rw [wipe_out hi] at this
      exact this
  · by_cases hm : i ∈ own
    · exact h2 i (wipeE_in hm)
    · rw [backE_out hm] at hi
      exact h2 i (by rw [wipeE_out hm]; exact hi)
/-- the new list grows by what is at hand -/
theorem acc_app {F O F3 O3 : AP'} {H H3 : Hp} {σ : L2.St} {pu : Bool} {D : Addr} {xs : List Ev.D} {fl : Fl} {o1 o2 : List Addr} {v : V} {x : Vl} {y : Ev.D} {g : Fl} {e : En} {vs : List V} (A : Acc K F O H σ pu [⟨.ref D, (.lst xs, fl), o1⟩, ⟨v, x, o2⟩] e F3 O3 H3)
    (hfl : fl = .deep ∨ fl = .top) (hD : H3 D = some (.lst vs)) (h0 : H D = none) (he : esc x = some (y, g)) : ∃ F4 own', Acc K F O H σ pu [⟨.ref D, (.lst (xs ++ [y]), catFl fl g), own'⟩] e F4 O3 (upd H3 D (.lst (vs ++ [v]))) ∧ (∀ b, F3 b → F4 b) ∧ vs.length = xs.length := by
  have v1 := A.tm.val ⟨.ref D, (.lst xs, fl), o1⟩ (by simp)
  have v2 := A.tm.val ⟨v, x, o2⟩ (by simp)
  have nd := A.tm.nd
  have ap := A.tm.ap
  have fr := A.fr
  have mt := A.tm.mut
  simp only [tOwn, List.flatMap_cons, List.flatMap_nil, List.append_nil] at nd ap fr mt
  obtain ⟨n1, n2, n3⟩ := perm2 nd
  have nF : ∀ c ∈ o1, ¬ F3 c := fun c hc => ap.nf c (List.mem_append_left _ hc)
  obtain ⟨a, vs', gg, ev, hH, rs, va, hgo, hag, gd, gt⟩ := v1.own_list hfl nF
  cases ev
  rw [hD] at hH
  cases hH
  obtain ⟨fp, rd, d1, d2, d3, _⟩ := v2.give he
  have rr := rs.append (Reps.cons rd .nil)
  rw [List.append_nil] at rr
  have hcf : catFl fl g = .deep ∨ catFl fl g = .top := (catFl_cases fl g).imp (fun z => z.1) id
  obtain ⟨F4, own', c⟩ := list_chgT (K := K) (F := F3) (O := F3) (T := o2) (ownY := o1) (H := H3) (a := D) (g' := gg ++ fp) (xs' := xs ++ [y]) (vs' := vs ++ [v]) (f' := catFl fl g) (vb := .non) (b := (.non, .deep)) (ownB := [])
    (mt D (List.mem_append_left _ va)) nF n3 va (fun c hc => ap.nf c (List.mem_append_right _ hc))
    (fun c hc => (List.mem_append.mp hc).elim (fun z => (hgo c z).imp id .inl) fun z => (d1 c z).imp id .inr)
    (fun z => (List.mem_append.mp z).elim hag fun z => (d1 D z).elim (nF D va) fun z => n3 D va z) rr hcf
    (fun hd => by
      rcases catFl_cases fl g with ⟨_, e1, e2⟩ | e
      · obtain ⟨q1, q2⟩ := gd e1
        obtain ⟨q3, q4⟩ := d2 e2
        refine ⟨?_, fun c hc => (List.mem_append.mp hc).elim (fun z => nF c (q2 c z)) fun z => ap.nf c (List.mem_append_right _ (q4 c z))⟩
        rw [List.nodup_append]
        refine ⟨q1, q3, fun c hc c' hc' ee => ?_⟩
        subst ee
        exact n3 c (q2 c hc) (q4 c hc')
      · rw [e] at hd; cases hd)
    val_non (by decide) (fun z => nomatch z) (fun _ z => nomatch z) (fun _ z => nomatch z)
  have cs : ∀ b ∈ own', b ∈ o1 ∨ b ∈ o2 := fun b hb => c.sub b (List.mem_append_left _ hb)
  have cn : ∀ b ∈ own', ¬ F4 b := fun b hb => c.nf b (List.mem_append_left _ hb)
  have nO : ∀ b, b ∈ o1 ∨ b ∈ o2 → ¬ O3 b := fun b hb => ap.no b (List.mem_append.mpr hb)
  have r4 : Rel K F4 O3 (upd H3 D (.lst (vs ++ [v]))) σ e := A.rel.after (T := o1 ++ o2) (fun b o hb n => c.only b o hb fun z => n (List.mem_append_left _ z)) (fun b hb => ⟨ap.nf b hb, ap.no b hb, mt b hb⟩) c.fin
    (fun b z w => by
      rcases c.fout b z with q | q | q
      · exact A.rel.sep.d b q w
      · exact nO b (.inr q) w
      · exact nO b (.inl q) w)
    (fun b z => by
      by_cases hF : F3 b
      · have hne : b ≠ D := by rintro rfl; exact nF _ va hF
        rw [upd_ne hne]; exact A.rel.sep.f b hF
      · exact c.mutF b z hF)
  have frr : ∀ b, b ∈ o1 ∨ b ∈ o2 → O b ∨ b ∈ ([] : List Addr) ∨ H b = none := fun b hb => fr b (List.mem_append.mpr hb)
  refine ⟨F4, own', ⟨⟨fun b o hb n m => ?_, fun b h => c.fin b (A.step.fin b h), fun b h => ?_, A.step.oout⟩, fun hpu => ⟨fun b o hb => ?_, fun b hb => (( A.still hpu).stay b hb).imp (c.fin b) id⟩, r4, ?_, ?_⟩, c.fin, rs.length⟩
  · rw [upd_ne (show b ≠ D by rintro rfl; rw [h0] at hb; cases hb)]
    exact A.step.keep b o hb n m
  · rcases c.fout b h with z | z | z
    · exact A.step.fout b z
    · exact .inr (frr b (.inr z))
    · exact .inr (frr b (.inl z))
  · rw [upd_ne (show b ≠ D by rintro rfl; rw [h0] at hb; cases hb)]
    exact (A.still hpu).same b o hb
  · have vv := c.val.grow (F1 := F4) (O1 := O3) (by rcases hcf with z | z <;> (show catFl fl g ≠ .bor; rw [z]; decide)) (fun _ h => h)
    exact Temps.one vv ⟨cn, fun b hb => nO b (cs b hb)⟩
  · intro b hb
    have hb : b ∈ own' := by simpa [tOwn] using hb
    exact frr b (cs b hb)

theorem Acc.chg {F O F1 O1 : AP'} {H H1 : Hp} {σ σ' : L2.St} {e e' : En} {pu : Bool} {ts : List Tmp} (A : Acc K F O H σ pu ts e F1 O1 H1) (r : Rel K F1 O1 H1 σ' e') : Acc K F O H σ' pu ts e' F1 O1 H1 := ⟨A.step, A.still, r, A.tm, A.fr⟩
theorem Acc.grow {F O F1 O1 : AP'} {H H1 H2 : Hp} {σ : L2.St} {e : En} {pu : Bool} {ts : List Tmp} (A : Acc K F O H σ pu ts e F1 O1 H1) (same : ∀ b o, H1 b = some o → H2 b = some o) : Acc K F O H σ pu ts e F1 O1 H2 := by
  have st : Step F1 O1 [] H1 F1 O1 H2 := ⟨fun b o h _ _ => same b o h, fun _ h => h, fun _ h => .inl h, fun _ h => .inl h⟩
  have sl : Still F1 O1 H1 F1 O1 H2 := ⟨same, fun _ h => h⟩
  exact ⟨A.step.trans st (fun _ h => nomatch h), fun z => (A.still z).trans sl, A.rel.grow same (fun _ h => h) fun a q => ⟨mut_same same (A.rel.sep.f a q), A.rel.sep.d a q⟩, A.tm.step A.rel.sep st (.inr sl), A.fr⟩
theorem Acc.put {F O F1 O1 F' O' : AP'} {H H1 : Hp} {σ σ' : L2.St} {e e' : En} {pu : Bool} {ts : List Tmp} {sl : List Nat} (A : Acc K F O H σ pu ts e F1 O1 H1) (nb : NoBor ts) (P : Put K F1 O1 [] H1 σ e true sl e' F' O' σ') (hs : ∀ j ∈ sl, cellAt e j = Option.none) : Acc K F O H σ' pu ts e' F' O' H1 :=
  have st := P.stay rfl fun j hj y hy => by rw [hs j hj] at hy; cases hy
  ⟨A.step.trans P.step (fun _ h => nomatch h), fun z => (A.still z).trans ⟨fun _ _ h => h, fun b hb => hb.imp (P.step.fin b) (st.1 b)⟩, P.rel, A.tm.step A.rel.sep P.step (.inl nb), A.fr⟩
/-! ### tests of a clause -/
def tCs (K : PySem.W.Frag) (cx : CX) (cs : PXs) : TT := fun σ H Q => ∃ F O e, Rel K F O H σ e ∧ OutR (evC cx cs e) (TQ K F O H σ (pures cs) Q)
def AllST (cx : CX) : PXs → Prop
  | .nil => True
  | .cons e es => ST cx e ∧ AllST cx es
theorem pts_ok {S : Stc} {X : Cx} {cx : CX} {cs : PXs} {ifs : List Expr} (hS : AllST cx cs) (C : Ctx S X cx) (hm : mC S cs ifs = true) : L2.PTs X ifs (tCs X.K cx cs) := by
  cases cs with
  | nil =>
    cases ifs with
    | nil =>
      refine ⟨fun pins s σ H Q I h => pts_nil.run pins s σ H Q I ?_⟩
      obtain ⟨F, O, e, r, h⟩ := h
      simp only [evC] at h
      exact h F O H .refl (fun _ => .refl) r
    | cons x r => exact absurd hm (by simp [mC])
  | cons a as =>
    cases as with
    | nil =>
      cases ifs with
      | nil => exact absurd hm (by simp [mC])
      | cons x r =>
        cases r with
        | nil =>
          have hm' : mE S a x = true := by simpa [mC] using hm
          refine ⟨fun pins s σ H Q I h => (pts_one (hS.1 S X x C hm')).run pins s σ H Q I ?_⟩
          obtain ⟨F, O, e, r, h⟩ := h
          simp only [evC] at h
          exact ⟨F, O, e, r, h.imp fun b e' q F' O' H' st sl rl => q F' O' H' st (fun z => sl (by simpa [pures] using z)) rl⟩
        | cons _ _ => exact absurd hm (by simp [mC])
    | cons _ _ => exact absurd hm (by simp [mC])
theorem Acc.testC {F O F1 O1 : AP'} {H H1 : Hp} {σ : L2.St} {e1 : En} {pu : Bool} {ts : List Tmp} {cx : CX} {cs : PXs} {N : Bool → En → Prop} (A : Acc K F O H σ pu ts e1 F1 O1 H1) (hp : pu = true → pures cs = true) (hb : NoBor ts ∨ pures cs = true) (h : OutR (evC cx cs e1) N) :
    tCs K cx cs σ H1 fun b H2 => ∃ F2 O2 e2, N b e2 ∧ Acc K F O H σ pu ts e2 F2 O2 H2 ∧ Step F1 O1 [] H1 F2 O2 H2 ∧ (pures cs = true → Still F1 O1 H1 F2 O2 H2) :=
  ⟨F1, O1, e1, A.rel, h.imp fun b e2 hN F2 O2 H2 st sl r => ⟨F2, O2, e2, hN, ⟨A.step.trans st (fun _ h => nomatch h), fun z => (A.still z).trans (sl (hp z)), r,
    A.tm.step A.rel.sep st (hb.imp id sl), A.fr⟩, st, sl⟩⟩
theorem Acc.next' {F O F1 O1 : AP'} {H H1 : Hp} {σ : L2.St} {e1 : En} {pu : Bool} {ts : List Tmp} {cx : CX} {p : PX} {N : Vl → En → Prop} (A : Acc K F O H σ pu ts e1 F1 O1 H1) (hp : pu = true → pur p = true) (hb : NoBor ts ∨ pur p = true) (h : OutR (evE cx p e1) N) :
    tE K cx p σ H1 fun v H2 => ∃ F2 O2 x e2 own, N x e2 ∧ Acc K F O H σ pu (ts ++ [⟨v, x, own⟩]) e2 F2 O2 H2 ∧ Step F1 O1 [] H1 F2 O2 H2 ∧ (pur p = true → Still F1 O1 H1 F2 O2 H2) :=
  ⟨F1, O1, e1, A.rel, h.imp fun x e2 hN v F2 O2 H2 own c => ⟨F2, O2, x, e2, own, hN, A.came hp hb c, c.step, c.still⟩⟩
theorem lcGo_own {bind : Ev.D → En → Option En} {cond : En → R Bool} {elt : En → R Vl} {own : List Nat} {ds acc : List Ev.D} {f : Fl} {e : En} {P : Vl → En → Prop} (h : OutR (lcGo bind cond elt own ds acc f e) P) : ownOk e own = true := by
  cases ds <;> (unfold lcGo at h; exact (outR_ite h).1)
theorem tT_mono {cx : CX} {p : PX} {σ : L2.St} {H : Hp} {Q Q' : VK} (h : tE K cx p σ H Q) (hQ : ∀ v H', Q v H' → Q' v H') : tE K cx p σ H Q' := by
  obtain ⟨F, O, e, r, h⟩ := h
  exact ⟨F, O, e, r, h.imp fun x e1 q v F' O' H' own c => hQ v H' (q v F' O' H' own c)⟩
end
section
variable {cx : CX}
theorem ctx_blk {S : Stc} {X : Cx} {scope : Scope} (C : Ctx S X cx) (s : Shared) (H : Hp) (Ca : Addr) (cl : List (Str × Addr)) (fp : List Addr) : Ctx (blkS S scope) (X.blk s H scope (compEnvC scope cl Ca X.env) fp) cx where
  calm := C.calm
  nd := C.nd
  N := C.N
  sc := by
    show relS scope X.env.scope = relS scope S.sc
    rw [C.sc]
  fb := fun x h => h
  hu := C.hu
  xe := rfl
  blt := C.blt
  isi := C.isi
  tys := C.tys
  rng := C.rng
  rev := C.rev
  zip := C.zip
  enm := C.enm
  calls := C.calls
theorem plain_of_mI {S : Stc} {it : PI} {e : Expr} (h : mI S it e = true) : plainE e = true := by
  cases it with
  | vl a => exact plain_of_mE (show mE S a e = true by simpa [mI] using h)
  | rgd a b => simpa [mI] using h
  | _ => simp only [mI] at h; split at h <;> first | rfl | cases h
def wI (K : PySem.W.Frag) (cx : CX) (it : PI) (still : Bool) : TI := fun σ H R => ∃ F O e0, Rel K F O H σ e0 ∧ OutR (evI cx it still e0) (WI K F O H σ (pureI it) still R)
theorem lc_rd {X : Cx} {tg : PT} {it : PI} {cs : PXs} {elt : PX} {own : List Nat} {σ : L2.St} {H : Hp} {Q : VK} (h : tE X.K cx (.lc tg it cs elt own) σ H Q) :
    tLc (wI X.K cx it (pur elt && pures cs)) (gA X.K [] tg) (tCs X.K cx cs) (tE X.K cx elt) own σ H Q := by
  obtain ⟨F, O, e0, r, h⟩ := h
  simp only [evE] at h
  refine ⟨F, O, e0, r, (outR_bind h).imp fun ds e1 hN J fz fi Cn H1 F1 O1 wk c1 A1 hfz hfi D hD => ?_⟩
  obtain ⟨hc, hN⟩ := outR_ite hN
  simp only [Bool.and_eq_true] at hc
  obtain ⟨hoo, hsl⟩ := hc
  have hN := outR_bind hN
  generalize hst : (pur elt && pures cs) = still at *
  have hps : still = true → pures cs = true ∧ pur elt = true := fun z => by
    rw [← hst] at z
    simp only [Bool.and_eq_true] at z
    exact ⟨z.2, z.1⟩
  -- the new list
  have rw1 := A1.rel.wipe hoo
  have dfz : ∀ b ∈ fz, b ≠ D := fun b hb e => by
    have m : Mut (H1 b) := (hfz b hb).elim (A1.rel.sep.f b) fun z => A1.rel.sep.o b z.2
    rw [e, hD] at m; exact m
  have cnew := new_deep (T := []) (pu := still) (σ := L2.wipe σ own) rw1 hD (Reps.nil (K := X.K) (H := H1)) .nil (fun _ h => nomatch h) .nil
  have A2 : Acc X.K F1 O1 H1 (L2.wipe σ own) still [⟨.ref D, (.lst [], .deep), [D]⟩] (wipeE e1 own) F1 O1 (upd H1 D (.lst [])) := (Acc.start rw1).came (ts := []) (pp := still) (fun z => z) (.inl (nob X.K)) cnew
  have sl1 := slots_of A1.rel hoo
  have len1 : e1.length = σ.length := A1.rel.len.symm
  refine ⟨fun i m H' => m = ds.length - i ∧ i ≤ ds.length ∧ ∃ Fi Oi ei accV accD fl ownA, Acc X.K F1 O1 H1 (L2.wipe σ own) still [⟨.ref D, (.lst accD, fl), ownA⟩] (wipeE ei own) Fi Oi H' ∧ H' D = some (.lst accV) ∧ (fl = .deep ∨ fl = .top) ∧ Cn H' ∧ (∀ b ∈ fz, Fi b ∨ (still = true ∧ Oi b)) ∧
    (∀ b, F1 b → Fi b) ∧ SlotsOk X.K Fi Oi H' σ e1 own ∧ OutR (lcGo (bindT tg) (evC cx cs) (evE cx elt) own (ds.drop i) accD fl ei) _, ⟨ds.length, by simp, Nat.zero_le _, F1, O1, e1, [], [], .deep, [D], A2, upd_same, .inl rfl,
      wk.keep H1 _ c1 (fun b o hb _ => upd_more hD b o hb), hfz, fun _ h => h, sl1.step A1.rel.sep (step_alloc hD), hN⟩, ?_⟩
  rintro i m H' ⟨rfl, hi', Fi, Oi, ei, accV, accD, fl, ownA, A, hDv, hfl, cH, hz, hF, hsk, hgo⟩
  have hlen : ei.length = σ.length := by
    have := A.rel.len
    rw [wipe_length, wipeE_len] at this
    exact this.symm
  by_cases hlt : i < ds.length
  · right
    have hd : ds[i]? = some ds[i] := List.getElem?_eq_getElem hlt
    obtain ⟨g1, g2⟩ := wk.go i _ H' cH hd
    refine ⟨g1, _, fun H'' h => ⟨ds.length - (i + 1), by omega, rfl, hlt, h⟩, fun x H'' yl => ?_⟩
    obtain ⟨same, fp, rx, hfp⟩ := g2 x H'' yl
    rw [List.drop_eq_getElem_cons hlt] at hgo
    unfold lcGo at hgo
    obtain ⟨hoi, hgo⟩ := outR_ite hgo
    cases hb : bindT tg ds[i] (wipeE ei own) with
    | none => rw [hb] at hgo; exact hgo.elim
    | some eb =>
      rw [hb] at hgo
      have B := A.grow same
      have nbA : NoBor [⟨.ref D, (.lst accD, fl), ownA⟩] := fun t ht => by
        rw [List.mem_singleton.mp ht]
        show fl ≠ .bor
        rcases hfl with z | z <;> rw [z] <;> decide
      refine ⟨Fi, Oi, wipeE ei own, (ds[i], .fro), [], eb, B.rel, ⟨fp, rx, fun b hb => hF b (hfi b (hfp b hb)), rfl⟩, .nil, hb, fun F5 O5 σ5 P => ?_⟩
      have hsub : ∀ j ∈ ptSlots tg, j ∈ own := fun j hj => by
        have := List.all_eq_true.mp hsl j hj
        simpa using this
      have hw : L2.wipe σ5 own = L2.wipe (L2.wipe σ own) own := wipeS_eq P.len fun j hj => P.other j fun z => hj (hsub j z)
      have hww : L2.wipe (L2.wipe σ own) own = L2.wipe σ own := wipeS_eq (wipe_length _ _) fun j hj => wipe_out hj
      rw [hww] at hw
      have A5 := B.put nbA P fun j hj => wipeE_in (hsub j hj)
      refine ⟨hw, ?_⟩
      have stB : Step Fi Oi [] H' Fi Oi H'' := ⟨fun b o h _ _ => same b o h, fun _ h => h, fun _ h => .inl h, fun _ h => .inl h⟩
      have rd := A5.testC (cx := cx) (cs := cs) (fun z => (hps z).1) (.inl nbA) (outR_bind hgo)
      obtain ⟨G1, G2, G3, G4, G5⟩ := rd
      refine ⟨G1, G2, G3, G4, G5.imp fun b e2 q F6 O6 H6 st6 sl6 r6 => ?_⟩
      obtain ⟨F7, O7, e7, hN7, A7, st7, sl7⟩ := q F6 O6 H6 st6 sl6 r6
      -- the turn up to here
      have pst := P.stay rfl fun j hj y hy => by rw [wipeE_in (hsub j hj)] at hy; cases hy
      have S7 : Step Fi Oi [] H' F7 O7 H6 := (stB.trans P.step (fun _ h => nomatch h)).trans st7 (fun _ h => nomatch h)
      have L7 : still = true → Still Fi Oi H' F7 O7 H6 := fun z => ((⟨same, fun b hb => hb.imp (P.step.fin b) (pst.1 b)⟩ : Still Fi Oi H' F5 O5 H'')).trans (sl7 (hps z).1)
      have keepC : ∀ {F8 O8 : AP'} {H8 : Hp}, Step Fi Oi [] H' F8 O8 H8 → (still = true → Still Fi Oi H' F8 O8 H8) → (∀ b o, H' b = some o → (b ∈ fz ∨ ¬ Mut (some o)) → H8 b = some o) ∧ (∀ b ∈ fz, F8 b ∨ (still = true ∧ O8 b)) := fun {F8 O8 H8} S8 L8 => by
        refine ⟨fun b o hb hc => ?_, fun b hb => ?_⟩
        · rcases hc with hc | hc
          · rcases hz b hc with z | ⟨z, _⟩
            · exact S8.keep b o hb (fun w => A.rel.sep.d b z w) fun w => nomatch w
            · exact (L8 z).same b o hb
          · exact S8.keep b o hb (fun w => hc (mut_some hb (A.rel.sep.o b w))) fun w => nomatch w
        · rcases hz b hb with z | ⟨z, w⟩
          · exact .inl (S8.fin b z)
          · exact ((L8 z).stay b (.inr w)).imp id fun q => ⟨z, q⟩
      have tmpD : ∀ {F8 O8 : AP'} {H8 : Hp} {e8 : En} {σ8 : L2.St} {us : List Tmp}, Acc X.K F1 O1 H1 σ8 still ([⟨.ref D, (.lst accD, fl), ownA⟩] ++ us) e8 F8 O8 H8 → ∃ vs, H8 D = some (.lst vs) := fun {F8 O8 H8 e8 σ8 us} A8 => by
        obtain ⟨a', vs, g, ev, hH, _⟩ := (A8.tm.val ⟨.ref D, (.lst accD, fl), ownA⟩ (by simp)).list
        cases ev
        exact ⟨vs, hH⟩
      cases b with
      | false =>
        rw [if_neg (by decide)] at hN7 ⊢
        have ho7 := lcGo_own hN7
        have r7 := A7.rel.wipe ho7
        rw [hw] at r7
        obtain ⟨k1, k2⟩ := keepC S7 L7
        obtain ⟨vs7, hD7⟩ := tmpD (us := []) A7
        exact ⟨F7, O7, e7, vs7, accD, fl, ownA, A7.chg r7, hD7, hfl, wk.keep H' H6 cH k1, k2, fun b hb => S7.fin b (hF b hb), hsk.step A.rel.sep S7, hN7⟩
      | true =>
        rw [if_pos rfl] at hN7 ⊢
        obtain ⟨M1, M2, M3, M4, M5⟩ := A7.next' (cx := cx) (p := elt) (fun z => (hps z).2) (.inl nbA) (outR_bind hN7)
        refine ⟨M1, M2, M3, M4, M5.imp fun x8 e8' q8 v8 F8' O8' H8 own8' c8 => ?_⟩
        obtain ⟨F8, O8, x8, e8, own8, hN8, A8, st8, sl8⟩ := q8 v8 F8' O8' H8 own8' c8
        have S8 : Step Fi Oi [] H' F8 O8 H8 := S7.trans st8 (fun _ h => nomatch h)
        have L8 : still = true → Still Fi Oi H' F8 O8 H8 := fun z => (L7 z).trans (sl8 (hps z).2)
        cases he : esc x8 with
        | none => rw [he] at hN8; exact hN8.elim
        | some yg =>
          obtain ⟨y8, g8⟩ := yg
          rw [he] at hN8
          obtain ⟨hlen8, hN8⟩ := outR_ite hN8
          obtain ⟨vs8, hD8⟩ := tmpD A8
          obtain ⟨F9, own9, A9, f9, hvl⟩ := acc_app A8 hfl hD8 hD he
          refine ⟨vs8, hD8, by rw [hvl]; exact hlen8, ?_⟩
          have ho9 := lcGo_own hN8
          have r9 := A9.rel.wipe ho9
          rw [hw] at r9
          obtain ⟨k1, k2⟩ := keepC S8 L8
          have nFD : ¬ F8 D := fun z => by
            have hv := A8.tm.val ⟨.ref D, (.lst accD, fl), ownA⟩ (by simp)
            obtain ⟨a', vs, g, ev, hH, rs, va, _⟩ := hv.own_list hfl (fun c hc => A8.tm.ap.nf c (mem_tOwn.mpr ⟨_, by simp, hc⟩))
            cases ev
            exact A8.tm.ap.nf D (mem_tOwn.mpr ⟨_, by simp, va⟩) z
          refine ⟨F9, O8, e8, _, _, _, own9, A9.chg r9, upd_same, (catFl_cases fl g8).imp (fun z => z.1) id, wk.keep H' _ cH fun b o hb hc => ?_, fun b hb => (k2 b hb).imp (f9 b) id, fun b hb => f9 b (S8.fin b (hF b hb)), fun j hj xj hxj => ?_, hN8⟩
          · have hne : b ≠ D := by
              rcases hc with hc | hc
              · exact dfz b hc
              · rintro rfl
                rw [hDv] at hb
                cases hb
                exact hc trivial
            rw [upd_ne hne]
            exact k1 b o hb hc
          · obtain ⟨hf, v, ev, hv⟩ := (hsk.step A.rel.sep S8) j hj xj hxj
            exact ⟨hf, v, ev, hv.upd (by rw [hf]; decide) nFD (fun z => nomatch z) (by rw [hD8]; trivial) f9⟩
  · left
    have : i = ds.length := by omega
    subst this
    refine ⟨wk.stop H' cH, ?_⟩
    rw [List.drop_length] at hgo
    unfold lcGo at hgo
    obtain ⟨_, hgo⟩ := outR_ite hgo
    have rb := A.rel.back (by rw [hlen, len1]) hsk
    have cc := (A.chg rb).last
    have c2 := Come.after (pu := pur (.lc tg it cs elt own)) (T1 := []) A1.step (fun z => A1.still (by simp only [pur, Bool.and_eq_true] at z; exact z.1.1)) (fun _ h => nomatch h) cc (fun z => by
      rw [← hst]
      simp only [pur, Bool.and_eq_true] at z ⊢
      exact ⟨z.2, z.1.2⟩)
    exact hgo _ _ _ _ _ c2
theorem se_lc {tg : PT} {it : PI} {cs : PXs} {elt : PX} {own : List Nat} (hI : SI cx it) (hC : AllST cx cs) (hE : SE cx elt) : SE cx (.lc tg it cs elt own) := fun S X e C hm => by
  simp only [mE] at hm
  split at hm
  · rename_i y t i ifs a scope pos
    simp only [Bool.and_eq_true, decide_eq_true_eq] at hm
    obtain ⟨⟨⟨⟨⟨⟨⟨rfl, hblk⟩, hown⟩, m1⟩, mt⟩, m2⟩, m3⟩, m4⟩ := hm
    have hi : L2.PI X t i (wI X.K cx it (pur elt && pures cs)) :=
      ⟨fun pins s σ H R I h => by
        obtain ⟨F, O, e0, r, h⟩ := h
        exact hI S X t i C m1 mt pins s σ F O H e0 _ R I r h⟩
    have hok : BlkOk X.N X.env.scope scope (ownN S own) := by rw [C.N, C.sc]; exact blkOk_by hblk
    refine ⟨fun pins s σ H Q I h => (pe_lc (g := gA X.K [] tg) (tt := tCs X.K cx cs) (te := tE X.K cx elt) C.calm C.nd hi hok (fun s H Ca cl fp => tg_ok [] tg (ctx_blk C s H Ca cl fp) m2) (fun s H Ca cl fp => pts_ok hC (ctx_blk C s H Ca cl fp) m3) (fun s H Ca cl fp => hE _ _ _ (ctx_blk C s H Ca cl fp) m4) (folded_plain (plain_of_mI m1))).run pins s σ H Q I ?_⟩
    rw [hown]
    exact lc_rd h
  · cases hm
end
end Ev

/-! Ev22: every expression. -/
namespace Ev
open PySem PySem.Spec PyProof.Rows L2
section
variable {cx : CX}
theorem notest {p : PX} {S : Stc} {e : Expr} (hp : match p with | .not _ | .and _ _ | .or _ _ | .cmp _ _ _ | .chn _ _ _ _ _ | .ife _ _ _ | .never => False | _ => True) (h : mE S p e = true) : testE e = false := by
  cases p <;> first
    | (exact hp.elim)
    | (simp only [mE] at h; split at h <;> first | rfl | (cases h; done))
theorem st_never : ST cx .never := fun S X e C hm => ⟨fun pins s σ H Q I h => by
  obtain ⟨F, O, e0, r, h⟩ := h
  have h := outR_tru h
  simp only [evE] at h
  exact h.elim⟩
theorem st_ife {t a b : PX} (ht : ST cx t) (ha : ST cx a) (hb : ST cx b) : ST cx (.ife t a b) := fun S X e C hm => by
  simp only [mE] at hm
  split at hm
  · rename_i u x y pos
    simp only [Bool.and_eq_true] at hm
    obtain ⟨⟨h1, h2⟩, h3⟩ := hm
    refine ⟨fun pins s σ H Q I h => ?_⟩
    obtain ⟨F, O, e0, r, h⟩ := h
    obtain ⟨p1, p2, p3⟩ := chn_pur (a := t) (b := a) (c := b) rfl
    have A0 : Acc X.K F O H σ (pur (.ife t a b)) [] e0 F O H := .start r
    have h' : OutR (evE cx t e0).tru fun c e1 => OutR ((if c = true then evE cx a e1 else evE cx b e1)).tru (TQ X.K F O H σ (pur (.ife t a b)) Q) := by
      have q := outR_tru h
      simp only [evE] at q
      refine (outR_bind q).imp fun c e1 hN => ?_
      unfold R.tru
      cases hr : (if c = true then evE cx a e1 else evE cx b e1) with
      | ok x e => rw [hr] at hN; obtain ⟨b2, hb2, q⟩ := hN; show OutR (R.of (truth x.1) e) _; rw [hb2]; exact q
      | ex x e => rw [hr] at hN; exact hN
      | bad => rw [hr] at hN; exact hN
    refine isTrue_IfExp (thn ((ht S X u C h1).run pins s σ H _ I (A0.test p1 (.inl (nob X.K)) h')) fun c s1 ⟨H1, I1, F1, O1, e1, hN, A1⟩ => ?_)
    cases c with
    | true =>
      rw [if_pos rfl] at hN ⊢
      exact thn ((ha S X x C h2).run pins s1 σ H1 _ I1 (A1.test p2 (.inl (nob X.K)) hN)) fun c s2 ⟨H2, I2, F2, O2, e2, hN2, A2⟩ => ⟨H2, I2, hN2 F2 O2 H2 A2.step A2.still A2.rel⟩
    | false =>
      rw [if_neg (by decide)] at hN ⊢
      exact thn ((hb S X y C h3).run pins s1 σ H1 _ I1 (A1.test p3 (.inl (nob X.K)) hN)) fun c s2 ⟨H2, I2, F2, O2, e2, hN2, A2⟩ => ⟨H2, I2, hN2 F2 O2 H2 A2.step A2.still A2.rel⟩
  · cases hm
mutual
theorem px_ok : ∀ p : PX, SE cx p ∧ ST cx p ∧ AllPl cx p
  | .nm i => ⟨se_nm i, st_val (se_nm i) fun S e h => notest trivial h, trivial⟩
  | .tk i => ⟨se_tk i, st_val (se_tk i) fun S e h => notest trivial h, trivial⟩
  | .mv i => ⟨se_mv i, st_val (se_mv i) fun S e h => notest trivial h, trivial⟩
  | .io i => ⟨se_io i, st_val (se_io i) fun S e h => notest trivial h, trivial⟩
  | .cI i => ⟨se_cI i, st_val (se_cI i) fun S e h => notest trivial h, trivial⟩
  | .cB i => ⟨se_cB i, st_val (se_cB i) fun S e h => notest trivial h, trivial⟩
  | .cN => ⟨se_cN, st_val se_cN fun S e h => notest trivial h, trivial⟩
  | .cS i => ⟨se_cS i, st_val (se_cS i) fun S e h => notest trivial h, trivial⟩
  | .bin o a b => have h := se_bin (o := o) (px_ok a).1 (px_ok b).1; ⟨h, st_val h fun S e h => notest trivial h, trivial⟩
  | .neg a => have h := se_neg (px_ok a).1; ⟨h, st_val h fun S e h => notest trivial h, trivial⟩
  | .inv a => have h := se_inv (px_ok a).1; ⟨h, st_val h fun S e h => notest trivial h, trivial⟩
  | .not a => ⟨se_not (px_ok a).1, st_not (px_ok a).2.1, trivial⟩
  | .and a b => ⟨se_and (px_ok a).1 (px_ok b).1, st_and (px_ok a).2.1 (px_ok b).2.1, trivial⟩
  | .or a b => ⟨se_or (px_ok a).1 (px_ok b).1, st_or (px_ok a).2.1 (px_ok b).2.1, trivial⟩
  | .cmp o a b => ⟨se_cmp (px_ok a).1 (px_ok b).1, st_cmp (px_ok a).1 (px_ok b).1, trivial⟩
  | .chn o o' a b c => ⟨se_chn (px_ok a).1 (px_ok b).1 (px_ok c).1, st_chn (px_ok a).1 (px_ok b).1 (px_ok c).1, trivial⟩
  | .ife t a b => ⟨se_ife (px_ok t).2.1 (px_ok a).1 (px_ok b).1, st_ife (px_ok t).2.1 (px_ok a).2.1 (px_ok b).2.1, trivial⟩
  | .tup es => have h := se_tup (pxs_ok es).1; ⟨h, st_val h fun S e h => notest trivial h, trivial⟩
  | .lst es => have h := se_lst (pxs_ok es).1; ⟨h, st_val h fun S e h => notest trivial h, trivial⟩
  | .dic => ⟨se_dic, st_val se_dic fun S e h => notest trivial h, trivial⟩
  | .ix a i => have h := se_ix (px_ok a).1 (px_ok i).1; ⟨h, st_val h fun S e h => notest trivial h, (px_ok a).2.2, (px_ok i).1⟩
  | .sl a lo hi => have h := se_sl (px_ok a).1 (po_ok lo) (po_ok hi); ⟨h, st_val h fun S e h => notest trivial h, trivial⟩
  | .rev a => have h := se_rev (px_ok a).1; ⟨h, st_val h fun S e h => notest trivial h, trivial⟩
  | .call f es => have h := se_call (f := f) (pxs_ok es).1; ⟨h, st_val h fun S e h => notest trivial h, trivial⟩
  | .bi b es => have h := se_bi (b := b) (pxs_ok es).1; ⟨h, st_val h fun S e h => notest trivial h, trivial⟩
  | .mu m o es => have h := se_mu (m := m) (px_ok o).2.2 (pxs_ok es).1; ⟨h, st_val h fun S e h => notest trivial h, trivial⟩
  | .lc tg it cs elt own => have h := se_lc (tg := tg) (own := own) (pi_ok it).1 (pxs_ok cs).2 (px_ok elt).1; ⟨h, st_val h fun S e h => notest trivial h, trivial⟩
  | .isi a t => have h := se_isi (t := t) (px_ok a).1; ⟨h, st_val h fun S e h => notest trivial h, trivial⟩
  | .lrng it => have h := se_lrng (pi_ok it).2; ⟨h, st_val h fun S e h => notest trivial h, trivial⟩
  | .trng it => have h := se_trng (pi_ok it).2; ⟨h, st_val h fun S e h => notest trivial h, trivial⟩
  | .never => ⟨se_never, st_never, trivial⟩
theorem pxs_ok : ∀ es : PXs, AllSE cx es ∧ AllST cx es
  | .nil => ⟨trivial, trivial⟩
  | .cons e es => ⟨⟨(px_ok e).1, (pxs_ok es).1⟩, (px_ok e).2.1, (pxs_ok es).2⟩
theorem po_ok : ∀ o : PO, SO cx o
  | .none => trivial
  | .some e => (px_ok e).1
theorem pi_ok : ∀ it : PI, SI cx it ∧ SR cx it
  | .vl a => ⟨si_vl (px_ok a).1, trivial⟩
  | .rg1 a => ⟨si_rg1 (px_ok a).1, (px_ok a).1⟩
  | .rg2 a b => ⟨si_rg2 (px_ok a).1 (px_ok b).1, (px_ok a).1, (px_ok b).1⟩
  | .rgd a b => ⟨si_rgd, trivial⟩
  | .rv a => ⟨si_rv (px_ok a).1, trivial⟩
  | .zip a b => ⟨si_zip (px_ok a).1 (px_ok b).1, trivial⟩
  | .enm a => ⟨si_enm (px_ok a).1, trivial⟩
end
end
end Ev

/-! Ev23: statements. -/
namespace Ev
open PySem PySem.Spec PyProof.Rows L2
def tupE : Expr → Bool
  | .Tuple .. => true
  | .List .. => true
  | _ => false
mutual
def mS (S : Stc) : PS → Stmt → Bool
  | .asg t a, s => match s with
    | .Assign [tg] e pos => mE S a e && (match t, tg with
      | .nm i _, .Name x px => storeOk S i x && (match e with
        | .ListComp _ _ scope p => (match S.sc.names.lookup x with
          | some .local => true
          | _ => false) && (px.line == p.line) && !(scope.names.any fun (n, k) => n == x && (k == .local || k == .cell))
        | _ => true)
      | .tp ts, .Tuple xs _ _ => mTs S ts xs && !compE e && !tupE e
      | .sub o i, .Subscript x y _ => mE S o x && mE S i y && !compE e
      | _, _ => false)
    | _ => false
  | .aug i _ o a, s => match s with
    | .AugAssign (.Name x _) o' e _ => decide (o = o') && storeOk S i x && mE S a e
    | _ => false
  | .auS _ _ _ _, _ => false
  | .exp a, s => match s with
    | .Expr e _ => mE S a e && !compE e
    | _ => false
  | .ret a, s => match s with
    | .Return (some e) _ => mE S a e
    | _ => false
  | .retN, s => match s with
    | .Return none _ => true
    | _ => false
  | .ife t a b, s => match s with
    | .If u xs ys _ => mE S t u && mSs S a xs && mSs S b ys
    | _ => false
  | .for tg it body, s => match s with
    | .For t i xs [] _ => mI S it i && okTg it t && mT S tg t && mSs S body xs
    | _ => false
  | .whl t body, s => match s with
    | .While u xs [] _ => mE S t u && mSs S body xs
    | _ => false
  | .brk, s => match s with
    | .Break _ => true
    | _ => false
  | .cnt, s => match s with
    | .Continue _ => true
    | _ => false
  | .pas, s => match s with
    | .Pass _ => true
    | _ => false
  | .never, _ => true
def mSs (S : Stc) : PSs → List Stmt → Bool
  | .nil, xs => match xs with
    | [] => true
    | _ => false
  | .cons s ss, xs => match xs with
    | x :: r => mS S s x && mSs S ss r
    | _ => false
end
/-- where a piece of a body ends -/
structure SEnd (K : PySem.W.Frag) (F O : AP') (H : Hp) (σ : L2.St) (pin : List Nat) (e' : En) (F' O' : AP') (H' : Hp) (σ' : L2.St) : Prop where
  step : Step F O [] H F' O' H'
  rel : Rel K F' O' H' σ' e'
  len : σ'.length = σ.length
  pins : ∀ j ∈ pin, σ'[j]? = σ[j]?
def OutS (K : PySem.W.Frag) (F O : AP') (H : Hp) (σ : L2.St) (pin : List Nat) (r : RS) (nx bk ct : L2.St → Hp → Prop) (rt : L2.St → VK) : Prop := match r with
  | .nx e' => ∀ F' O' H' σ', SEnd K F O H σ pin e' F' O' H' σ' → nx σ' H'
  | .bk e' => ∀ F' O' H' σ', SEnd K F O H σ pin e' F' O' H' σ' → bk σ' H'
  | .ct e' => ∀ F' O' H' σ', SEnd K F O H σ pin e' F' O' H' σ' → ct σ' H'
  | .rt v e' => ∀ v' F' O' H' σ' own, SEnd K F O H σ pin e' F' O' H' σ' → Val K F' O' H' v' v own → Apart F' O' own → From F O [] H own → v.2 ≠ .bor → rt σ' v' H'
  | _ => False
section
variable {K : PySem.W.Frag} {F O F1 O1 F2 O2 : AP'} {H H1 H2 : Hp} {σ σ1 σ2 : L2.St} {pin : List Nat} {e e1 e2 : En} {r : RS} {nx bk ct : L2.St → Hp → Prop} {rt : L2.St → VK}
theorem SEnd.refl (r : Rel K F O H σ e) : SEnd K F O H σ pin e F O H σ := ⟨.refl, r, rfl, fun _ _ => rfl⟩
theorem SEnd.trans (a : SEnd K F O H σ pin e1 F1 O1 H1 σ1) (b : SEnd K F1 O1 H1 σ1 pin e2 F2 O2 H2 σ2) : SEnd K F O H σ pin e2 F2 O2 H2 σ2 :=
  ⟨a.step.trans b.step (fun _ h => nomatch h), b.rel, b.len.trans a.len, fun j hj => (b.pins j hj).trans (a.pins j hj)⟩
theorem OutS.after (h : OutS K F O H σ pin r nx bk ct rt) (a : SEnd K F O H σ pin e1 F1 O1 H1 σ1) : OutS K F1 O1 H1 σ1 pin r nx bk ct rt := by
  cases r with
  | nx e' => exact fun F' O' H' σ' b => h F' O' H' σ' (a.trans b)
  | bk e' => exact fun F' O' H' σ' b => h F' O' H' σ' (a.trans b)
  | ct e' => exact fun F' O' H' σ' b => h F' O' H' σ' (a.trans b)
  | rt v e' => exact fun v' F' O' H' σ' own b hv ap fr nb => h v' F' O' H' σ' own (a.trans b) hv ap (a.step.from (T1 := []) (fun _ h => nomatch h) fr) nb
  | ex x e => exact h
  | bad => exact h
theorem outS_toS {α : Type} {q : R α} {f : α → En → RS} (h : OutS K F O H σ pin (q.toS f) nx bk ct rt) : OutR q fun a e => OutS K F O H σ pin (f a e) nx bk ct rt := by
  cases q with
  | ok a e => exact h
  | ex x e => exact h
  | bad => exact h
theorem Acc.send {pu : Bool} (A : Acc K F O H σ pu [] e1 F1 O1 H1) : SEnd K F O H σ pin e1 F1 O1 H1 σ := ⟨A.step, A.rel, rfl, fun _ _ => rfl⟩
theorem esc_esc {x x' : Vl} (h : esc x = some x') : esc x' = some x' := by
  obtain ⟨d, f⟩ := x'
  unfold esc at h ⊢
  by_cases hn : noMut x.1 = true
  · simp only [hn, if_true] at h
    cases h
    simp [hn]
  · simp only [hn] at h
    obtain ⟨dx, fx⟩ := x
    cases fx <;> cases h <;> simp_all
theorem putS_esc {y x x' : Vl} {k : D} (h : esc x = some x') : putS y k x' = putS y k x := by
  unfold putS
  rw [esc_esc h, h]
end
section
variable {cx : CX}
def tS (K : PySem.W.Frag) (cx : CX) (f : En → RS) (g : L2.St → VK → VK) : TS := fun D σ H => ∃ F O e, Rel K F O H σ e ∧ OutS K F O H σ cx.pin (f e) D.nx D.bk D.ct (fun σ' => g σ' D.rt)
abbrev gId : L2.St → VK → VK := fun _ q => q
abbrev SS (cx : CX) (st : PS) : Prop := ∀ (S : Stc) (X : Cx) (s : Stmt), Ctx S X cx → mS S st s = true → L2.PS X s (tS X.K cx (evS cx st) gId)
abbrev SSs (cx : CX) (st : PSs) : Prop := ∀ (S : Stc) (X : Cx) (s : List Stmt), Ctx S X cx → mSs S st s = true → L2.PSs X s (tS X.K cx (evSs cx st) gId)
theorem ss_exp {a : PX} (ha : SE cx a) : SS cx (.exp a) := fun S X s C hm => by
  simp only [mS] at hm
  split at hm
  · rename_i e pos
    simp only [Bool.and_eq_true, Bool.not_eq_true'] at hm
    refine ⟨fun pins s σ H D I h => (ps_expr (ha S X e C hm.1) (swap_plain (plain_of_mE hm.1) hm.2 _ _)).run pins s σ H D I ?_⟩
    obtain ⟨F, O, e0, r, h⟩ := h
    simp only [evS] at h
    have A0 : Acc X.K F O H σ false [] e0 F O H := .start r
    exact tT_mono (A0.next (cx := cx) (fun z => nomatch z) (.inl (nob X.K)) (outS_toS h)) fun v H1 ⟨F1, O1, x, e1, own, hN, A1⟩ => hN F1 O1 H1 σ (Acc.none A1).send
  · cases hm
theorem ss_ret {a : PX} (ha : SE cx a) : SS cx (.ret a) := fun S X s C hm => by
  simp only [mS] at hm
  split at hm
  · rename_i e pos
    refine ⟨fun pins s σ H D I h => (ps_ret (ha S X e C hm)).run pins s σ H D I ?_⟩
    obtain ⟨F, O, e0, r, h⟩ := h
    simp only [evS] at h
    have A0 : Acc X.K F O H σ false [] e0 F O H := .start r
    refine tT_mono (A0.next (cx := cx) (fun z => nomatch z) (.inl (nob X.K)) (outS_toS h)) fun v H1 ⟨F1, O1, x, e1, own, hN, A1⟩ => ?_
    cases he : esc x with
    | none => rw [he] at hN; exact hN.elim
    | some x' =>
      rw [he] at hN
      have l := A1.last
      obtain ⟨d, f⟩ := x'
      exact hN v F1 O1 H1 σ own (Acc.none A1).send (esc_val l.val he) l.ap l.fr (esc_data he).2
  · cases hm
theorem ss_retN : SS cx .retN := fun S X s C hm => by
  simp only [mS] at hm
  split at hm
  · refine ⟨fun pins s σ H D I h => ps_retN.run pins s σ H D I ?_⟩
    obtain ⟨F, O, e0, r, h⟩ := h
    simp only [evS] at h
    exact h .non F O H σ [] (.refl r) val_non .nil (fun _ h => nomatch h) (by decide)
  · cases hm
theorem ss_brk : SS cx .brk := fun S X s C hm => by
  simp only [mS] at hm
  split at hm
  · refine ⟨fun pins s σ H D I h => ps_break.run pins s σ H D I ?_⟩
    obtain ⟨F, O, e0, r, h⟩ := h
    simp only [evS] at h
    exact h F O H σ (.refl r)
  · cases hm
theorem ss_cnt : SS cx .cnt := fun S X s C hm => by
  simp only [mS] at hm
  split at hm
  · refine ⟨fun pins s σ H D I h => ps_continue.run pins s σ H D I ?_⟩
    obtain ⟨F, O, e0, r, h⟩ := h
    simp only [evS] at h
    exact h F O H σ (.refl r)
  · cases hm
theorem ss_pas : SS cx .pas := fun S X s C hm => by
  simp only [mS] at hm
  split at hm
  · refine ⟨fun pins s σ H D I h => ps_pass.run pins s σ H D I ?_⟩
    obtain ⟨F, O, e0, r, h⟩ := h
    simp only [evS] at h
    exact h F O H σ (.refl r)
  · cases hm
theorem ss_never : SS cx .never := fun S X s C hm => ⟨fun pins s σ H D I h => by
  obtain ⟨F, O, e0, r, h⟩ := h
  simp only [evS] at h
  exact h.elim⟩
theorem ss_ife {t : PX} {a b : PSs} (ht : ST cx t) (ha : SSs cx a) (hb : SSs cx b) : SS cx (.ife t a b) := fun S X s C hm => by
  simp only [mS] at hm
  split at hm
  · rename_i u xs ys pos
    simp only [Bool.and_eq_true] at hm
    obtain ⟨⟨h1, h2⟩, h3⟩ := hm
    refine ⟨fun pins s σ H D I h => (ps_if (ht S X u C h1) (ha S X xs C h2) (hb S X ys C h3)).run pins s σ H D I ?_⟩
    obtain ⟨F, O, e0, r, h⟩ := h
    simp only [evS] at h
    have A0 : Acc X.K F O H σ false [] e0 F O H := .start r
    obtain ⟨G1, G2, G3, G4, G5⟩ := A0.test (cx := cx) (p := t) (fun z => nomatch z) (.inl (nob X.K)) (outS_toS h)
    refine ⟨G1, G2, G3, G4, G5.imp fun c e1 q F' O' H' st sl r' => ?_⟩
    obtain ⟨F2, O2, e2, hN, A2⟩ := q F' O' H' st sl r'
    have sE : SEnd X.K F O H σ cx.pin e2 F2 O2 H' σ := A2.send
    cases c with
    | true =>
      rw [if_pos rfl] at hN ⊢
      exact ⟨F2, O2, e2, A2.rel, hN.after sE⟩
    | false =>
      rw [if_neg (by decide)] at hN ⊢
      exact ⟨F2, O2, e2, A2.rel, hN.after sE⟩
  · cases hm
theorem sss_nil : SSs cx .nil := fun S X s C hm => by
  cases s with
  | nil =>
    refine ⟨fun pins s σ H D I h => pss_nil.run pins s σ H D I ?_⟩
    obtain ⟨F, O, e0, r, h⟩ := h
    simp only [evSs] at h
    exact h F O H σ (.refl r)
  | cons x r => exact absurd hm (by simp [mSs])
theorem sss_cons {st : PS} {ss : PSs} (h1 : SS cx st) (h2 : SSs cx ss) : SSs cx (.cons st ss) := fun S X s C hm => by
  cases s with
  | nil => exact absurd hm (by simp [mSs])
  | cons x r =>
    have hm' : mS S st x = true ∧ mSs S ss r = true := by simpa [mSs] using hm
    refine ⟨fun pins s σ H D I h => (pss_cons (h1 S X x C hm'.1) (h2 S X r C hm'.2)).run pins s σ H D I ?_⟩
    obtain ⟨F, O, e0, rl, h⟩ := h
    simp only [evSs] at h
    refine ⟨F, O, e0, rl, ?_⟩
    cases hr : evS cx st e0 with
    | nx e1 =>
      rw [hr] at h
      have h : OutS X.K F O H σ cx.pin (evSs cx ss e1) D.nx D.bk D.ct (fun σ' => gId σ' D.rt) := h
      exact fun F' O' H' σ' sE => ⟨F', O', e1, sE.rel, h.after sE⟩
    | bk e1 => rw [hr] at h; exact h
    | ct e1 => rw [hr] at h; exact h
    | rt v e1 => rw [hr] at h; exact h
    | ex x e => rw [hr] at h; exact h
    | bad => rw [hr] at h; exact h
end
end Ev

/-! Ev24: assignments, loops. -/
namespace Ev
open PySem PySem.Spec PyProof.Rows L2
section
variable {K : PySem.W.Frag} {cx : CX}
mutual
theorem asgN_pins {pin : List Nat} : ∀ {t : PT} {x : Vl} {e e1 : En}, asgN pin t x e = some e1 → ∀ j ∈ ptSlots t, j ∉ pin
  | .nm i keep, x, e, e1, h => by
    simp only [asgN] at h
    split at h
    · cases h
    · rename_i hc
      intro j hj
      have hj : j ∈ [i] := hj
      rw [List.mem_singleton.mp hj]
      simpa using hc
  | .tp ts, x, e, e1, h => by
    obtain ⟨d, f⟩ := x
    cases d with
    | tup xs =>
      simp only [asgN] at h
      cases he : escs xs f with
      | none => rw [he] at h; cases h
      | some f' =>
        rw [he] at h
        exact asgNs_pins h
    | _ => simp only [asgN] at h; cases h
  | .sub o i, x, e, e1, h => by simp only [asgN] at h; cases h
theorem asgNs_pins {pin : List Nat} : ∀ {ts : PTs} {xs : List D} {f : Fl} {e e1 : En}, asgNs pin ts xs f e = some e1 → ∀ j ∈ ptsSlots ts, j ∉ pin
  | .nil, _, _, _, _, _ => fun j hj => nomatch hj
  | .cons t ts, xs, f, e, e1, h => by
    cases xs with
    | nil => simp [asgNs] at h
    | cons y ys =>
      simp only [asgNs] at h
      split at h
      · rename_i e2 he2
        intro j hj
        have hj : j ∈ ptSlots t ++ ptsSlots ts := hj
        rcases List.mem_append.mp hj with hj | hj
        · exact asgN_pins he2 j hj
        · exact asgNs_pins h j hj
      · cases h
end
/-- a value comes, is stored -/
theorem store_end {F O F1 O1 F' O' : AP'} {H H1 : Hp} {σ σ' : L2.St} {pin : List Nat} {x : Vl} {v : V} {own : List Addr} {e1 e2 : En} {fr : Bool} {sl : List Nat} (A : Acc K F O H σ false [⟨v, x, own⟩] e1 F1 O1 H1) (P : Put K F1 O1 own H1 σ e1 fr sl e2 F' O' σ') (hp : ∀ j ∈ sl, j ∉ pin) : SEnd K F O H σ pin e2 F' O' H1 σ' := by
  have l := A.last
  exact ⟨l.step.trans P.step l.fr, P.rel, P.len, fun j hj => P.other j fun z => hp j z hj⟩
theorem ss_asgN {t : PT} {a : PX} (ha : SE cx a) (ht : ∀ o i, t ≠ .sub o i) {S : Stc} {X : Cx} {tg e : Expr} {pos : Pos} (C : Ctx S X cx) (h1 : mE S a e = true) (h2 : mT S t tg = true) (hs : swapsWithSole [tg] e pos.line X.env = pure false) (hw : swappedStores [tg] e X.env = pure none)
    (h3 : (assignEach [tg] X.env).map (·.2) = [assign tg X.env]) : L2.PS X (.Assign [tg] e pos) (tS X.K cx (evS cx (.asg t a)) gId) := by
  refine ⟨fun pins s σ H D I h => (ps_asg (ha S X e C h1) (tg_ok cx.pin t C h2) hs hw h3).run pins s σ H D I ?_⟩
  obtain ⟨F, O, e0, r, h⟩ := h
  have A0 : Acc X.K F O H σ false [] e0 F O H := .start r
  have eq : evS cx (.asg t a) e0 = (evE cx a e0).toS fun v e1 => match asgN cx.pin t v e1 with
      | some e2 => .nx e2
      | none => .bad := by
    cases t with
    | sub o i => exact absurd rfl (ht o i)
    | nm _ _ => simp only [evS] <;> rfl
    | tp _ => simp only [evS] <;> rfl
  rw [eq] at h
  refine tT_mono (A0.next (cx := cx) (fun z => nomatch z) (.inl (nob X.K)) (outS_toS h)) fun v H1 ⟨F1, O1, x, e1, own, hN, A1⟩ => ?_
  cases hb : asgN cx.pin t x e1 with
  | none => rw [hb] at hN; exact hN.elim
  | some e2 =>
    rw [hb] at hN
    have l := A1.last
    exact ⟨F1, O1, e1, x, own, e2, A1.rel, l.val, l.ap, hb, fun F' O' σ' P => hN F' O' H1 σ' (store_end A1 P (asgN_pins hb))⟩
theorem ss_asgLc {i : Nat} {keep : Bool} {tg : PT} {it : PI} {cs : PXs} {elt : PX} {own : List Nat} (hI : SI cx it) (hC : AllST cx cs) (hE : SE cx elt) {S : Stc} {X : Cx} {x : Str} {px pos p : Pos} {y t ie : Expr} {ifs : List Expr} {scope : Scope} (C : Ctx S X cx) (hm : mE S (.lc tg it cs elt own) (.ListComp y [⟨t, ie, ifs, 0⟩] scope p) = true)
    (h2 : storeOk S i x = true) (hl : S.sc.names.lookup x = some .local) (hln : (px.line == p.line) = true) (hnn : (scope.names.any fun (n, k) => n == x && (k == .local || k == .cell)) = false) :
    L2.PS X (.Assign [.Name x px] (.ListComp y [⟨t, ie, ifs, 0⟩] scope p) pos) (tS X.K cx (evS cx (.asg (.nm i keep) (.lc tg it cs elt own))) gId) := by
  have hm' := hm
  simp only [mE, Bool.and_eq_true, decide_eq_true_eq] at hm'
  obtain ⟨⟨⟨⟨⟨⟨⟨_, hblk⟩, hown⟩, m1⟩, mt⟩, m2⟩, m3⟩, m4⟩ := hm'
  have hi : L2.PI X t ie (wI X.K cx it (pur elt && pures cs)) :=
    ⟨fun pins s σ H R I h => by
      obtain ⟨F, O, e0, r, h⟩ := h
      exact hI S X t ie C m1 mt pins s σ F O H e0 _ R I r h⟩
  have hok : BlkOk X.N X.env.scope scope (ownN S own) := by rw [C.N, C.sc]; exact blkOk_by hblk
  obtain ⟨s1, s2, s3⟩ := storeOk_of C h2
  have hl' : X.env.scope.names.lookup x = some .local := by rw [C.sc]; exact hl
  refine ⟨fun pins s σ H D I h => (ps_setLc (g := gA X.K [] tg) (tt := tCs X.K cx cs) (te := tE X.K cx elt) C.calm C.nd s1 hl' (sw_true I.ok.kind hl' hln hnn) hi hok (fun s H Ca cl fp => tg_ok [] tg (ctx_blk C s H Ca cl fp) m2) (fun s H Ca cl fp => pts_ok hC (ctx_blk C s H Ca cl fp) m3) (fun s H Ca cl fp => hE _ _ _ (ctx_blk C s H Ca cl fp) m4) (folded_plain (plain_of_mI m1))).run pins s σ H D I ?_⟩
  rw [hown]
  refine lc_rd ?_
  obtain ⟨F, O, e0, r, h⟩ := h
  have A0 : Acc X.K F O H σ false [] e0 F O H := .start r
  simp only [evS] at h
  refine tT_mono (A0.next (cx := cx) (fun z => nomatch z) (.inl (nob X.K)) (outS_toS h)) fun v H1 ⟨F1, O1, x, e1, own, hN, A1⟩ => ?_
  cases hb : asgN cx.pin (.nm i keep) x e1 with
  | none => rw [hb] at hN; exact hN.elim
  | some e2 =>
    rw [hb] at hN
    have l := A1.last
    have hp := asgN_pins hb
    simp only [asgN] at hb
    split at hb
    · cases hb
    · obtain ⟨F', O', P⟩ := put_name A1.rel l.val l.ap hb
      exact hN F' O' H1 _ (store_end A1 P hp)
theorem ss_sub {a o i : PX} (ha : SE cx a) (hP : AllPl cx o) (hi : SE cx i) {S : Stc} {X : Cx} {x y e : Expr} {p' pos : Pos} (C : Ctx S X cx) (h1 : mE S a e = true) (h2 : mE S o x = true) (h3 : mE S i y = true) (hs : compE e = false) :
    L2.PS X (.Assign [.Subscript x y p'] e pos) (tS X.K cx (evS cx (.asg (.sub o i) a)) gId) := by
  refine ⟨fun pins s σ H D I h => ?_⟩
  obtain ⟨F, O, e0, r, h⟩ := h
  have A0 : Acc X.K F O H σ false [] e0 F O H := .start r
  simp only [evS] at h
  refine wpAny_Assign_Subscript (thn ((ha S X e C h1).run pins s σ H _ I (A0.next (cx := cx) (fun z => nomatch z) (.inl (nob X.K)) (outS_toS h))) fun u s1 ⟨v, H1, I1, r1, F1, O1, vx, e1, own, hN, A1⟩ => ?_) (swap_plain (plain_of_mE h1) hs _ _)
  cases he : esc vx with
  | none => rw [he] at hN; exact hN.elim
  | some v' =>
    rw [he] at hN
    unfold subE at hN
    obtain ⟨_, hpl⟩ := place_run (S := S) (X := X) o hP h2 C A1 (outS_toS hN) I1
    refine thn hpl fun ov s2 ⟨vp, H2, F2, O2, e2, j, path, d, I2, rv, hN2, A2, _, v0, ev0, fol⟩ => ?_
    by_cases hpi : pur i = true
    · rw [if_pos hpi] at hN2
      refine thn ((hi S X y C h3).run pins s2 σ H2 _ I2 (A2.next' (cx := cx) (fun z => nomatch z) (.inr hpi) (outS_toS hN2))) fun iv s3 ⟨vk, H3, I3, rk, F3, O3, xk, e3, ownk, hN3, A3, st3, sl3⟩ => ?_
      cases hc : cellAt e3 j with
      | none => simp only [hc] at hN3; exact hN3.elim
      | some cx0 =>
        simp only [hc] at hN3
        cases hal : alter (fun y => (putS y xk.1 v').map fun z => (z, (Ev.D.non, Fl.deep))) path cx0 with
        | none => simp only [hal] at hN3; exact hN3.elim
        | some xb =>
          obtain ⟨x', b⟩ := xb
          simp only [hal] at hN3
          have fol3 : Fol H3 v0 path vp := fol.same fun b ys hb => (sl3 hpi).same b _ hb
          have vv := A3.tm.val ⟨v, vx, own⟩ (by simp)
          have nd := A3.tm.nd
          have ap := A3.tm.ap
          have apv : Apart F3 O3 own := ⟨fun b hb => ap.nf b (mem_tOwn.mpr ⟨⟨v, vx, own⟩, by simp, hb⟩), fun b hb => ap.no b (mem_tOwn.mpr ⟨⟨v, vx, own⟩, by simp, hb⟩)⟩
          obtain ⟨yv, y', ownY, vy, hy, hO, hf, hC⟩ := place_ok A3.rel hc ev0 fol3 hal apv vv.mut
          obtain ⟨y2, hf2, hf3⟩ := Option.map_eq_some_iff.mp hf
          cases hf3
          rw [putS_esc he] at hf2
          obtain ⟨fk, rpk⟩ := rep_at A3 (t := ⟨vk, xk, ownk⟩) (by simp)
          have rt : RelV (⟨v, vx, own⟩ : Tmp).v u := r1
          refine thn (putS_ok (T := own) (t := ⟨v, vx, own⟩) (Q := fun H' => D.nx σ H') C.hu I3 rv rk rt A3.rel.sep vy hy hO rpk vv apv (fun c hc => hc) hf2 fun F4 H4 ownY' cg => ?_) fun _ s4 ⟨H4, I4, q4⟩ => ⟨σ, H4, I4, q4⟩
          obtain ⟨F5, O5, c⟩ := hC F4 H4 .non ownY' [] cg
          have frv : From F O [] H own := fun b hb => A3.fr b (mem_tOwn.mpr ⟨⟨v, vx, own⟩, by simp, hb⟩)
          exact hN3 F5 O5 H4 σ ⟨A3.step.trans c.step frv, c.rel, rfl, fun _ _ => rfl⟩
    · rw [if_neg hpi] at hN2
      exact hN2.elim
theorem augS_fl {o : Operator} {x y z : Vl} (h : augS o x y = some z) : z.2 = .deep ∧ (∀ K H, ∃ v, Rep K H v z.1 [] ∧ ∀ v', (∃ fp, Rep K H v' z.1 fp) → v' = v) := by
  obtain ⟨dx, fx⟩ := x
  obtain ⟨dy, fy⟩ := y
  cases dx with
  | int i =>
    cases dy with
    | int j =>
      have h : (if augOk o = true then binS o (.int i, fx) (.int j, fy) else none) = some z := h
      split at h
      · cases o <;> first
          | (cases h; exact ⟨rfl, fun K H => ⟨_, .int _, fun v' ⟨fp, r⟩ => r.int_v.1⟩⟩)
          | (simp only [binS] at h; split at h <;> first | (cases h; exact ⟨rfl, fun K H => ⟨_, .int _, fun v' ⟨fp, r⟩ => r.int_v.1⟩⟩) | cases h)
          | (rename_i q; exact absurd q (by decide))
      · cases h
    | _ => cases h
  | str i =>
    cases dy with
    | str j =>
      have h : binS o (.str i, fx) (.str j, fy) = some z := h
      cases o <;> first
        | (simp only [binS] at h; split at h <;> first | (cases h; exact ⟨rfl, fun K H => ⟨_, .str _, fun v' ⟨fp, r⟩ => r.str_v.1⟩⟩) | cases h)
        | (cases h; done)
    | _ => cases h
  | _ => cases h
/-- name op= e, by data -/
def ipD (K : PySem.W.Frag) (o : Operator) : TIp := fun x y H Q => ∃ xd yd fx fy z g1 g2, Rep K H x xd fx ∧ Rep K H y yd fy ∧ augS o (xd, g1) (yd, g2) = some z ∧ ∀ v, Rep K H v z.1 [] → Q v H
theorem ip_ok {X : Cx} {o : Operator} : PIp X o (ipD X.K o) := by
  intro pins s σ H x y v u Q I r1 r2 h
  obtain ⟨xd, yd, fx, fy, z, g1, g2, rx, ry, hz, q⟩ := h
  cases xd with
  | int i =>
    cases yd with
    | int j =>
      obtain ⟨rfl, _⟩ := rx.int_v
      obtain ⟨rfl, _⟩ := ry.int_v
      have hz : (if augOk o = true then binS o (.int i, g1) (.int j, g2) else none) = some z := hz
      split at hz
      · rename_i ho
        cases o with
        | Add => cases hz; exact iop_add pins s σ H _ _ v u Q I r1 r2 ⟨_, _, rfl, rfl, q _ (.int _)⟩
        | Sub => cases hz; exact iop_sub pins s σ H _ _ v u Q I r1 r2 ⟨_, _, rfl, rfl, q _ (.int _)⟩
        | Mult =>
          simp only [binS] at hz
          split at hz
          · rename_i hc
            cases hz
            exact iop_mul pins s σ H _ _ v u Q I r1 r2 ⟨_, _, rfl, rfl, CMulD_ok hc, q _ (.int _)⟩
          · cases hz
        | BitAnd => cases hz; exact iop_and pins s σ H _ _ v u Q I r1 r2 ⟨_, _, rfl, rfl, q _ (.int _)⟩
        | BitOr => cases hz; exact iop_or pins s σ H _ _ v u Q I r1 r2 ⟨_, _, rfl, rfl, q _ (.int _)⟩
        | BitXor => cases hz; exact iop_xor pins s σ H _ _ v u Q I r1 r2 ⟨_, _, rfl, rfl, q _ (.int _)⟩
        | _ => exact absurd ho (by decide)
      · cases hz
    | _ => cases hz
  | str i =>
    cases yd with
    | str j =>
      obtain ⟨rfl, _⟩ := rx.str_v
      obtain ⟨rfl, _⟩ := ry.str_v
      have hz : binS o (.str i, g1) (.str j, g2) = some z := hz
      cases o with
      | Add =>
        simp only [binS] at hz
        split at hz
        · rename_i hc
          cases hz
          exact iop_add_str pins s σ H _ _ v u Q I r1 r2 ⟨_, _, rfl, rfl, hc, q _ (.str _)⟩
        · cases hz
      | _ => cases hz
    | _ => cases hz
  | _ => cases hz
theorem ss_aug {i : Nat} {keep : Bool} {o : Operator} {a : PX} (ha : SE cx a) : SS cx (.aug i keep o a) := fun S X s C hm => by
  simp only [mS] at hm
  split at hm
  · rename_i x px o' e pos
    simp only [Bool.and_eq_true, decide_eq_true_eq] at hm
    obtain ⟨⟨rfl, h2⟩, h1⟩ := hm
    obtain ⟨s1, s2, s3⟩ := storeOk_of C h2
    refine ⟨fun pins s σ H D I h => (ps_aug C.nd s1 s2 (ha S X e C h1) ip_ok s3).run pins s σ H D I ?_⟩
    obtain ⟨F, O, e0, r, h⟩ := h
    simp only [evS] at h
    split at h
    · exact h.elim
    · rename_i hpin
      cases hc : cellAt e0 i with
      | none => rw [hc] at h; exact h.elim
      | some xc =>
        simp only [hc] at h
        by_cases hp : pur a = true
        · rw [if_pos hp] at h
          obtain ⟨old, o1, o2, o3, o4, o5⟩ := r.put i
          obtain ⟨nb, v0, ev0, hv0⟩ := o4 xc hc
          refine ⟨v0, ev0, ?_⟩
          have A0 : Acc X.K F O H σ false [] e0 F O H := .start r
          refine tT_mono (A0.next' (cx := cx) (p := a) (fun z => nomatch z) (.inl (nob X.K)) (outS_toS h)) fun v H1 ⟨F1, O1, y, e1, own, hN, A1, st1, sl1⟩ => ?_
          cases hz : augS o xc y with
          | none => simp only [hz] at hN; exact hN.elim
          | some z =>
            simp only [hz] at hN
            cases hb : bindN i z keep e1 with
            | none => simp only [hb] at hN; exact hN.elim
            | some e2 =>
              simp only [hb] at hN
              obtain ⟨f0, rp0, _⟩ := hv0.rep
              have rp1 : Rep X.K H1 v0 xc.1 f0 := rp0.still (sl1 hp)
              obtain ⟨f1, rpy⟩ := rep_at A1 (t := ⟨v, y, own⟩) (by simp)
              obtain ⟨xd, xf⟩ := xc
              obtain ⟨yd, yf⟩ := y
              refine ⟨xd, yd, f0, f1, z, xf, yf, rp1, rpy, hz, fun w rw' => ?_⟩
              have A2 := Acc.none A1
              have vz : Val X.K F1 O1 H1 w z [] := by
                obtain ⟨hd, _⟩ := augS_fl hz
                obtain ⟨zd, zf⟩ := z
                have hd : zf = .deep := hd
                subst hd
                exact ⟨rw', .nil⟩
              have A3 : Acc X.K F O H σ false [⟨w, z, []⟩] e1 F1 O1 H1 := A2.came (pp := true) (fun _ => rfl) (.inr rfl) ⟨.refl, fun _ => .refl, A2.rel, vz, .nil, fun _ h => nomatch h⟩
              obtain ⟨F', O', P⟩ := put_name A2.rel vz .nil hb
              exact hN F' O' H1 _ (store_end A3 P fun j hj => by rw [List.mem_singleton.mp hj]; simpa using hpin)
        · rw [if_neg hp] at h
          exact h.elim
  · cases hm
end
end Ev

/-! Ev25: loops, every statement. -/
namespace Ev
open PySem PySem.Spec PyProof.Rows L2
section
variable {cx : CX}
theorem owns {S : Stc} {X : Cx} (C : Ctx S X cx) : PassesOwn (model X.prog X.w) X.A X.env X.xe := by
  rw [C.xe]
  exact PassesOwn.never
theorem ss_for {tg : PT} {it : PI} {body : PSs} (hI : SI cx it) (hb : SSs cx body) : SS cx (.for tg it body) := fun S X s C hm => by
  simp only [mS] at hm
  split at hm
  · rename_i t i xs pos
    simp only [Bool.and_eq_true] at hm
    obtain ⟨⟨⟨m1, mt⟩, m2⟩, m3⟩ := hm
    have hi : L2.PI X t i (wI X.K cx it false) :=
      ⟨fun pins s σ H R I h => by
        obtain ⟨F, O, e0, r, h⟩ := h
        exact hI S X t i C m1 mt pins s σ F O H e0 _ R I r h⟩
    refine ⟨fun pins s σ H D I h => (ps_for (owns C) C.calm hi (tg_ok [] tg C m2) (hb S X xs C m3) (folded_plain (plain_of_mI m1))).run pins s σ H D I ?_⟩
    obtain ⟨F, O, e0, r, h⟩ := h
    simp only [evS] at h
    by_cases hpin : ((ptSlots tg).all fun i => !cx.pin.contains i) = true
    · rw [if_pos hpin] at h
      have hsl : ∀ j ∈ ptSlots tg, j ∉ cx.pin := fun j hj => by
        have := List.all_eq_true.mp hpin j hj
        simpa using this
      refine ⟨F, O, e0, r, (outS_toS h).imp fun ds e1 hN J fz fi Cn H1 F1 O1 wk c1 A1 hfz hfi => ?_⟩
      have hfz1 : ∀ b ∈ fz, F1 b := fun b hb => (hfz b hb).elim id fun z => nomatch z.1
      refine ⟨fun i m σi H' => m = ds.length - i ∧ i ≤ ds.length ∧ ∃ Fi Oi ei, SEnd X.K F O H σ cx.pin ei Fi Oi H' σi ∧ Cn H' ∧ (∀ b ∈ fz, Fi b) ∧ (∀ b ∈ fi, Fi b) ∧ OutS X.K F O H σ cx.pin (forGo (bindT tg) (evSs cx body) (ds.drop i) ei) D.nx D.bk D.ct (fun σ' => gId σ' D.rt),
        ⟨ds.length, by simp, Nat.zero_le _, F1, O1, e1, A1.send, c1, hfz1, hfi, hN⟩, ?_⟩
      rintro i m σi H' ⟨rfl, hi', Fi, Oi, ei, sE, cH, hz, hF, hgo⟩
      by_cases hlt : i < ds.length
      · right
        have hd : ds[i]? = some ds[i] := List.getElem?_eq_getElem hlt
        obtain ⟨g1, g2⟩ := wk.go i _ H' cH hd
        refine ⟨g1, _, fun σ'' H'' h => ⟨ds.length - (i + 1), by omega, rfl, hlt, h⟩, fun x H'' yl => ?_⟩
        obtain ⟨same, fp, rx, hfp⟩ := g2 x H'' yl
        rw [List.drop_eq_getElem_cons hlt] at hgo
        unfold forGo at hgo
        cases hb : bindT tg ds[i] ei with
        | none => rw [hb] at hgo; exact hgo.elim
        | some eb =>
          rw [hb] at hgo
          have st1 : Step Fi Oi [] H' Fi Oi H'' := ⟨fun b o h _ _ => same b o h, fun _ h => h, fun _ h => .inl h, fun _ h => .inl h⟩
          have r1 : Rel X.K Fi Oi H'' σi ei := sE.rel.grow same (fun _ h => h) fun a q => ⟨mut_same same (sE.rel.sep.f a q), sE.rel.sep.d a q⟩
          refine ⟨Fi, Oi, ei, (ds[i], .fro), [], eb, r1, ⟨fp, rx, fun b hb => hF b (hfp b hb), rfl⟩, .nil, hb, fun F5 O5 σ5 P => ?_⟩
          have s5 : SEnd X.K F O H σ cx.pin eb F5 O5 H'' σ5 := ⟨(sE.step.trans st1 (fun _ h => nomatch h)).trans P.step (fun _ h => nomatch h), P.rel, P.len.trans sE.len, fun j hj => (P.other j fun z => hsl j z hj).trans (sE.pins j hj)⟩
          have S5 : Step Fi Oi [] H' F5 O5 H'' := st1.trans P.step (fun _ h => nomatch h)
          -- the next turn
          have nxt : ∀ e2, OutS X.K F O H σ cx.pin (forGo (bindT tg) (evSs cx body) (ds.drop (i + 1)) e2) D.nx D.bk D.ct (fun σ' => gId σ' D.rt) → ∀ F' O' H8 σ8, SEnd X.K F5 O5 H'' σ5 cx.pin e2 F' O' H8 σ8 →
              ∃ Fi Oi ei, SEnd X.K F O H σ cx.pin ei Fi Oi H8 σ8 ∧ Cn H8 ∧ (∀ b ∈ fz, Fi b) ∧ (∀ b ∈ fi, Fi b) ∧ OutS X.K F O H σ cx.pin (forGo (bindT tg) (evSs cx body) (ds.drop (i + 1)) ei) D.nx D.bk D.ct (fun σ' => gId σ' D.rt) := fun e2 hq F' O' H8 σ8 q => by
            have S8 : Step Fi Oi [] H' F' O' H8 := S5.trans q.step (fun _ h => nomatch h)
            refine ⟨F', O', e2, s5.trans q, wk.keep H' H8 cH fun b o hb hc => S8.keep b o hb (fun w => ?_) fun w => (nomatch w), fun b hb => S8.fin b (hz b hb), fun b hb => S8.fin b (hF b hb), hq⟩
            rcases hc with hc | hc
            · exact sE.rel.sep.d b (hz b hc) w
            · exact hc (mut_some hb (sE.rel.sep.o b w))
          refine ⟨F5, O5, eb, P.rel, ?_⟩
          cases hbody : evSs cx body eb with
          | nx e2 => simp only [hbody] at hgo; exact fun F' O' H8 σ8 q => nxt e2 hgo F' O' H8 σ8 q
          | ct e2 => simp only [hbody] at hgo; exact fun F' O' H8 σ8 q => nxt e2 hgo F' O' H8 σ8 q
          | bk e2 => simp only [hbody] at hgo; exact fun F' O' H8 σ8 q => hgo F' O' H8 σ8 (s5.trans q)
          | rt v e2 => simp only [hbody] at hgo; exact OutS.after (r := .rt v e2) hgo s5
          | ex x e2 => simp only [hbody] at hgo; exact hgo.elim
          | bad => simp only [hbody] at hgo; exact hgo.elim
      · left
        have : i = ds.length := by omega
        subst this
        refine ⟨wk.stop H' cH, ?_⟩
        rw [List.drop_length] at hgo
        unfold forGo at hgo
        exact hgo Fi Oi H' σi sE
    · rw [if_neg hpin] at h
      exact h.elim
  · cases hm
theorem ss_whl {t : PX} {body : PSs} (hw : cx.wh = whR) (ht : ST cx t) (hb : SSs cx body) : SS cx (.whl t body) := fun S X s C hm => by
  simp only [mS] at hm
  split at hm
  · rename_i u xs pos
    simp only [Bool.and_eq_true] at hm
    obtain ⟨m1, m2⟩ := hm
    refine ⟨fun pins s σ H D I h => (ps_while (owns C) (ht S X u C m1) (hb S X xs C m2)).run pins s σ H D I ?_⟩
    obtain ⟨F, O, e0, r, h⟩ := h
    simp only [evS] at h
    rw [hw] at h
    have nb : whR (fun e => (evE cx t e).tru) (evSs cx body) e0 ≠ .bad := fun z => by rw [z] at h; exact h
    obtain ⟨n0, hn0⟩ := whR_turns nb
    generalize whR (fun e => (evE cx t e).tru) (evSs cx body) e0 = res at h hn0
    refine ⟨fun m σi H' => ∃ Fi Oi ei, SEnd X.K F O H σ cx.pin ei Fi Oi H' σi ∧ whN (fun e => (evE cx t e).tru) (evSs cx body) m ei = some res, ⟨n0, F, O, e0, .refl r, hn0⟩, ?_⟩
    rintro m σi H' ⟨Fi, Oi, ei, sE, hwn⟩
    cases m with
    | zero => cases hwn
    | succ m =>
      unfold whN at hwn
      have A0 : Acc X.K Fi Oi H' σi false [] ei Fi Oi H' := .start sE.rel
      cases hc : (evE cx t ei).tru with
      | bad => simp only [hc] at hwn; cases hwn; exact h.elim
      | ex x e1 => simp only [hc] at hwn; cases hwn; exact h.elim
      | ok c e1 =>
        obtain ⟨G1, G2, G3, G4, G5⟩ := A0.test (cx := cx) (p := t) (N := fun c' e' => c' = c ∧ e' = e1) (fun z => nomatch z) (.inl (nob X.K)) (by rw [hc]; exact ⟨rfl, rfl⟩)
        refine ⟨G1, G2, G3, G4, G5.imp fun c' e' q F' O' H1 st sl r' => ?_⟩
        obtain ⟨F2, O2, e2, ⟨rfl, rfl⟩, A2⟩ := q F' O' H1 st sl r'
        have s2 : SEnd X.K F O H σ cx.pin e2 F2 O2 H1 σi := sE.trans A2.send
        cases c' with
        | false =>
          simp only [hc] at hwn
          cases hwn
          rw [if_neg (by decide)]
          exact h F2 O2 H1 σi s2
        | true =>
          rw [if_pos rfl]
          simp only [hc] at hwn
          refine ⟨fun σ' H8 => ∃ Fi Oi ei, SEnd X.K F O H σ cx.pin ei Fi Oi H8 σ' ∧ whN (fun e => (evE cx t e).tru) (evSs cx body) m ei = some res, fun σ' H8 q => ⟨m, Nat.lt_succ_self m, q⟩, F2, O2, e2, A2.rel, ?_⟩
          cases hbody : evSs cx body e2 with
          | nx e3 => simp only [hbody] at hwn; exact fun F' O' H8 σ8 q => ⟨F', O', e3, s2.trans q, hwn⟩
          | ct e3 => simp only [hbody] at hwn; exact fun F' O' H8 σ8 q => ⟨F', O', e3, s2.trans q, hwn⟩
          | bk e3 => simp only [hbody] at hwn; cases hwn; exact fun F' O' H8 σ8 q => h F' O' H8 σ8 (s2.trans q)
          | rt v e3 => simp only [hbody] at hwn; cases hwn; exact OutS.after (r := .rt v e3) h s2
          | ex x e3 => simp only [hbody] at hwn; cases hwn; exact h.elim
          | bad => simp only [hbody] at hwn; cases hwn; exact h.elim
  · cases hm
theorem sole_eq {t v : Expr} {l : Nat} {env : Env} : swapsWithSole [t] v l env = swapsWith v (some t) l env := rfl
theorem sw_none {S : Stc} {X : Cx} {ts : List Expr} {k : Nat} {tp : Pos} {e : Expr} (ht : tupE e = false) : swappedStores [.Tuple ts k tp] e X.env = pure none := by
  cases e <;> first | rfl | cases ht
variable (hw : cx.wh = whR)
include hw
mutual
theorem ps_ok : ∀ st : PS, SS cx st
  | .asg t a => fun S X s C hm => by
    have ha := (px_ok (cx := cx) a).1
    simp only [mS] at hm
    split at hm
    · rename_i tg e pos
      simp only [Bool.and_eq_true] at hm
      obtain ⟨h1, hm⟩ := hm
      cases t with
      | nm i keep =>
        cases tg with
        | Name x px =>
          simp only [Bool.and_eq_true] at hm
          obtain ⟨h2, h3⟩ := hm
          by_cases hce : compE e = true
          · cases e with
            | ListComp y gs scope p =>
              simp only [Bool.and_eq_true, Bool.not_eq_true'] at h3
              obtain ⟨⟨hl, hln⟩, hnn⟩ := h3
              have hl : S.sc.names.lookup x = some .local := by
                split at hl
                · assumption
                · cases hl
              cases a with
              | lc tg2 it cs elt own =>
                have h1' := h1
                simp only [mE] at h1'
                split at h1'
                · rename_i y' t' ie ifs ab scope' p' heq
                  cases heq
                  simp only [Bool.and_eq_true, decide_eq_true_eq] at h1'
                  have hz := h1'.1.1.1.1.1.1.1
                  subst hz
                  exact ss_asgLc (pi_ok it).1 (pxs_ok cs).2 (px_ok elt).1 C h1 h2 hl hln hnn
                · cases h1'
              | never =>
                refine ⟨fun pins s σ H D I h => ?_⟩
                obtain ⟨F, O, e0, r, h⟩ := h
                simp only [evS, evE] at h
                exact h.elim
              | _ => exact absurd h1 (by simp [mE])
            | _ => cases hce
          · have hce : compE e = false := by simpa using hce
            exact ss_asgN ha (fun o i => by intro z; cases z) C h1 (show mT S (.nm i keep) (.Name x px) = true from h2) (sole_eq.trans (swap_plain (plain_of_mE h1) hce _ _)) rfl rfl
        | _ => cases hm
      | tp ts =>
        cases tg with
        | Tuple xs k tp =>
          simp only [Bool.and_eq_true, Bool.not_eq_true'] at hm
          obtain ⟨⟨h2, hce⟩, htu⟩ := hm
          exact ss_asgN ha (fun o i => by intro z; cases z) C h1 (show mT S (.tp ts) (.Tuple xs k tp) = true from h2) (sole_eq.trans (swap_plain (plain_of_mE h1) hce _ _)) (sw_none (S := S) htu) rfl
        | _ => cases hm
      | sub o i =>
        cases tg with
        | Subscript x y p =>
          simp only [Bool.and_eq_true, Bool.not_eq_true'] at hm
          obtain ⟨⟨h2, h3⟩, hce⟩ := hm
          exact ss_sub ha (px_ok o).2.2 (px_ok i).1 C h1 h2 h3 hce
        | _ => cases hm
    · cases hm
  | .aug i keep o a => ss_aug (px_ok a).1
  | .auS b ix o a => fun S X s C hm => absurd hm (by simp [mS])
  | .exp a => ss_exp (px_ok a).1
  | .ret a => ss_ret (px_ok a).1
  | .retN => ss_retN
  | .ife t a b => ss_ife (px_ok t).2.1 (pss_ok a) (pss_ok b)
  | .for tg it body => ss_for (pi_ok it).1 (pss_ok body)
  | .whl t body => ss_whl hw (px_ok t).2.1 (pss_ok body)
  | .brk => ss_brk
  | .cnt => ss_cnt
  | .pas => ss_pas
  | .never => ss_never
theorem pss_ok : ∀ st : PSs, SSs cx st
  | .nil => sss_nil
  | .cons s ss => sss_cons (ps_ok s) (pss_ok ss)
end
end
end Ev

/-! Ev26: defs. -/
namespace Ev
open PySem PySem.Spec PyProof.Rows L2
/-! ### the cells at a def's start -/
section
variable {K : PySem.W.Frag} {F O : AP'} {H : Hp}
def isIo (io : List Nat) (k : Nat) (f : Fl) : Bool := io.contains k && (decide (f = .deep) || decide (f = .top))
theorem startAs_get {io : List Nat} : ∀ {ts : List Tmp} {k j : Nat}, (startAs io k (ts.map (·.x)))[j]? = (ts[j]?).map fun t => some (t.x.1, if io.contains (k + j) ∧ (t.x.2 = .deep ∨ t.x.2 = .top) then t.x.2 else .fro)
  | [], k, j => by simp [startAs]
  | t :: ts, k, 0 => by
    obtain ⟨v, ⟨d, f⟩, o⟩ := t
    simp [startAs]
  | t :: ts, k, j + 1 => by
    obtain ⟨v, ⟨d, f⟩, o⟩ := t
    simp only [List.map_cons, startAs, List.getElem?_cons_succ]
    rw [startAs_get (ts := ts) (k := k + 1) (j := j)]
    have : k + 1 + j = k + (j + 1) := by omega
    rw [this]
theorem startAs_len {io : List Nat} : ∀ {as : List Vl} {k : Nat}, (startAs io k as).length = as.length
  | [], _ => rfl
  | (d, f) :: as, k => by simp [startAs, startAs_len]
theorem tOwn_get {ts : List Tmp} {j : Nat} {t : Tmp} (h : ts[j]? = some t) : ∀ b ∈ t.own, b ∈ tOwn ts := fun b hb => mem_tOwn.mpr ⟨t, List.mem_of_getElem? h, hb⟩
theorem tOwn_apart {ts : List Tmp} (nd : (tOwn ts).Nodup) : ∀ {j k : Nat} {t u : Tmp} {b : Addr}, ts[j]? = some t → ts[k]? = some u → b ∈ t.own → b ∈ u.own → j = k := by
  induction ts with
  | nil => intro j k t u b h; simp at h
  | cons t0 ts ih =>
    have e : tOwn (t0 :: ts) = t0.own ++ tOwn ts := by simp [tOwn]
    rw [e, List.nodup_append] at nd
    intro j k t u b hj hk hb hb'
    cases j with
    | zero =>
      have hj : some t0 = some t := hj
      cases hj
      cases k with
      | zero => rfl
      | succ k => exact absurd rfl (nd.2.2 b hb b (tOwn_get (ts := ts) (j := k) hk b hb'))
    | succ j =>
      cases k with
      | zero =>
        have hk : some t0 = some u := hk
        cases hk
        exact absurd rfl (nd.2.2 b hb' b (tOwn_get (ts := ts) (j := j) hj b hb))
      | succ k => exact congrArg (· + 1) (ih nd.2.1 (j := j) (k := k) hj hk hb hb')
/-- the nodes that a def may change -/
def ioOwn (io : List Nat) (ts : List Tmp) : AP' := fun b => ∃ j t, ts[j]? = some t ∧ isIo io j t.x.2 = true ∧ b ∈ t.own
def fzOwn (io : List Nat) (ts : List Tmp) (F : AP') : AP' := fun b => F b ∨ ∃ j t, ts[j]? = some t ∧ isIo io j t.x.2 = false ∧ b ∈ t.own
def ow0 (io : List Nat) (ts : List Tmp) (i : Nat) : List Addr := match ts[i]? with
  | some t => if isIo io i t.x.2 = true then t.own else []
  | none => []
theorem ow0_some {io : List Nat} {ts : List Tmp} {i : Nat} {t : Tmp} (h : ts[i]? = some t) : ow0 io ts i = if isIo io i t.x.2 = true then t.own else [] := by unfold ow0; rw [h]
theorem ow0_none {io : List Nat} {ts : List Tmp} {i : Nat} (h : ts[i]? = none) : ow0 io ts i = [] := by unfold ow0; rw [h]
theorem start_rel {io : List Nat} {ts : List Tmp} {N : List Str} (hF : ∀ a, F a → Mut (H a)) (tm : Temps K F (fun _ => False) H ts) (nb : NoBor ts) (hN : ts.length ≤ N.length) :
    Rel K (fzOwn io ts F) (ioOwn io ts) H (L2.start N (ts.map (·.v))) (startE io (ts.map (·.x)) N.length) := by
  have memT : ∀ {j : Nat} {t : Tmp}, ts[j]? = some t → t ∈ ts := fun h => List.mem_of_getElem? h
  have cell : ∀ i, cellAt (startE io (ts.map (·.x)) N.length) i = (ts[i]?).map fun t => (t.x.1, if io.contains i ∧ (t.x.2 = .deep ∨ t.x.2 = .top) then t.x.2 else .fro) := fun i => by
    unfold cellAt startE
    by_cases hi : i < ts.length
    · rw [List.getElem?_append_left (by rw [startAs_len, List.length_map]; exact hi), startAs_get]
      rw [Nat.zero_add, List.getElem?_eq_getElem hi]
      rfl
    · rw [List.getElem?_append_right (by rw [startAs_len, List.length_map]; omega), List.getElem?_eq_none (Nat.le_of_not_lt hi), List.getElem?_replicate]
      split <;> rfl
  have slot : ∀ (i : Nat) (t : Tmp), ts[i]? = some t → (L2.start N (ts.map (·.v)))[i]? = some (some t.v) := fun i t h => by
    unfold L2.start
    have hi : i < ts.length := (List.getElem?_eq_some_iff.mp h).1
    rw [List.getElem?_append_left (by simpa using hi), List.map_map, List.getElem?_map, h]
    rfl
  refine ⟨⟨fun a h => ?_, fun a h => ?_, fun a h h' => ?_⟩, ?_, ow0 io ts, fun i x hx => ?_, fun i hi => ?_, fun i => ?_, fun i j a ha hb => ?_, fun a => ?_⟩
  · rcases h with h | ⟨j, t, h1, _, h3⟩
    · exact hF a h
    · exact tm.mut a (tOwn_get h1 a h3)
  · obtain ⟨j, t, h1, _, h3⟩ := h
    exact tm.mut a (tOwn_get h1 a h3)
  · obtain ⟨j, t, h1, h2, h3⟩ := h'
    rcases h with h | ⟨k, u, g1, g2, g3⟩
    · exact tm.ap.nf a (tOwn_get h1 a h3) h
    · have := tOwn_apart tm.nd h1 g1 h3 g3
      subst this
      rw [h1] at g1
      cases g1
      rw [h2] at g2
      cases g2
  · unfold L2.start startE
    rw [List.length_append, List.length_append, List.length_map, List.length_map, List.length_replicate, startAs_len, List.length_map, List.length_replicate]
  · rw [cell i] at hx
    cases q : ts[i]? with
    | none => rw [q] at hx; cases hx
    | some t =>
      rw [q] at hx
      have hx := (Option.some.inj hx).symm
      subst hx
      have hv := tm.val t (memT q)
      have hnb := nb t (memT q)
      refine ⟨?_, t.v, slot i t q, ?_⟩
      · show (if io.contains i ∧ (t.x.2 = .deep ∨ t.x.2 = .top) then t.x.2 else Fl.fro) ≠ .bor
        split
        · exact hnb
        · decide
      · show Val K _ _ H t.v (t.x.1, if io.contains i ∧ (t.x.2 = .deep ∨ t.x.2 = .top) then t.x.2 else .fro) (ow0 io ts i)
        rw [ow0_some q]
        by_cases hio : io.contains i ∧ (t.x.2 = .deep ∨ t.x.2 = .top)
        · have e : isIo io i t.x.2 = true := by
            unfold isIo
            rw [hio.1]
            rcases hio.2 with z | z <;> rw [z] <;> rfl
          rw [if_pos hio, if_pos e]
          exact hv.grow hnb fun _ h => .inl h
        · have e : isIo io i t.x.2 = false := by
            unfold isIo
            cases hc : io.contains i with
            | false => rfl
            | true =>
              have : ¬ (t.x.2 = .deep ∨ t.x.2 = .top) := fun z => hio ⟨hc, z⟩
              simp only [not_or] at this
              simp [this.1, this.2]
          rw [if_neg hio, if_neg (by rw [e]; decide)]
          obtain ⟨fp, rp, hfp⟩ := hv.rep
          refine ⟨fp, rp, fun b hb => ?_, rfl⟩
          rcases hfp b hb with z | z | z
          · exact .inl z
          · exact z.elim
          · exact .inr ⟨i, t, q, e, z⟩
  · rw [cell i] at hi
    cases q : ts[i]? with
    | none => exact ow0_none q
    | some t => rw [q] at hi; cases hi
  · cases q : ts[i]? with
    | none => rw [ow0_none q]; exact .nil
    | some t =>
      rw [ow0_some q]
      split
      · exact (tm.val t (memT q)).nodup
      · exact .nil
  · cases q : ts[i]? with
    | none => rw [ow0_none q] at ha; cases ha
    | some t =>
      cases q2 : ts[j]? with
      | none => rw [ow0_none q2] at hb; cases hb
      | some u =>
        rw [ow0_some q] at ha
        rw [ow0_some q2] at hb
        split at ha
        · split at hb
          · exact tOwn_apart tm.nd q q2 ha hb
          · cases hb
        · cases ha
  · constructor
    · rintro ⟨j, t, h1, h2, h3⟩
      refine ⟨j, ?_⟩
      rw [ow0_some h1, if_pos h2]
      exact h3
    · rintro ⟨j, hj⟩
      cases q : ts[j]? with
      | none => rw [ow0_none q] at hj; cases hj
      | some t =>
        rw [ow0_some q] at hj
        split at hj
        · rename_i h2
          exact ⟨j, t, q, h2, hj⟩
        · cases hj
/-- what comes back at a def's end -/
theorem outs_ok {σ : L2.St} {e : En} (r : Rel K F O H σ e) : ∀ {io : List Nat}, io.Nodup → ∃ ots : List (Nat × Tmp), outsOf e io = ots.map (fun p => (p.1, p.2.x)) ∧ (∀ p ∈ ots, p.1 ∈ io ∧ σ[p.1]? = some (some p.2.v) ∧ Val K F (fun _ => False) H p.2.v p.2.x p.2.own ∧ p.2.x.2 ≠ .bor) ∧
    (ots.flatMap (·.2.own)).Nodup ∧ ∀ b ∈ ots.flatMap (·.2.own), O b := by
  obtain ⟨sep, len, ow, h1, h2, h3, h4, h5⟩ := r
  have go : ∀ io : List Nat, io.Nodup → ∃ ots : List (Nat × Tmp), outsOf e io = ots.map (fun p => (p.1, p.2.x)) ∧ (∀ p ∈ ots, p.1 ∈ io ∧ σ[p.1]? = some (some p.2.v) ∧ Val K F (fun _ => False) H p.2.v p.2.x p.2.own ∧ p.2.x.2 ≠ .bor ∧ p.2.own = ow p.1) ∧
      (ots.flatMap (·.2.own)).Nodup := by
    intro io
    induction io with
    | nil => intro _; exact ⟨[], rfl, (fun _ h => nomatch h), .nil⟩
    | cons i is ih =>
      intro hn
      rw [List.nodup_cons] at hn
      obtain ⟨ots, q1, q2, q3⟩ := ih hn.2
      have keep : ∃ ots : List (Nat × Tmp), outsOf e is = ots.map (fun p => (p.1, p.2.x)) ∧ (∀ p ∈ ots, p.1 ∈ i :: is ∧ σ[p.1]? = some (some p.2.v) ∧ Val K F (fun _ => False) H p.2.v p.2.x p.2.own ∧ p.2.x.2 ≠ .bor ∧ p.2.own = ow p.1) ∧
          (ots.flatMap (·.2.own)).Nodup := ⟨ots, q1, fun p hp => ⟨List.mem_cons_of_mem _ (q2 p hp).1, (q2 p hp).2⟩, q3⟩
      have add : ∀ x : Vl, cellAt e i = some x → (x.2 = .deep ∨ x.2 = .top) → ∃ ots : List (Nat × Tmp), (i, x) :: outsOf e is = ots.map (fun p => (p.1, p.2.x)) ∧ (∀ p ∈ ots, p.1 ∈ i :: is ∧ σ[p.1]? = some (some p.2.v) ∧ Val K F (fun _ => False) H p.2.v p.2.x p.2.own ∧ p.2.x.2 ≠ .bor ∧ p.2.own = ow p.1) ∧
          (ots.flatMap (·.2.own)).Nodup := fun x hx _ => by
        obtain ⟨nb, v, ev, hv⟩ := h1 i x hx
        refine ⟨(i, ⟨v, x, ow i⟩) :: ots, by rw [List.map_cons, q1], fun p hp => ?_, ?_⟩
        · rcases List.mem_cons.mp hp with rfl | hp
          · exact ⟨List.mem_cons_self, ev, hv.grow nb fun _ h => h, nb, rfl⟩
          · exact ⟨List.mem_cons_of_mem _ (q2 p hp).1, (q2 p hp).2⟩
        · rw [List.flatMap_cons, List.nodup_append]
          refine ⟨h3 i, q3, fun a ha b hb eab => ?_⟩
          subst eab
          obtain ⟨p, hp, hb⟩ := List.mem_flatMap.mp hb
          obtain ⟨p1, _, _, _, p5⟩ := q2 p hp
          rw [p5] at hb
          have := h4 i p.1 a ha hb
          exact hn.1 (this ▸ p1)
      unfold outsOf
      split
      · rename_i d hc; exact add _ hc (.inl rfl)
      · rename_i d hc; exact add _ hc (.inr rfl)
      · exact keep
  intro io hn
  obtain ⟨ots, q1, q2, q3⟩ := go io hn
  refine ⟨ots, q1, fun p hp => ⟨(q2 p hp).1, (q2 p hp).2.1, (q2 p hp).2.2.1, (q2 p hp).2.2.2.1⟩, q3, fun b hb => ?_⟩
  obtain ⟨p, hp, hb⟩ := List.mem_flatMap.mp hb
  rw [(q2 p hp).2.2.2.2] at hb
  exact (h5 b).mpr ⟨p.1, hb⟩
end
end Ev

/-! Ev27: a def keeps its promise; all defs of a text, level by level; the law. -/
namespace Ev
open PySem PySem.Spec PyProof.Rows L2
structure Blts (mg : Str → Option Value) : Prop where
  blt : ∀ b : Bi, mg (Str.ofString (biN b)) = none
  isi : mg (Str.ofString "isinstance") = none
  tys : ∀ t : Ty, t ≠ .non → mg (Str.ofString (tyN t)) = none
  rng : mg (Str.ofString "range") = none
  rev : mg (Str.ofString "reversed") = none
  zip : mg (Str.ofString "zip") = none
  enm : mg (Str.ofString "enumerate") = none
structure DefOk (K : PySem.W.Frag) (mg : Str → Option Value) (nms : Nat → Option Str) (fn : Fn) (x : Str) (a : Addr) (fd : FuncData) (ps : List Str) : Prop where
  ex : ∃ (qual : Str) (st : Stmt) (N : List Str), Fun K x qual st a fd ∧ FnScope N ps (defScope st) ∧ N.length = fn.nl ∧ mSs ⟨nms, N, defScope st, fun _ => true⟩ fn.body (defBody st) = true
  len : ps.length = fn.ps
  nd : fn.io.Nodup
  lt : ∀ i ∈ fn.io, i < fn.ps
  nl : fn.ps ≤ fn.nl
  mg : mg x = some (.ref a)
  bi : Binds K fd ps []
theorem callF_succ {wh : (En → R Bool) → (En → RS) → En → RS} {fs : Nat → Option Fn} {n f : Nat} {fn : Fn} {as : List Vl} (h : fs f = some fn) :
    callF wh fs (n + 1) f as = if as.length = fn.ps then endF fn (evSs { call := callF wh fs n, wh := wh, pin := fn.io } fn.body (startE fn.io as fn.nl)) else .bad := by
  conv => lhs; unfold callF
  rw [h]
theorem def_ok {P : Program} {w : World} {K : PySem.W.Frag} {mg : Str → Option Value} {base : Heap} {nms : Nat → Option Str} {fs : Nat → Option Fn} {n f : Nat} {fn : Fn} {x : Str} {a : Addr} {fd : FuncData} {ps : List Str} (D : DefOk K mg nms fn x a fd ps) (B : Blts mg) (hf : fs f = some fn)
    (calls : ∀ g y, nms g = some y → ∃ (a : Addr) (fd : FuncData) (ps : List Str), mg y = some (.ref a) ∧ PySem.W.keepIn K (.ref a) = true ∧ FnOk P w K mg base CX0 n a fd ps (spF K (callF whR fs n) g) ∧ Binds K fd ps []) :
    FnOk P w K mg base CX0 (n + 1) a fd ps (spF K (callF whR fs (n + 1)) f) := by
  obtain ⟨qual, st, N, FU, SC, hNl, hmS⟩ := D.ex
  refine FU.ok SC (fun vs H Q E h => ?_) (fun cdv A outer s H vs Q E hr h => ?_)
  · obtain ⟨F, ts, v, outs, hvs, _, _, _, hcall, _⟩ := h
    rw [callF_succ hf] at hcall
    split at hcall
    · rename_i hl
      rw [← hvs, List.length_map, D.len, ← hl, List.length_map]
    · cases hcall
  · obtain ⟨F, ts, v, outs, hvs, hFm, tm, nb, hcall, post⟩ := h
    rw [callF_succ hf] at hcall
    split at hcall
    · rename_i hl
      rw [List.length_map] at hl
      let cx : CX := { call := callF whR fs n, wh := whR, pin := fn.io }
      have C : Ctx ⟨nms, N, defScope st, fun _ => true⟩ (cxOf CX0 P w K mg base N qual (defScope st) a cdv A outer s H E).nox cx := {
        calm := rfl
        nd := SC.nd
        N := rfl
        sc := rfl
        fb := fun _ _ => rfl
        hu := hr.units
        xe := rfl
        blt := B.blt
        isi := B.isi
        tys := B.tys
        rng := B.rng
        rev := B.rev
        zip := B.zip
        enm := B.enm
        calls := fun g y hg => by
          obtain ⟨a', fd', ps', q1, q2, q3, q4⟩ := calls g y hg
          exact ⟨a', fd', ps', n, q1, q2, q3, hr, q4⟩ }
      refine ⟨_, pss_ok (cx := cx) rfl fn.body _ _ _ C hmS, ?_⟩
      have hle : ts.length ≤ N.length := by rw [hl, hNl]; exact D.nl
      have rs := start_rel (io := fn.io) (N := N) hFm tm nb hle
      rw [hvs] at rs
      refine ⟨fzOwn fn.io ts F, ioOwn fn.io ts, _, rs, ?_⟩
      rw [hNl]
      -- the end
      have fin : ∀ {e1 : En} {F' O' : AP'} {H' : Hp} {σ' : L2.St} {v' : V} {own : List Addr}, SEnd K (fzOwn fn.io ts F) (ioOwn fn.io ts) H (L2.start N vs) fn.io e1 F' O' H' σ' → Val K F' O' H' v' v own → Apart F' O' own → From (fzOwn fn.io ts F) (ioOwn fn.io ts) [] H own → v.2 ≠ .bor →
          outs = outsOf e1 fn.io → Q v' H' := fun {e1 F' O' H' σ' v' own} sE hv ap fr hnb ho => by
        obtain ⟨ots, q1, q2, q3, q4⟩ := outs_ok sE.rel D.nd
        have inT : ∀ b, ioOwn fn.io ts b → b ∈ tOwn ts := fun b ⟨j, t, h1, _, h3⟩ => tOwn_get h1 b h3
        have frO : ∀ b, O' b → b ∈ tOwn ts ∨ H b = none := fun b hb => by
          rcases sE.step.oout b hb with z | z | z
          · exact .inl (inT b z)
          · exact nomatch z
          · exact .inr z
        refine post v' F' H' own ots ⟨fun b o hb n => sE.step.keep b o hb (fun z => n (inT b z)) (fun z => nomatch z), fun b hb => sE.step.fin b (.inl hb), fun b hb => ?_, fun b hb => sE.rel.sep.f b hb, hv.grow hnb fun _ h => h, hnb, by rw [ho]; exact q1, fun p hp => ?_, ?_, fun b hb => ?_, fun b hb => ?_⟩
        · rcases sE.step.fout b hb with (z | ⟨j, t, h1, _, h3⟩) | z | z | z
          · exact .inl z
          · exact .inr (.inl (tOwn_get h1 b h3))
          · exact .inr (.inl (inT b z))
          · exact nomatch z
          · exact .inr (.inr z)
        · obtain ⟨p1, p2, p3, p4⟩ := q2 p hp
          refine ⟨?_, p3, p4⟩
          have hlt : p.1 < ts.length := by rw [hl]; exact D.lt p.1 p1
          refine ⟨ts[p.1], List.getElem?_eq_getElem hlt, ?_⟩
          rw [sE.pins p.1 p1] at p2
          unfold L2.start at p2
          rw [List.getElem?_append_left (by rw [List.length_map, ← hvs, List.length_map]; exact hlt), ← hvs, List.map_map, List.getElem?_map, List.getElem?_eq_getElem hlt] at p2
          exact Option.some.inj (Option.some.inj p2)
        · rw [List.nodup_append]
          refine ⟨hv.nodup, q3, fun b hb c hc e => ?_⟩
          subst e
          exact ap.no b hb (q4 b hc)
        · rcases List.mem_append.mp hb with hb | hb
          · exact ap.nf b hb
          · exact fun z => sE.rel.sep.d b z (q4 b hb)
        · rcases List.mem_append.mp hb with hb | hb
          · rcases fr b hb with z | z | z
            · exact .inl (inT b z)
            · exact nomatch z
            · exact .inr z
          · exact frO b (q4 b hb)
      show OutS K (fzOwn fn.io ts F) (ioOwn fn.io ts) H (L2.start N vs) fn.io (evSs cx fn.body (startE fn.io (ts.map (·.x)) fn.nl)) (fun _ H' => Q .non H') (fun _ _ => False) (fun _ _ => False) (fun _ => Q)
      have hcall : endF fn (evSs cx fn.body (startE fn.io (ts.map (·.x)) fn.nl)) = .ok v outs := hcall
      cases hr2 : evSs cx fn.body (startE fn.io (ts.map (·.x)) fn.nl) with
      | rt v1 e1 =>
        rw [hr2] at hcall
        cases hcall
        exact fun v' F' O' H' σ' own sE hv ap fr hnb => fin sE hv ap fr hnb rfl
      | nx e1 =>
        rw [hr2] at hcall
        cases hcall
        exact fun F' O' H' σ' sE => fin sE val_non .nil (fun _ h => nomatch h) (fun z => nomatch z) rfl
      | bk e1 => rw [hr2] at hcall; cases hcall
      | ct e1 => rw [hr2] at hcall; cases hcall
      | ex x e1 => rw [hr2] at hcall; cases hcall
      | bad => rw [hr2] at hcall; cases hcall
    · cases hcall
/-- level by level -/
theorem levels {P : Program} {w : World} {K : PySem.W.Frag} {mg : Str → Option Value} {base : Heap} {nms : Nat → Option Str} {fs : Nat → Option Fn} (B : Blts mg) (T : ∀ f x, nms f = some x → ∃ fn a fd ps, fs f = some fn ∧ DefOk K mg nms fn x a fd ps) :
    ∀ n f x fn a fd ps, nms f = some x → fs f = some fn → DefOk K mg nms fn x a fd ps → FnOk P w K mg base CX0 n a fd ps (spF K (callF whR fs n) f)
  | 0, f, x, fn, a, fd, ps, _, _, _ => by
    have no : ∀ vs H Q E, ¬ spF K (callF whR fs 0) f vs H Q E := fun vs H Q E h => by
      obtain ⟨F, ts, v, outs, _, _, _, _, hcall, _⟩ := h
      cases hcall
    exact ⟨fun vs H Q E h => absurd h (no vs H Q E), fun A outer s H args us vs Q E _ _ _ _ h => absurd h (no vs H Q E)⟩
  | n + 1, f, x, fn, a, fd, ps, hx, hf, D => def_ok D B hf fun g y hg => by
    obtain ⟨fn', a', fd', ps', q1, q2⟩ := T g y hg
    obtain ⟨_, _, _, FU, _⟩ := q2.ex
    exact ⟨a', fd', ps', q2.mg, FU.kp, levels B T n g y fn' a' fd' ps' hg q1 q2, q2.bi⟩
/-- the script's promise -/
theorem script_sp {K : PySem.W.Frag} {call : Nat → List Vl → CR} {fl : Nat} {H : Hp} {a : Addr} {ns : List Int} (ho : Only H) (hS : SqL K H a (ns.map V.int)) {g : Fl} {outs : List (Nat × Vl)} (h : call fl [(.scr (ns.map D.int), .fro)] = .ok (.bl true, g) outs) :
    spF K call fl [.ref a] H (fun v _ => v = .bl true) fun _ _ _ => False := by
  have fz : FzL K H a (ns.map V.int) := by
    rcases hS with (h | ⟨o, h⟩) | h
    · rcases ho a with z | ⟨o, xs, z⟩
      · rw [h] at z; cases z
      · rw [h] at z; cases z
    · exact .inl ⟨o, h⟩
    · exact .inr h
  refine ⟨fun _ => False, [⟨.ref a, (.scr (ns.map D.int), .fro), []⟩], _, outs, rfl, fun _ h => h.elim, ⟨fun t ht => ?_, by simp [tOwn], ⟨fun b hb => ?_, fun b hb => ?_⟩⟩, fun t ht => ?_, h, fun v' F' H' own ots ce => ?_⟩
  · rw [List.mem_singleton.mp ht]
    exact ⟨[], .scr fz (Reps.ints ns), (fun _ h => nomatch h), rfl⟩
  · exact absurd hb (by simp [tOwn])
  · exact absurd hb (by simp [tOwn])
  · rw [List.mem_singleton.mp ht]
    exact (by decide : (Fl.fro : Fl) ≠ .bor)
  · exact ce.val.bl
end Ev

/-! Rf1: typed data; what an expression computes, by rules that a program applies. -/
namespace Rf
open PySem L2 Ev
noncomputable section

/-! ### typed data as data -/
def eI : Int → D := D.int
def eB : Bool → D := D.bl
def eS : Str → D := D.str
def eD : D → D := fun d => d
def eN : Unit → D := fun _ => .non
section
variable {α β γ δ : Type}
def eL (e : α → D) (xs : List α) : D := .lst (xs.map e)
def eT (e : α → D) (xs : List α) : D := .tup (xs.map e)
def eC (xs : List Int) : D := .scr (xs.map .int)
def eP2 (e1 : α → D) (e2 : β → D) (p : α × β) : D := .tup [e1 p.1, e2 p.2]
def eP3 (e1 : α → D) (e2 : β → D) (e3 : γ → D) (p : α × β × γ) : D := .tup [e1 p.1, e2 p.2.1, e3 p.2.2]
def eP4 (e1 : α → D) (e2 : β → D) (e3 : γ → D) (e4 : δ → D) (p : α × β × γ × δ) : D := .tup [e1 p.1, e2 p.2.1, e3 p.2.2.1, e4 p.2.2.2]
/-- two items in a list -/
def eQ2 (e1 : α → D) (e2 : β → D) (p : α × β) : D := .lst [e1 p.1, e2 p.2]
def eO (e : α → D) : Option α → D
  | none => .non
  | some a => e a
def eK (e1 : α → D) (e2 : β → D) (kvs : List (α × β)) : D := .dic (kvs.map fun p => (e1 p.1, e2 p.2))
/-- nothing within may be changed -/
def NM (e : α → D) : Prop := ∀ a, noMut (e a) = true
/-- told apart by == -/
def EQ (e : α → D) (k : Nat) : Prop := (∀ a b, e a = e b → a = b) ∧ ∀ a, plb (e a) = true ∧ dep (e a) ≤ k
def NN (e : α → D) : Prop := ∀ a, e a ≠ .non
def INJ (e : α → D) : Prop := ∀ a b, e a = e b → a = b
theorem nmI : NM eI := fun _ => rfl
theorem nmB : NM eB := fun _ => rfl
theorem nmS : NM eS := fun _ => rfl
theorem nmN : NM eN := fun _ => rfl
theorem noMuts_map {e : α → D} (h : NM e) : ∀ xs : List α, noMuts (xs.map e) = true
  | [] => rfl
  | x :: xs => by simp [noMuts, h x, noMuts_map h xs]
theorem nmT {e : α → D} (h : NM e) : NM (eT e) := fun xs => by simp only [eT, noMut]; exact noMuts_map h xs
theorem nmC : NM eC := fun _ => rfl
theorem nmP2 {e1 : α → D} {e2 : β → D} (h1 : NM e1) (h2 : NM e2) : NM (eP2 e1 e2) := fun p => by simp [eP2, noMut, noMuts, h1 p.1, h2 p.2]
theorem nmP3 {e1 : α → D} {e2 : β → D} {e3 : γ → D} (h1 : NM e1) (h2 : NM e2) (h3 : NM e3) : NM (eP3 e1 e2 e3) := fun p => by simp [eP3, noMut, noMuts, h1 p.1, h2 p.2.1, h3 p.2.2]
theorem nmP4 {e1 : α → D} {e2 : β → D} {e3 : γ → D} {e4 : δ → D} (h1 : NM e1) (h2 : NM e2) (h3 : NM e3) (h4 : NM e4) : NM (eP4 e1 e2 e3 e4) := fun p => by simp [eP4, noMut, noMuts, h1 p.1, h2 p.2.1, h3 p.2.2.1, h4 p.2.2.2]
theorem nmO {e : α → D} (h : NM e) : NM (eO e)
  | none => rfl
  | some a => h a
theorem injI : INJ eI := fun _ _ h => by cases h; rfl
theorem injB : INJ eB := fun _ _ h => by cases h; rfl
theorem injS : INJ eS := fun _ _ h => by cases h; rfl
theorem injD : INJ eD := fun _ _ h => h
theorem map_inj {e : α → D} (h : INJ e) : ∀ {xs ys : List α}, xs.map e = ys.map e → xs = ys
  | [], [], _ => rfl
  | [], _ :: _, q => by cases q
  | _ :: _, [], q => by cases q
  | x :: xs, y :: ys, q => by
    rw [List.map_cons, List.map_cons] at q
    injection q with q1 q2
    rw [h _ _ q1, map_inj h q2]
theorem injT {e : α → D} (h : INJ e) : INJ (eT e) := fun _ _ q => by simp only [eT] at q; injection q with q; exact map_inj h q
theorem injL {e : α → D} (h : INJ e) : INJ (eL e) := fun _ _ q => by simp only [eL] at q; injection q with q; exact map_inj h q
theorem injP2 {e1 : α → D} {e2 : β → D} (h1 : INJ e1) (h2 : INJ e2) : INJ (eP2 e1 e2) := fun (a, b) (c, d) q => by
  simp only [eP2] at q; injection q with q; injection q with q1 q; injection q with q2 q; rw [h1 _ _ q1, h2 _ _ q2]
theorem injQ2 {e1 : α → D} {e2 : β → D} (h1 : INJ e1) (h2 : INJ e2) : INJ (eQ2 e1 e2) := fun (a, b) (c, d) q => by
  simp only [eQ2] at q; injection q with q; injection q with q1 q; injection q with q2 q; rw [h1 _ _ q1, h2 _ _ q2]
theorem injP3 {e1 : α → D} {e2 : β → D} {e3 : γ → D} (h1 : INJ e1) (h2 : INJ e2) (h3 : INJ e3) : INJ (eP3 e1 e2 e3) := fun (a, b, x) (c, d, y) q => by
  simp only [eP3] at q; injection q with q; injection q with q1 q; injection q with q2 q; injection q with q3 q; rw [h1 _ _ q1, h2 _ _ q2, h3 _ _ q3]
theorem injP4 {e1 : α → D} {e2 : β → D} {e3 : γ → D} {e4 : δ → D} (h1 : INJ e1) (h2 : INJ e2) (h3 : INJ e3) (h4 : INJ e4) : INJ (eP4 e1 e2 e3 e4) := fun (a, b, x, z) (c, d, y, w) q => by
  simp only [eP4] at q; injection q with q; injection q with q1 q; injection q with q2 q; injection q with q3 q; injection q with q4 q; rw [h1 _ _ q1, h2 _ _ q2, h3 _ _ q3, h4 _ _ q4]
theorem injO {e : α → D} (h : INJ e) (n : NN e) : INJ (eO e)
  | none, none, _ => rfl
  | none, some a, q => absurd q.symm (n a)
  | some a, none, q => absurd q (n a)
  | some a, some b, q => by rw [h _ _ q]
theorem nnI : NN eI := fun _ h => by cases h
theorem nnS : NN eS := fun _ h => by cases h
theorem nnB : NN eB := fun _ h => by cases h
theorem nnT {e : α → D} : NN (eT e) := fun _ h => by cases h
theorem nnL {e : α → D} : NN (eL e) := fun _ h => by cases h
theorem nnP2 {e1 : α → D} {e2 : β → D} : NN (eP2 e1 e2) := fun _ h => by cases h
theorem nnP3 {e1 : α → D} {e2 : β → D} {e3 : γ → D} : NN (eP3 e1 e2 e3) := fun _ h => by cases h
theorem nnP4 {e1 : α → D} {e2 : β → D} {e3 : γ → D} {e4 : δ → D} : NN (eP4 e1 e2 e3 e4) := fun _ h => by cases h
theorem eqI : EQ eI 0 := ⟨injI, fun _ => ⟨rfl, Nat.le_refl _⟩⟩
theorem eqStr : EQ eS 0 := ⟨injS, fun _ => ⟨rfl, Nat.le_refl _⟩⟩
theorem pl_map {e : α → D} {k : Nat} (h : EQ e k) : ∀ xs : List α, plbs (xs.map e) = true ∧ deps (xs.map e) ≤ k
  | [] => ⟨rfl, Nat.zero_le _⟩
  | x :: xs => by
    obtain ⟨h1, h2⟩ := pl_map h xs
    obtain ⟨h3, h4⟩ := h.2 x
    simp only [List.map_cons, plbs, deps, h1, h3, Bool.and_self, true_and]
    omega
theorem eqT {e : α → D} {k : Nat} (h : EQ e k) : EQ (eT e) (k + 1) := ⟨injT h.1, fun xs => ⟨(pl_map h xs).1, Nat.succ_le_succ (pl_map h xs).2⟩⟩
theorem eqL {e : α → D} {k : Nat} (h : EQ e k) : EQ (eL e) (k + 1) := ⟨injL h.1, fun xs => ⟨(pl_map h xs).1, Nat.succ_le_succ (pl_map h xs).2⟩⟩
theorem eqP2 {e1 : α → D} {e2 : β → D} {k1 k2 : Nat} (h1 : EQ e1 k1) (h2 : EQ e2 k2) : EQ (eP2 e1 e2) (max k1 k2 + 1) := ⟨injP2 h1.1 h2.1, fun p => by
  obtain ⟨q1, q2⟩ := h1.2 p.1
  obtain ⟨q3, q4⟩ := h2.2 p.2
  simp only [eP2, plb, plbs, dep, deps, q1, q3, Bool.and_self, true_and]; omega⟩
theorem eqQ2 {e1 : α → D} {e2 : β → D} {k1 k2 : Nat} (h1 : EQ e1 k1) (h2 : EQ e2 k2) : EQ (eQ2 e1 e2) (max k1 k2 + 1) := ⟨injQ2 h1.1 h2.1, fun p => by
  obtain ⟨q1, q2⟩ := h1.2 p.1
  obtain ⟨q3, q4⟩ := h2.2 p.2
  simp only [eQ2, plb, plbs, dep, deps, q1, q3, Bool.and_self, true_and]; omega⟩
theorem eqP3 {e1 : α → D} {e2 : β → D} {e3 : γ → D} {k1 k2 k3 : Nat} (h1 : EQ e1 k1) (h2 : EQ e2 k2) (h3 : EQ e3 k3) : EQ (eP3 e1 e2 e3) (max k1 (max k2 k3) + 1) := ⟨injP3 h1.1 h2.1 h3.1, fun p => by
  obtain ⟨q1, q2⟩ := h1.2 p.1
  obtain ⟨q3, q4⟩ := h2.2 p.2.1
  obtain ⟨q5, q6⟩ := h3.2 p.2.2
  simp only [eP3, plb, plbs, dep, deps, q1, q3, q5, Bool.and_self, true_and]; omega⟩
theorem eqO {e : α → D} {k : Nat} (h : EQ e k) (n : NN e) : EQ (eO e) k := ⟨injO h.1 n, fun p => by
  cases p with
  | none => exact ⟨rfl, Nat.zero_le _⟩
  | some a => exact h.2 a⟩
theorem eqS_of {a b : D} (ha : plb a = true) (hb : plb b = true) (hd : dep a ≤ 60) : eqS a b = some (decide (a = b)) := by
  unfold eqS
  split
  · cases ha
  · rw [ha, hb, decide_eq_true (by omega)]; rfl
theorem cmp_eq {e : α → D} {k : Nat} [DecidableEq α] (h : EQ e k) (hk : k ≤ 60) (x y : α) : cmpS .Eq (e x) (e y) = some (decide (x = y)) := by
  show eqS _ _ = _
  rw [eqS_of (h.2 x).1 (h.2 y).1 (Nat.le_trans (h.2 x).2 hk)]
  congr 1
  by_cases q : x = y
  · rw [q]; simp
  · rw [decide_eq_false q, decide_eq_false fun z => q (h.1 _ _ z)]
theorem cmp_ne {e : α → D} {k : Nat} [DecidableEq α] (h : EQ e k) (hk : k ≤ 60) (x y : α) : cmpS .NotEq (e x) (e y) = some (!decide (x = y)) := by
  have := cmp_eq h hk x y
  show (eqS _ _).map _ = _
  rw [show eqS (e x) (e y) = some (decide (x = y)) from this]; rfl
theorem cmp_isN {e : α → D} (n : NN e) (x : Option α) : cmpS .Is (eO e x) .non = some x.isNone := by
  cases x with
  | none => rfl
  | some a =>
    have : eO e (some a) ≠ .non := n a
    unfold cmpS
    split <;> rename_i q <;> first | cases q | skip
    all_goals simp_all
theorem cmp_isnN {e : α → D} (n : NN e) (x : Option α) : cmpS .IsNot (eO e x) .non = some x.isSome := by
  cases x with
  | none => rfl
  | some a =>
    have : eO e (some a) ≠ .non := n a
    unfold cmpS
    split <;> rename_i q <;> first | cases q | skip
    all_goals simp_all
theorem any_map {e : α → D} [DecidableEq α] (h : INJ e) (x : α) : ∀ xs : List α, ((xs.map e).any fun y => decide (y = e x)) = decide (x ∈ xs)
  | [] => by simp
  | y :: ys => by
    rw [List.map_cons, List.any_cons, any_map h x ys]
    by_cases q : x = y
    · simp [q]
    · have q1 : ¬ e y = e x := fun z => q (h _ _ z).symm
      simp [q, q1]
theorem cmp_inT {e : α → D} {k : Nat} [DecidableEq α] (h : EQ e k) (hk : k ≤ 60) (x : α) (xs : List α) : cmpS .In (e x) (eT e xs) = some (decide (x ∈ xs)) := by
  show inS _ (.tup _) = _
  simp only [inS, (h.2 x).1, (pl_map h xs).1, Bool.and_self, decide_eq_true (Nat.le_trans (h.2 x).2 hk), if_true, any_map h.1 x xs]
theorem cmp_inL {e : α → D} {k : Nat} [DecidableEq α] (h : EQ e k) (hk : k ≤ 60) (x : α) (xs : List α) : cmpS .In (e x) (eL e xs) = some (decide (x ∈ xs)) := by
  show inS _ (.lst _) = _
  simp only [inS, (h.2 x).1, (pl_map h xs).1, Bool.and_self, decide_eq_true (Nat.le_trans (h.2 x).2 hk), if_true, any_map h.1 x xs]
theorem cmp_ninT {e : α → D} {k : Nat} [DecidableEq α] (h : EQ e k) (hk : k ≤ 60) (x : α) (xs : List α) : cmpS .NotIn (e x) (eT e xs) = some (!decide (x ∈ xs)) := by
  have := cmp_inT h hk x xs
  show (inS _ _).map _ = _
  rw [show inS (e x) (eT e xs) = some (decide (x ∈ xs)) from this]; rfl
theorem cmp_ninL {e : α → D} {k : Nat} [DecidableEq α] (h : EQ e k) (hk : k ≤ 60) (x : α) (xs : List α) : cmpS .NotIn (e x) (eL e xs) = some (!decide (x ∈ xs)) := by
  have := cmp_inL h hk x xs
  show (inS _ _).map _ = _
  rw [show inS (e x) (eL e xs) = some (decide (x ∈ xs)) from this]; rfl
/-- an item among items that may be None; the item itself never is -/
theorem eqS_true {a b : Bool} : eqS (.bl a) (.bl b) = some (a == b) := rfl
end

/-! ### classes of flags -/
inductive Cl where
  | dp | tp | ow | nb | an
  deriving DecidableEq
@[reducible] def Cl.ok : Cl → Fl → Prop
  | .dp, f => f = .deep
  | .tp, f => f = .top
  | .ow, f => f = .deep ∨ f = .top
  | .nb, f => f ≠ .bor
  | .an, _ => True
/-- the class of a choice -/
def Cl.sup : Cl → Cl → Cl
  | .dp, .dp => .dp
  | .tp, .tp => .tp
  | .an, _ => .an
  | _, .an => .an
  | .nb, _ => .nb
  | _, .nb => .nb
  | _, _ => .ow
theorem Cl.sup_l {c d : Cl} {f : Fl} (h : c.ok f) : (c.sup d).ok f := by
  cases c <;> cases d <;> simp_all [Cl.ok, Cl.sup] <;> (try (rcases h with h | h <;> simp [h]))
theorem Cl.sup_r {c d : Cl} {f : Fl} (h : d.ok f) : (c.sup d).ok f := by
  cases c <;> cases d <;> simp_all [Cl.ok, Cl.sup] <;> (try (rcases h with h | h <;> simp [h]))
theorem Cl.nb_of {c : Cl} {f : Fl} (h : c.ok f) (n : c ≠ .an) : f ≠ .bor := by
  cases c <;> simp_all [Cl.ok] <;> (rcases h with h | h <;> simp [h])
/-- of an item -/
def Cl.el : Cl → Cl
  | .dp => .dp
  | .an => .an
  | _ => .nb
theorem Cl.el_ok {c : Cl} {f : Fl} (h : c.ok f) : c.el.ok (elFl f) := by
  cases c <;> cases f <;> simp_all [Cl.ok, Cl.el, elFl]

/-! ### what an expression computes -/
def XV (cx : CX) (a : PX) (e : En) (d : D) (c : Cl) (e' : En) : Prop := ∃ f, c.ok f ∧ evE cx a e = .ok (d, f) e'
def RX {α : Type} (cx : CX) (a : PX) (e : En) (m : Option α) (d : α → D) (c : Cl) (e' : En) : Prop := ∀ x, m = some x → XV cx a e (d x) c e'
def TV (cx : CX) (a : PX) (e : En) (b : Bool) (e' : En) : Prop := (evE cx a e).tru = .ok b e'
def RT (cx : CX) (a : PX) (e : En) (m : Option Bool) (e' : En) : Prop := ∀ b, m = some b → TV cx a e b e'
section
variable {cx : CX} {a b c t : PX} {e e1 e2 e3 : En} {d d1 d2 d3 : D} {c1 c2 c3 : Cl} {α β γ : Type}
theorem Cl.okdp {c : Cl} : Cl.dp.ok .deep := rfl
theorem v_nmF {i : Nat} (h : cellAt e i = some (d, .fro)) : XV cx (.nm i) e d .nb e := ⟨.fro, by decide, by simp only [evE, h]; rfl⟩
theorem v_nmB {i : Nat} {f : Fl} (h : cellAt e i = some (d, f)) : XV cx (.nm i) e d .an e := ⟨rdFl f, trivial, by simp only [evE, h]⟩
theorem v_tk {i : Nat} {f : Fl} (h : cellAt e i = some (d, f)) : XV cx (.tk i) e d .nb (e.set i (some (d, .fro))) := ⟨.fro, by decide, by simp only [evE, h]⟩
theorem v_mvD {i : Nat} (h : cellAt e i = some (d, .deep)) : XV cx (.mv i) e d .dp (e.set i none) := ⟨.deep, rfl, by simp only [evE, h]⟩
theorem v_mvT {i : Nat} (h : cellAt e i = some (d, .top)) : XV cx (.mv i) e d .tp (e.set i none) := ⟨.top, rfl, by simp only [evE, h]⟩
theorem v_mvF {i : Nat} (h : cellAt e i = some (d, .fro)) : XV cx (.mv i) e d .nb (e.set i none) := ⟨.fro, by decide, by simp only [evE, h]⟩
theorem v_cI {i : Int} : XV cx (.cI i) e (.int i) .dp e := ⟨.deep, rfl, by simp only [evE]⟩
theorem v_cB {i : Bool} : XV cx (.cB i) e (.bl i) .dp e := ⟨.deep, rfl, by simp only [evE]⟩
theorem v_cS {i : Str} : XV cx (.cS i) e (.str i) .dp e := ⟨.deep, rfl, by simp only [evE]⟩
theorem v_cN : XV cx .cN e .non .dp e := ⟨.deep, rfl, by simp only [evE]⟩
theorem v_dic : XV cx .dic e (.dic []) .dp e := ⟨.deep, rfl, by simp only [evE]⟩
theorem pur_ok {f : Fl} {p : Bool} (h : p = true) : ¬ (f = .bor && !p) = true := by rw [h]; simp
theorem v_bin {o : Operator} (ha : XV cx a e d1 c1 e1) (hb : XV cx b e1 d2 c2 e2) (hp : pur b = true) (h : ∀ f g, binS o (d1, f) (d2, g) = some (d, .deep)) : XV cx (.bin o a b) e d .dp e2 := by
  obtain ⟨f1, _, h1⟩ := ha
  obtain ⟨f2, _, h2⟩ := hb
  refine ⟨.deep, rfl, ?_⟩
  simp only [evE, h1, R.bind, h2, h, R.of, hp, Bool.not_true, Bool.and_false, if_neg, Bool.false_eq_true, if_false]
theorem v_cmp {o : CmpOp} {r : Bool} (ha : XV cx a e d1 c1 e1) (hb : XV cx b e1 d2 c2 e2) (hp : pur b = true) (h : cmpS o d1 d2 = some r) : XV cx (.cmp o a b) e (eB r) .dp e2 := by
  obtain ⟨f1, _, h1⟩ := ha
  obtain ⟨f2, _, h2⟩ := hb
  refine ⟨.deep, rfl, ?_⟩
  simp only [evE, h1, R.bind, h2, h, R.of, hp, Bool.not_true, Bool.and_false, if_neg, Bool.false_eq_true, if_false]; rfl
theorem v_chn {o o' : CmpOp} {r q : Bool} (ha : XV cx a e d1 c1 e) (hb : XV cx b e d2 c2 e) (hc : XV cx c e d3 c3 e) (hp : pur b = true) (hp' : pur c = true) (h : cmpS o d1 d2 = some r) (h' : cmpS o' d2 d3 = some q) : XV cx (.chn o o' a b c) e (eB (r && q)) .dp e := by
  obtain ⟨f1, _, h1⟩ := ha
  obtain ⟨f2, _, h2⟩ := hb
  obtain ⟨f3, _, h3⟩ := hc
  refine ⟨.deep, rfl, ?_⟩
  cases r <;> simp only [evE, h1, R.bind, h2, h3, h, h', R.of, hp, hp', Bool.not_true, Bool.and_false, if_neg, Bool.false_eq_true, if_false, if_true] <;> rfl
theorem v_neg {i : Int} (ha : XV cx a e (.int i) c1 e1) : XV cx (.neg a) e (.int (-i)) .dp e1 := by
  obtain ⟨f1, _, h1⟩ := ha
  exact ⟨.deep, rfl, by simp only [evE, h1, R.bind]⟩
theorem v_inv {i : Int} (ha : XV cx a e (.int i) c1 e1) : XV cx (.inv a) e (.int (Builtin.bitNot i)) .dp e1 := by
  obtain ⟨f1, _, h1⟩ := ha
  exact ⟨.deep, rfl, by simp only [evE, h1, R.bind]⟩
/-! truth -/
theorem t_of {r : Bool} (ha : XV cx a e d c1 e1) (h : truth d = some r) : TV cx a e r e1 := by
  obtain ⟨f1, _, h1⟩ := ha
  show R.tru _ = _
  rw [h1]
  show R.of (truth d) e1 = _
  rw [h]; rfl
theorem t_B {r : Bool} (ha : XV cx a e (eB r) c1 e1) : TV cx a e r e1 := t_of ha rfl
theorem t_I {i : Int} (ha : XV cx a e (eI i) c1 e1) : TV cx a e (!decide (i = 0)) e1 := t_of ha (by
  show some (i != 0) = _
  by_cases h : i = 0 <;> simp [h])
theorem t_L {en : α → D} {xs : List α} (ha : XV cx a e (eL en xs) c1 e1) : TV cx a e (!xs.isEmpty) e1 := t_of ha (by
  show some (!(xs.map en).isEmpty) = _
  cases xs <;> rfl)
theorem t_T {en : α → D} {xs : List α} (ha : XV cx a e (eT en xs) c1 e1) : TV cx a e (!xs.isEmpty) e1 := t_of ha (by
  show some (!(xs.map en).isEmpty) = _
  cases xs <;> rfl)
theorem v_not {r : Bool} (ha : TV cx a e r e1) : XV cx (.not a) e (eB (!r)) .dp e1 := by
  unfold TV at ha
  exact ⟨.deep, rfl, by simp only [evE, ha, R.bind]; rfl⟩
theorem tv_out {r : Bool} (ha : TV cx a e r e1) : ∃ d f, evE cx a e = .ok (d, f) e1 ∧ truth d = some r := by
  unfold TV at ha
  cases h : evE cx a e with
  | ok v e' =>
    rw [h] at ha
    obtain ⟨d, f⟩ := v
    have ha : R.of (truth d) e' = .ok r e1 := ha
    cases h2 : truth d with
    | none => rw [h2] at ha; cases ha
    | some q => rw [h2] at ha; cases ha; exact ⟨d, f, rfl, h2⟩
  | ex x e' => rw [h] at ha; cases ha
  | bad => rw [h] at ha; cases ha
theorem t_and {r q : Bool} (ha : TV cx a e r e) (hb : r = true → TV cx b e q e) : TV cx (.and a b) e (r && q) e := by
  obtain ⟨d, f, h1, h2⟩ := tv_out ha
  unfold TV
  cases r with
  | false => simp only [evE, h1, R.bind, h2, R.of, R.tru, Bool.false_eq_true, if_false, Bool.false_and]
  | true =>
    have := hb rfl
    unfold TV at this
    simp only [evE, h1, R.bind, h2, R.of, if_true, Bool.true_and]
    exact this
theorem t_or {r q : Bool} (ha : TV cx a e r e) (hb : r = false → TV cx b e q e) : TV cx (.or a b) e (r || q) e := by
  obtain ⟨d, f, h1, h2⟩ := tv_out ha
  unfold TV
  cases r with
  | true => simp only [evE, h1, R.bind, h2, R.of, R.tru, if_true, Bool.true_or]
  | false =>
    have := hb rfl
    unfold TV at this
    simp only [evE, h1, R.bind, h2, R.of, Bool.false_eq_true, if_false, Bool.false_or]
    exact this
theorem v_and {r q : Bool} (ha : XV cx a e (eB r) c1 e) (hb : XV cx b e (eB q) c2 e) : XV cx (.and a b) e (eB (r && q)) (c1.sup c2) e := by
  obtain ⟨f1, o1, h1⟩ := ha
  obtain ⟨f2, o2, h2⟩ := hb
  cases r with
  | false => exact ⟨f1, Cl.sup_l o1, by simp only [evE, h1, R.bind, truth, eB, R.of, Bool.false_eq_true, if_false, Bool.false_and]⟩
  | true => exact ⟨f2, Cl.sup_r o2, by simp only [evE, h1, R.bind, truth, eB, R.of, if_true, Bool.true_and]; exact h2⟩
theorem v_or {r q : Bool} (ha : XV cx a e (eB r) c1 e) (hb : XV cx b e (eB q) c2 e) : XV cx (.or a b) e (eB (r || q)) (c1.sup c2) e := by
  obtain ⟨f1, o1, h1⟩ := ha
  obtain ⟨f2, o2, h2⟩ := hb
  cases r with
  | true => exact ⟨f1, Cl.sup_l o1, by simp only [evE, h1, R.bind, truth, eB, R.of, if_true, Bool.true_or]⟩
  | false => exact ⟨f2, Cl.sup_r o2, by simp only [evE, h1, R.bind, truth, eB, R.of, Bool.false_eq_true, if_false, Bool.false_or]; exact h2⟩
theorem t_not {r : Bool} (ha : TV cx a e r e1) : TV cx (.not a) e (!r) e1 := t_B (v_not ha)
/-! partial parts -/
theorem r_of {en : α → D} {x : α} (h : XV cx a e (en x) c1 e1) : RX cx a e (some x) en c1 e1 := fun y hy => by cases hy; exact h
theorem r_bind {m : Option α} {k : α → Option β} {en : α → D} {em : β → D} (ha : RX cx a e m en c1 e1) (hk : ∀ x, XV cx a e (en x) c1 e1 → RX cx b e (k x) em c2 e3) : RX cx b e (m.bind k) em c2 e3 := fun y hy => by
  cases m with
  | none => cases hy
  | some x => exact hk x (ha x rfl) y hy
theorem r_bindT {m : Option Bool} {k : Bool → Option β} {em : β → D} (ha : RT cx a e m e1) (hk : ∀ x, TV cx a e x e1 → RX cx b e (k x) em c2 e3) : RX cx b e (m.bind k) em c2 e3 := fun y hy => by
  cases m with
  | none => cases hy
  | some x => exact hk x (ha x rfl) y hy
theorem rt_of {r : Bool} (h : TV cx a e r e1) : RT cx a e (some r) e1 := fun y hy => by cases hy; exact h
theorem rt_bind {m : Option α} {k : α → Option Bool} {en : α → D} (ha : RX cx a e m en c1 e1) (hk : ∀ x, XV cx a e (en x) c1 e1 → RT cx b e (k x) e3) : RT cx b e (m.bind k) e3 := fun y hy => by
  cases m with
  | none => cases hy
  | some x => exact hk x (ha x rfl) y hy
theorem rt_bindT {m : Option Bool} {k : Bool → Option Bool} (ha : RT cx a e m e1) (hk : ∀ x, TV cx a e x e1 → RT cx b e (k x) e3) : RT cx b e (m.bind k) e3 := fun y hy => by
  cases m with
  | none => cases hy
  | some x => exact hk x (ha x rfl) y hy
theorem rt_and {r : Bool} {m : Option Bool} (ha : TV cx a e r e) (hb : RT cx b e m e) : RT cx (.and a b) e (if r = true then m else some false) e := fun y hy => by
  cases r with
  | false => cases hy; exact t_and (q := false) ha (fun h => nomatch h)
  | true => have := t_and (q := y) ha (fun _ => hb y hy); exact this
theorem rt_or {r : Bool} {m : Option Bool} (ha : TV cx a e r e) (hb : RT cx b e m e) : RT cx (.or a b) e (if r = true then some true else m) e := fun y hy => by
  cases r with
  | true => cases hy; exact t_or (q := false) ha (fun h => nomatch h)
  | false => have := t_or (q := y) ha (fun _ => hb y hy); exact this
theorem r_and {r : Bool} {m : Option Bool} (ha : XV cx a e (eB r) c1 e) (hb : RX cx b e m eB c2 e) : RX cx (.and a b) e (if r = true then m else some false) eB (c1.sup c2) e := fun y hy => by
  obtain ⟨f1, o1, h1⟩ := ha
  cases r with
  | false => cases hy; exact ⟨f1, Cl.sup_l o1, by simp only [evE, h1, R.bind, truth, eB, R.of, Bool.false_eq_true, if_false]⟩
  | true =>
    obtain ⟨f2, o2, h2⟩ := hb y hy
    exact ⟨f2, Cl.sup_r o2, by simp only [evE, h1, R.bind, truth, eB, R.of, if_true]; exact h2⟩
theorem r_or {r : Bool} {m : Option Bool} (ha : XV cx a e (eB r) c1 e) (hb : RX cx b e m eB c2 e) : RX cx (.or a b) e (if r = true then some true else m) eB (c1.sup c2) e := fun y hy => by
  obtain ⟨f1, o1, h1⟩ := ha
  cases r with
  | true => cases hy; exact ⟨f1, Cl.sup_l o1, by simp only [evE, h1, R.bind, truth, eB, R.of, if_true]⟩
  | false =>
    obtain ⟨f2, o2, h2⟩ := hb y hy
    exact ⟨f2, Cl.sup_r o2, by simp only [evE, h1, R.bind, truth, eB, R.of, Bool.false_eq_true, if_false]; exact h2⟩
theorem v_ife {r : Bool} {en : α → D} {x y : α} (ht : TV cx t e r e) (ha : XV cx a e (en x) c1 e1) (hb : XV cx b e (en y) c2 e1) : XV cx (.ife t a b) e (en (if r = true then x else y)) (c1.sup c2) e1 := by
  obtain ⟨f1, o1, h1⟩ := ha
  obtain ⟨f2, o2, h2⟩ := hb
  unfold TV at ht
  cases r with
  | true => exact ⟨f1, Cl.sup_l o1, by simp only [evE, ht, R.bind, if_true]; exact h1⟩
  | false => exact ⟨f2, Cl.sup_r o2, by simp only [evE, ht, R.bind, Bool.false_eq_true, if_false]; exact h2⟩
theorem r_ife {r : Bool} {en : α → D} {x y : Option α} (ht : TV cx t e r e) (ha : RX cx a e x en c1 e1) (hb : RX cx b e y en c2 e1) : RX cx (.ife t a b) e (if r = true then x else y) en (c1.sup c2) e1 := fun z hz => by
  unfold TV at ht
  cases r with
  | true =>
    obtain ⟨f1, o1, h1⟩ := ha z hz
    exact ⟨f1, Cl.sup_l o1, by simp only [evE, ht, R.bind, if_true]; exact h1⟩
  | false =>
    obtain ⟨f2, o2, h2⟩ := hb z hz
    exact ⟨f2, Cl.sup_r o2, by simp only [evE, ht, R.bind, Bool.false_eq_true, if_false]; exact h2⟩
/-! ints -/
def mulO (x y : Int) : Option Int := if CMulD x y = true then some (x * y) else none
def divO (x y : Int) : Option Int := if 0 < y ∧ y < 1073741824 then some (x / y) else none
def modO (x y : Int) : Option Int := if 0 < y then some (x % y) else none
def powO (x y : Int) : Option Int := if 0 ≤ y ∧ y ≤ 1000000 ∧ (x.natAbs : Int) < cap (2 ^ 64) then some (x ^ y.toNat) else none
def shlO (x y : Int) : Option Int := if 0 ≤ y ∧ y ≤ 1000000 ∧ (x.natAbs : Int) < cap (2 ^ 64) then some (x * 2 ^ y.toNat) else none
def shrO (x y : Int) : Option Int := if 0 ≤ y then some (x / 2 ^ y.toNat) else none
theorem cml' {x y : Int} (h : -18446744073709551616 < x ∧ x < 18446744073709551616) : CMulD x y = true := CMulD_iff.mpr (.inl ⟨by omega, by omega⟩)
theorem cmr' {x y : Int} (h : -18446744073709551616 < y ∧ y < 18446744073709551616) : CMulD x y = true := CMulD_iff.mpr (.inr ⟨by omega, by omega⟩)
theorem b_mul {x y : Int} (h : CMulD x y = true) (f g : Fl) : binS .Mult (.int x, f) (.int y, g) = some (.int (x * y), .deep) := by
  show (if CMulD x y = true then some (D.int (x * y), Fl.deep) else none) = _
  rw [if_pos h]
theorem b_div {x y : Int} (h : 0 < y ∧ y < 1073741824) (f g : Fl) : binS .FloorDiv (.int x, f) (.int y, g) = some (.int (x / y), .deep) := by
  show (if y ≠ 0 ∧ y.natAbs < 1073741824 then some (D.int (x.fdiv y), Fl.deep) else none) = _
  rw [if_pos ⟨by omega, by omega⟩, Int.fdiv_eq_ediv_of_nonneg _ (by omega)]
theorem b_mod {x y : Int} (h : 0 < y) (f g : Fl) : binS .Mod (.int x, f) (.int y, g) = some (.int (x % y), .deep) := by
  show (if y ≠ 0 then some (D.int (x.fmod y), Fl.deep) else none) = _
  rw [if_pos (by omega), Int.fmod_eq_emod_of_nonneg _ (by omega)]
theorem r_bin {o : Operator} {x y : Int} {m : Option Int} (ha : XV cx a e (eI x) c1 e1) (hb : XV cx b e1 (eI y) c2 e2) (hp : pur b = true) (h : ∀ z, m = some z → ∀ f g, binS o (.int x, f) (.int y, g) = some (.int z, .deep)) : RX cx (.bin o a b) e m eI .dp e2 := fun z hz => v_bin ha hb hp (h z hz)
theorem q_mul {x y z : Int} (h : mulO x y = some z) (f g : Fl) : binS .Mult (.int x, f) (.int y, g) = some (.int z, .deep) := by
  unfold mulO at h
  split at h
  · cases h; rename_i q; exact b_mul q f g
  · cases h
theorem q_div {x y z : Int} (h : divO x y = some z) (f g : Fl) : binS .FloorDiv (.int x, f) (.int y, g) = some (.int z, .deep) := by
  unfold divO at h
  split at h
  · cases h; rename_i q; exact b_div q f g
  · cases h
theorem q_mod {x y z : Int} (h : modO x y = some z) (f g : Fl) : binS .Mod (.int x, f) (.int y, g) = some (.int z, .deep) := by
  unfold modO at h
  split at h
  · cases h; rename_i q; exact b_mod q f g
  · cases h
theorem q_pow {x y z : Int} (h : powO x y = some z) (f g : Fl) : binS .Pow (.int x, f) (.int y, g) = some (.int z, .deep) := by
  unfold powO at h
  split at h
  · cases h; rename_i q
    show (if 0 ≤ y ∧ y ≤ 1000000 ∧ x.natAbs < 2 ^ 64 then some (D.int (x ^ y.toNat), Fl.deep) else none) = _
    rw [cap_eq] at q
    rw [if_pos ⟨q.1, q.2.1, by omega⟩]
  · cases h
theorem q_shl {x y z : Int} (h : shlO x y = some z) (f g : Fl) : binS .LShift (.int x, f) (.int y, g) = some (.int z, .deep) := by
  unfold shlO at h
  split at h
  · cases h; rename_i q
    show (if 0 ≤ y ∧ y ≤ 1000000 ∧ x.natAbs < 2 ^ 64 then some (D.int (x * 2 ^ y.toNat), Fl.deep) else none) = _
    rw [cap_eq] at q
    rw [if_pos ⟨q.1, q.2.1, by omega⟩]
  · cases h
theorem q_shr {x y z : Int} (h : shrO x y = some z) (f g : Fl) : binS .RShift (.int x, f) (.int y, g) = some (.int z, .deep) := by
  unfold shrO at h
  split at h
  · cases h; rename_i q
    show (if 0 ≤ y then some (D.int (x / 2 ^ y.toNat), Fl.deep) else none) = _
    rw [if_pos q]
  · cases h
end
end
end Rf

/-! Rf2: sequences, calls, comprehensions. -/
namespace Rf
noncomputable section
open PySem L2 Ev
section
variable {cx : CX} {a b c t : PX} {es : PXs} {e e1 e2 e3 : En} {d d1 d2 d3 : D} {ds : List D} {c1 c2 c3 : Cl} {cs : List Cl} {α β γ : Type} {en : α → D} {em : β → D}
def Cl.isAn : Cl → Bool
  | .an => true
  | _ => false
theorem Cl.nb' {c : Cl} {f : Fl} (h : c.ok f) (n : c.isAn = false) : f ≠ .bor := Cl.nb_of h (by rintro rfl; cases n)
def Fs : List Cl → List Vl → Prop
  | [], [] => True
  | c :: cs, v :: vs => c.ok v.2 ∧ Fs cs vs
  | _, _ => False
def VL (cx : CX) (es : PXs) (e : En) (ds : List D) (cs : List Cl) (e' : En) : Prop := ∃ vs : List Vl, evL cx es e = .ok vs e' ∧ vs.map (·.1) = ds ∧ Fs cs vs
theorem vl_nil : VL cx .nil e [] [] e := ⟨[], by simp only [evL], rfl, trivial⟩
theorem vl_cons (ha : XV cx a e d c1 e1) (hl : VL cx es e1 ds cs e2) (hp : (!c1.isAn || pures es) = true) : VL cx (.cons a es) e (d :: ds) (c1 :: cs) e2 := by
  obtain ⟨f, o, h⟩ := ha
  obtain ⟨vs, h1, h2, h3⟩ := hl
  refine ⟨(d, f) :: vs, ?_, by rw [List.map_cons, h2], o, h3⟩
  have : ¬ (decide (f = Fl.bor) && !pures es) = true := by
    cases hq : pures es with
    | true => simp
    | false =>
      rw [hq] at hp
      have := Cl.nb' o (by simpa using hp)
      simp [this]
  simp only [evL, h, R.bind, h1, if_neg this]
/-- the class of a tuple -/
def tupC (cs : List Cl) : Cl := if cs.all (· == .dp) then .dp else if cs.all (!·.isAn) then .nb else .an
theorem fs_dp : ∀ {cs : List Cl} {vs : List Vl}, Fs cs vs → cs.all (· == .dp) = true → vs.all (·.2 = .deep) = true
  | [], [], _, _ => rfl
  | c :: cs, v :: vs, h, k => by
    simp only [List.all_cons, Bool.and_eq_true] at k ⊢
    refine ⟨?_, fs_dp h.2 k.2⟩
    have := h.1
    rw [eq_of_beq k.1] at this
    exact decide_eq_true this
theorem fs_nb : ∀ {cs : List Cl} {vs : List Vl}, Fs cs vs → cs.all (!·.isAn) = true → vs.all (·.2 ≠ .bor) = true
  | [], [], _, _ => rfl
  | c :: cs, v :: vs, h, k => by
    simp only [List.all_cons, Bool.and_eq_true] at k ⊢
    exact ⟨decide_eq_true (Cl.nb' h.1 (by simpa using k.1)), fs_nb h.2 k.2⟩
theorem v_tup (h : VL cx es e ds cs e1) (hl : ds.length ≤ 1000) : XV cx (.tup es) e (.tup ds) (tupC cs) e1 := by
  obtain ⟨vs, h1, h2, h3⟩ := h
  have l : vs.length ≤ sizeLine := by
    have : vs.length = ds.length := by rw [← h2, List.length_map]
    rw [sizeLine_eq]; omega
  subst h2
  refine ⟨_, ?_, by simp only [evE, h1, R.bind, if_pos l]; rfl⟩
  unfold tupC
  by_cases k1 : cs.all (· == .dp) = true
  · rw [if_pos k1]
    show (if _ then Fl.deep else _) = _
    rw [if_pos (fs_dp h3 k1)]
  · rw [if_neg k1]
    by_cases k2 : cs.all (!·.isAn) = true
    · rw [if_pos k2]
      show (if _ then Fl.deep else _) ≠ _
      split
      · decide
      · rw [if_pos (fs_nb h3 k2)]; decide
    · rw [if_neg k2]; trivial
def NMs (ds : List D) : Prop := ∀ d ∈ ds, noMut d = true
theorem nms_nil : NMs [] := fun _ h => nomatch h
theorem nms_cons (h : noMut d = true) (k : NMs ds) : NMs (d :: ds) := fun x hx => (List.mem_cons.mp hx).elim (fun z => z ▸ h) (k x)
theorem esc_nm {f : Fl} (h : noMut d = true) : esc (d, f) = some (d, .deep) := by simp [esc, h]
theorem esc_nb {f : Fl} (h : f ≠ .bor) : ∃ g, esc (d, f) = some (d, g) ∧ (g = .deep ∨ g = f) := by
  unfold esc
  by_cases hn : noMut d = true
  · exact ⟨.deep, by simp [hn], .inl rfl⟩
  · refine ⟨f, ?_, .inr rfl⟩
    simp only [hn]
    cases f <;> simp_all
theorem esc_list : ∀ {vs : List Vl}, NMs (vs.map (·.1)) → ∃ ws, vs.mapM esc = some ws ∧ ws.all (·.2 = .deep) = true
  | [], _ => ⟨[], rfl, rfl⟩
  | v :: vs, h => by
    obtain ⟨ws, h1, h2⟩ := esc_list (vs := vs) fun x hx => h x (List.mem_cons_of_mem _ hx)
    have hv : esc v = some (v.1, .deep) := esc_nm (h v.1 (by simp))
    exact ⟨(v.1, .deep) :: ws, by rw [List.mapM_cons, hv, h1]; rfl, by simp only [List.all_cons, h2]; rfl⟩
theorem v_lst (h : VL cx es e ds cs e1) (hn : NMs ds) (hl : ds.length ≤ 1000) : XV cx (.lst es) e (.lst ds) .dp e1 := by
  obtain ⟨vs, h1, h2, h3⟩ := h
  have l : vs.length ≤ sizeLine := by
    have : vs.length = ds.length := by rw [← h2, List.length_map]
    rw [sizeLine_eq]; omega
  subst h2
  obtain ⟨ws, k1, k2⟩ := esc_list hn
  exact ⟨.deep, rfl, by simp only [evE, h1, R.bind, k1, if_pos l, k2, if_true]⟩
theorem esc_listM : ∀ {cs : List Cl} {vs : List Vl}, Fs cs vs → cs.all (!·.isAn) = true → ∃ ws, vs.mapM esc = some ws
  | [], [], _, _ => ⟨[], rfl⟩
  | c :: cs, v :: vs, h, k => by
    simp only [List.all_cons, Bool.and_eq_true] at k
    obtain ⟨ws, h1⟩ := esc_listM h.2 k.2
    obtain ⟨g, h2, _⟩ := esc_nb (d := v.1) (Cl.nb' h.1 (by simpa using k.1))
    exact ⟨(v.1, g) :: ws, by rw [List.mapM_cons, show esc v = _ from h2, h1]; rfl⟩
/-- a list of things that may be changed -/
theorem v_lstM (h : VL cx es e ds cs e1) (hn : cs.all (!·.isAn) = true) (hl : ds.length ≤ 1000) : XV cx (.lst es) e (.lst ds) .ow e1 := by
  obtain ⟨vs, h1, h2, h3⟩ := h
  have l : vs.length ≤ sizeLine := by
    have : vs.length = ds.length := by rw [← h2, List.length_map]
    rw [sizeLine_eq]; omega
  subst h2
  obtain ⟨ws, k1⟩ := esc_listM h3 hn
  refine ⟨if ws.all (·.2 = .deep) then .deep else .top, ?_, by simp only [evE, h1, R.bind, k1, if_pos l]⟩
  show _ ∨ _
  split <;> simp
/-! items by their place -/
theorem atI_map (f : α → β) (xs : List α) (k : Int) : atI (xs.map f) k = (atI xs k).map f := by
  unfold atI
  rw [List.length_map]
  cases ixN xs.length k with
  | none => rfl
  | some j => simp [List.getElem?_map]
theorem v_ixP {k : Int} (ha : XV cx a e (.tup ds) c1 e1) (h : atI ds k = some d) : XV cx (.ix a (.cI k)) e d c1.el e1 := by
  obtain ⟨f, o, h1⟩ := ha
  refine ⟨elFl f, Cl.el_ok o, ?_⟩
  simp only [evE, h1, R.bind, pur, Bool.not_true, Bool.and_false, Bool.false_eq_true, if_false, ixS, h, Option.map, R.of]
theorem v_ixQ {k : Int} (ha : XV cx a e (.lst ds) c1 e1) (h : atI ds k = some d) : XV cx (.ix a (.cI k)) e d c1.el e1 := by
  obtain ⟨f, o, h1⟩ := ha
  refine ⟨elFl f, Cl.el_ok o, ?_⟩
  simp only [evE, h1, R.bind, pur, Bool.not_true, Bool.and_false, Bool.false_eq_true, if_false, ixS, h, Option.map, R.of]
theorem p_ixT {xs : List α} {k : Int} (ha : XV cx a e (eT en xs) c1 e1) (hb : XV cx b e1 (eI k) c2 e2) (hp : pur b = true) : RX cx (.ix a b) e (atI xs k) en c1.el e2 := fun x hx => by
  obtain ⟨f, o, h1⟩ := ha
  obtain ⟨g, _, h2⟩ := hb
  refine ⟨elFl f, Cl.el_ok o, ?_⟩
  simp only [evE, h1, R.bind, hp, Bool.not_true, Bool.and_false, Bool.false_eq_true, if_false, h2, eT, eI, ixS, atI_map, hx, Option.map, R.of]
theorem p_ixL {xs : List α} {k : Int} (ha : XV cx a e (eL en xs) c1 e1) (hb : XV cx b e1 (eI k) c2 e2) (hp : pur b = true) : RX cx (.ix a b) e (atI xs k) en c1.el e2 := fun x hx => by
  obtain ⟨f, o, h1⟩ := ha
  obtain ⟨g, _, h2⟩ := hb
  refine ⟨elFl f, Cl.el_ok o, ?_⟩
  simp only [evE, h1, R.bind, hp, Bool.not_true, Bool.and_false, Bool.false_eq_true, if_false, h2, eL, eI, ixS, atI_map, hx, Option.map, R.of]
/-- data of any kind, by a place -/
def ixD (x : D) (k : Int) : Option D := match x with
  | .lst xs | .tup xs => atI xs k
  | _ => none
theorem p_ixD {x : D} {k : Int} (ha : XV cx a e (eD x) c1 e1) (hb : XV cx b e1 (eI k) c2 e2) (hp : pur b = true) : RX cx (.ix a b) e (ixD x k) eD c1.el e2 := fun y hy => by
  obtain ⟨f, o, h1⟩ := ha
  obtain ⟨g, _, h2⟩ := hb
  refine ⟨elFl f, Cl.el_ok o, ?_⟩
  simp only [evE, h1, R.bind, hp, Bool.not_true, Bool.and_false, Bool.false_eq_true, if_false, h2]
  cases x <;> simp_all [ixD, eD, eI, ixS, R.of]
theorem p_cmpD {o : CmpOp} {x y : D} (ha : XV cx a e (eD x) c1 e1) (hb : XV cx b e1 (eD y) c2 e2) (hp : pur b = true) : RX cx (.cmp o a b) e (cmpS o x y) eB .dp e2 := fun r hr => v_cmp ha hb hp hr
/-! slices -/
def cut (xs : List α) (lo hi : Option Int) : List α := (xs.drop (HT.sIx xs.length 0 lo)).take (HT.sIx xs.length xs.length hi - HT.sIx xs.length 0 lo)
theorem cut_map (f : α → D) (xs : List α) (lo hi : Option Int) : cutD (xs.map f) lo hi = (cut xs lo hi).map f := by
  simp only [cutD, cut, List.length_map, List.map_take, List.map_drop]
def OV (cx : CX) (o : PO) (e : En) (v : Option Int) : Prop := evO cx o e = .ok v e ∧ pureO o = true
theorem ov_none : OV cx .none e none := ⟨by simp only [evO], rfl⟩
theorem ov_some {k : Int} (ha : XV cx a e (eI k) c1 e) (hp : pur a = true) : OV cx (.some a) e (some k) := by
  obtain ⟨f, o, h1⟩ := ha
  exact ⟨by simp only [evO, h1, R.bind, eI], by simp only [pureO, hp]⟩
theorem v_slL {xs : List α} {lo hi : PO} {l h : Option Int} (ha : XV cx a e (eL en xs) c1 e) (nm : NM en) (hl : OV cx lo e l) (hh : OV cx hi e h) : XV cx (.sl a lo hi) e (eL en (cut xs l h)) .dp e := by
  obtain ⟨f, o, h1⟩ := ha
  refine ⟨.deep, rfl, ?_⟩
  simp only [evE, h1, R.bind, hl.1, hh.1, hl.2, hh.2, Bool.and_self, Bool.not_true, Bool.and_false, Bool.false_eq_true, if_false, eL, slS, escs, noMuts_map nm, if_true, Option.map, R.of, cut_map]
theorem v_slC {xs : List Int} {lo hi : PO} {l h : Option Int} (ha : XV cx a e (eC xs) c1 e) (hl : OV cx lo e l) (hh : OV cx hi e h) : XV cx (.sl a lo hi) e (eL eI (cut xs l h)) .dp e := by
  obtain ⟨f, o, h1⟩ := ha
  refine ⟨.deep, rfl, ?_⟩
  simp only [evE, h1, R.bind, hl.1, hh.1, hl.2, hh.2, Bool.and_self, Bool.not_true, Bool.and_false, Bool.false_eq_true, if_false, eC, slS, show noMuts (xs.map D.int) = true from noMuts_map nmI xs, if_true, R.of, cut_map]
  rfl
def Cl.cut : Cl → Cl
  | .dp => .dp
  | .an => .an
  | _ => .nb
theorem v_slT {xs : List α} {lo hi : PO} {l h : Option Int} (ha : XV cx a e (eT en xs) c1 e) (hl : OV cx lo e l) (hh : OV cx hi e h) : XV cx (.sl a lo hi) e (eT en (cut xs l h)) c1.cut e := by
  obtain ⟨f, o, h1⟩ := ha
  refine ⟨if f = .deep then .deep else if f = .bor then .bor else .fro, ?_, ?_⟩
  · cases c1 <;> cases f <;> simp_all [Cl.ok, Cl.cut]
  · simp only [evE, h1, R.bind, hl.1, hh.1, hl.2, hh.2, Bool.and_self, Bool.not_true, Bool.and_false, Bool.false_eq_true, if_false, eT, slS, R.of, cut_map]
theorem v_revT {xs : List α} (ha : XV cx a e (eT en xs) c1 e1) : XV cx (.rev a) e (eT en xs.reverse) c1.cut e1 := by
  obtain ⟨f, o, h1⟩ := ha
  refine ⟨if f = .deep then .deep else if f = .bor then .bor else .fro, ?_, ?_⟩
  · cases c1 <;> cases f <;> simp_all [Cl.ok, Cl.cut]
  · simp only [evE, h1, R.bind, eT, revS, R.of, List.map_reverse]
theorem v_revL {xs : List α} (ha : XV cx a e (eL en xs) c1 e1) (nm : NM en) : XV cx (.rev a) e (eL en xs.reverse) .dp e1 := by
  obtain ⟨f, o, h1⟩ := ha
  refine ⟨.deep, rfl, ?_⟩
  simp only [evE, h1, R.bind, eL, revS, escs, noMuts_map nm, if_true, Option.map, R.of, List.map_reverse]
/-! joined -/
def catO (xs ys : List α) : Option (List α) := if xs.length + ys.length ≤ 16777216 then some (xs ++ ys) else none
def repO (xs : List α) (k : Int) : Option (List α) := if repOk xs.length k = true then some (List.replicate k.toNat xs).flatten else none
def repTO (xs : List α) (k : Int) : Option (List α) := if repTOk xs.length k = true then some (List.replicate k.toNat xs).flatten else none
def szO (xs : List α) : Option (List α) := if xs.length ≤ 16777216 then some xs else none
theorem p_catL {xs ys : List α} (ha : XV cx a e (eL en xs) c1 e1) (hb : XV cx b e1 (eL en ys) c2 e2) (hp : pur b = true) (nm : NM en) : RX cx (.bin .Add a b) e (catO xs ys) (eL en) .dp e2 := fun z hz => by
  unfold catO at hz
  split at hz
  · rename_i l
    cases hz
    refine v_bin ha hb hp fun f g => ?_
    simp only [eL, binS, escs, noMuts_map nm, if_true, List.length_map, if_pos (show xs.length + ys.length ≤ sizeLine by rw [sizeLine_eq]; omega), catFl, List.map_append]
  · cases hz
theorem p_catT {xs ys : List α} (ha : XV cx a e (eT en xs) c1 e1) (hb : XV cx b e1 (eT en ys) c2 e2) (hp : pur b = true) (nm : NM en) : RX cx (.bin .Add a b) e (catO xs ys) (eT en) .dp e2 := fun z hz => by
  unfold catO at hz
  split at hz
  · rename_i l
    cases hz
    refine v_bin ha hb hp fun f g => ?_
    simp only [eT, binS, escs, noMuts_map nm, if_true, List.length_map, if_pos (show xs.length + ys.length ≤ sizeLine by rw [sizeLine_eq]; omega), tupFl, List.map_append]
  · cases hz
theorem rep_map (f : α → D) (xs : List α) (n : Nat) : (List.replicate n (xs.map f)).flatten = ((List.replicate n xs).flatten).map f := by
  rw [List.map_flatten, List.map_replicate]
theorem p_repL {xs : List α} {k : Int} (ha : XV cx a e (eL en xs) c1 e1) (hb : XV cx b e1 (eI k) c2 e2) (hp : pur b = true) (nm : NM en) : RX cx (.bin .Mult a b) e (repO xs k) (eL en) .dp e2 := fun z hz => by
  unfold repO at hz
  split at hz
  · rename_i l
    cases hz
    refine v_bin ha hb hp fun f g => ?_
    simp only [eL, eI, binS, escs, noMuts_map nm, if_true, List.length_map, if_pos l, rep_map]
  · cases hz
theorem p_repT {xs : List α} {k : Int} (ha : XV cx a e (eT en xs) c1 e1) (hb : XV cx b e1 (eI k) c2 e2) (hp : pur b = true) (nm : NM en) : RX cx (.bin .Mult a b) e (repTO xs k) (eT en) .dp e2 := fun z hz => by
  unfold repTO at hz
  split at hz
  · rename_i l
    cases hz
    refine v_bin ha hb hp fun f g => ?_
    simp only [eT, eI, binS, noMuts_map nm, List.length_map, l, and_self, if_true, rep_map]
  · cases hz
/-! builtins -/
theorem v_bi {bi : Bi} {f : Fl} (h : VL cx es e ds cs e1) (hb : ∀ vs : List Vl, vs.map (·.1) = ds → Fs cs vs → ∃ f, c1.ok f ∧ biS bi vs = some (d, f)) : XV cx (.bi bi es) e d c1 e1 := by
  obtain ⟨vs, h1, h2, h3⟩ := h
  obtain ⟨f, o, h4⟩ := hb vs h2 h3
  exact ⟨f, o, by simp only [evE, h1, R.bind, h4, R.of]⟩
theorem b1 {bi : Bi} (ha : XV cx a e d1 c2 e1) (h : ∀ f, biS bi [(d1, f)] = some (d, .deep)) : XV cx (.bi bi (.cons a .nil)) e d .dp e1 := by
  obtain ⟨f, o, h1⟩ := ha
  refine ⟨.deep, rfl, ?_⟩
  simp only [evE, evL, h1, R.bind, pures, Bool.not_true, Bool.and_false, Bool.false_eq_true, if_false, h, R.of]
theorem b2 {bi : Bi} (ha : XV cx a e d1 c1 e1) (hb : XV cx b e1 d2 c2 e2) (hp : pur b = true) (h : ∀ f g, biS bi [(d1, f), (d2, g)] = some (d, .deep)) : XV cx (.bi bi (.cons a (.cons b .nil))) e d .dp e2 := by
  obtain ⟨f, o, h1⟩ := ha
  obtain ⟨g, _, h2⟩ := hb
  refine ⟨.deep, rfl, ?_⟩
  simp only [evE, evL, h1, h2, R.bind, pures, hp, Bool.and_self, Bool.not_true, Bool.and_false, Bool.false_eq_true, if_false, h, R.of]
theorem v_lenL {xs : List α} (ha : XV cx a e (eL en xs) c2 e1) : XV cx (.bi .len (.cons a .nil)) e (eI xs.length) .dp e1 := b1 ha fun f => by simp only [eL, biS, List.length_map]; rfl
theorem v_lenT {xs : List α} (ha : XV cx a e (eT en xs) c2 e1) : XV cx (.bi .len (.cons a .nil)) e (eI xs.length) .dp e1 := b1 ha fun f => by simp only [eT, biS, List.length_map]; rfl
theorem v_lenP (ha : XV cx a e (.tup ds) c2 e1) : XV cx (.bi .len (.cons a .nil)) e (eI ds.length) .dp e1 := b1 ha fun f => rfl
theorem v_abs {x : Int} (ha : XV cx a e (eI x) c2 e1) : XV cx (.bi .abs (.cons a .nil)) e (eI (if x < 0 then -x else x)) .dp e1 := b1 ha fun f => rfl
theorem v_int {x : Int} (ha : XV cx a e (eI x) c2 e1) : XV cx (.bi .int (.cons a .nil)) e (eI x) .dp e1 := b1 ha fun f => rfl
theorem v_min {x y : Int} (ha : XV cx a e (eI x) c1 e1) (hb : XV cx b e1 (eI y) c2 e2) (hp : pur b = true) : XV cx (.bi .min2 (.cons a (.cons b .nil))) e (eI (if y < x then y else x)) .dp e2 := b2 ha hb hp fun f g => rfl
theorem v_max {x y : Int} (ha : XV cx a e (eI x) c1 e1) (hb : XV cx b e1 (eI y) c2 e2) (hp : pur b = true) : XV cx (.bi .max2 (.cons a (.cons b .nil))) e (eI (if y > x then y else x)) .dp e2 := b2 ha hb hp fun f g => rfl
theorem intsOf_map : ∀ xs : List Int, intsOf (xs.map D.int) = some xs
  | [] => rfl
  | x :: xs => by simp only [List.map_cons, intsOf, intsOf_map xs, Option.map]
theorem blsOf_map : ∀ xs : List Bool, blsOf (xs.map D.bl) = some xs
  | [] => rfl
  | x :: xs => by simp only [List.map_cons, blsOf, blsOf_map xs, Option.map]
theorem v_sum {xs : List Int} (ha : XV cx a e (eL eI xs) c2 e1) : XV cx (.bi .sum (.cons a .nil)) e (eI xs.sum) .dp e1 := b1 ha fun f => by
  simp only [eL, biS, show intsOf (xs.map eI) = some xs from intsOf_map xs, Option.map]; rfl
theorem v_sorted {xs : List Int} (ha : XV cx a e (eL eI xs) c2 e1) : XV cx (.bi .sorted (.cons a .nil)) e (eL eI (sortI xs)) .dp e1 := b1 ha fun f => by
  simp only [eL, biS, show intsOf (xs.map eI) = some xs from intsOf_map xs, Option.map]; rfl
theorem v_all {xs : List Bool} (ha : XV cx a e (eL eB xs) c2 e1) : XV cx (.bi .all (.cons a .nil)) e (eB (xs.all id)) .dp e1 := b1 ha fun f => by
  simp only [eL, biS, show blsOf (xs.map eB) = some xs from blsOf_map xs, Option.map]; rfl
theorem v_any {xs : List Bool} (ha : XV cx a e (eL eB xs) c2 e1) : XV cx (.bi .any (.cons a .nil)) e (eB (xs.any id)) .dp e1 := b1 ha fun f => by
  simp only [eL, biS, show blsOf (xs.map eB) = some xs from blsOf_map xs, Option.map]; rfl
theorem v_listL {xs : List α} (ha : XV cx a e (eL en xs) c2 e1) (nm : NM en) : XV cx (.bi .list (.cons a .nil)) e (eL en xs) .dp e1 := b1 ha fun f => by
  simp only [eL, biS, escs, noMuts_map nm, if_true, Option.map]
theorem v_listT {xs : List α} (ha : XV cx a e (eT en xs) c2 e1) (nm : NM en) : XV cx (.bi .list (.cons a .nil)) e (eL en xs) .dp e1 := b1 ha fun f => by
  simp only [eL, eT, biS, escs, noMuts_map nm, if_true, Option.map]
theorem v_tupleL {xs : List α} (ha : XV cx a e (eL en xs) c2 e1) (nm : NM en) : XV cx (.bi .tuple (.cons a .nil)) e (eT en xs) .dp e1 := b1 ha fun f => by
  simp only [eL, eT, biS, escs, noMuts_map nm, if_true, Option.map]
theorem v_tupleT {xs : List α} (ha : XV cx a e (eT en xs) c2 e1) : XV cx (.bi .tuple (.cons a .nil)) e (eT en xs) c2 e1 := by
  obtain ⟨f, o, h1⟩ := ha
  refine ⟨f, o, ?_⟩
  simp only [evE, evL, h1, R.bind, pures, Bool.not_true, Bool.and_false, Bool.false_eq_true, if_false, eT, biS, R.of]
theorem v_isi {ty : Ty} {r : Bool} (ha : XV cx a e d c1 e1) (h : tyS d ty = some r) : XV cx (.isi a ty) e (eB r) .dp e1 := by
  obtain ⟨f, o, h1⟩ := ha
  exact ⟨.deep, rfl, by simp only [evE, h1, R.bind, h, R.of]; rfl⟩
/-! what is walked -/
def IV (cx : CX) (it : PI) (still : Bool) (e : En) (ds : List D) (e' : En) : Prop := evI cx it still e = .ok ds e'
def RI (cx : CX) (it : PI) (still : Bool) (e : En) (m : Option (List α)) (en : α → D) (e' : En) : Prop := ∀ xs, m = some xs → IV cx it still e (xs.map en) e'
def rngO (a b : Int) : Option (List Int) := if rgOk a = true ∧ rgOk b = true then some ((List.range (b - a).toNat).map fun (i : Nat) => a + (i : Int)) else none
theorem items_nb {f : Fl} {xs : List D} {still : Bool} (h : f ≠ .bor) : itemsS (.lst xs, f) still = some xs ∧ itemsS (.tup xs, f) still = some xs := by
  cases f <;> first | exact ⟨rfl, rfl⟩ | exact absurd rfl h
theorem i_L {still : Bool} {xs : List α} (ha : XV cx a e (eL en xs) c1 e1) (h : c1.isAn = false) : IV cx (.vl a) still e (xs.map en) e1 := by
  obtain ⟨f, o, h1⟩ := ha
  show evI _ _ _ _ = _
  simp only [evI, h1, R.bind, eL, (items_nb (Cl.nb' o h)).1, R.of]
theorem i_T {still : Bool} {xs : List α} (ha : XV cx a e (eT en xs) c1 e1) (h : c1.isAn = false) : IV cx (.vl a) still e (xs.map en) e1 := by
  obtain ⟨f, o, h1⟩ := ha
  show evI _ _ _ _ = _
  simp only [evI, h1, R.bind, eT, (items_nb (Cl.nb' o h)).2, R.of]
theorem items_an {f : Fl} {xs : List D} (h : noMuts xs = true) : itemsS (.lst xs, f) true = some xs ∧ ∀ s, itemsS (.tup xs, f) s = some xs := by
  cases f <;> simp [itemsS, h]
theorem i_Ls {xs : List α} (ha : XV cx a e (eL en xs) c1 e1) (nm : NM en) : IV cx (.vl a) true e (xs.map en) e1 := by
  obtain ⟨f, o, h1⟩ := ha
  show evI _ _ _ _ = _
  simp only [evI, h1, R.bind, eL, (items_an (noMuts_map nm xs)).1, R.of]
theorem i_Ts {still : Bool} {xs : List α} (ha : XV cx a e (eT en xs) c1 e1) (nm : NM en) : IV cx (.vl a) still e (xs.map en) e1 := by
  obtain ⟨f, o, h1⟩ := ha
  show evI _ _ _ _ = _
  simp only [evI, h1, R.bind, eT, (items_an (noMuts_map nm xs)).2, R.of]
theorem i_P {still : Bool} (ha : XV cx a e (.tup ds) c1 e1) (h : c1.isAn = false) : IV cx (.vl a) still e ds e1 := by
  obtain ⟨f, o, h1⟩ := ha
  show evI _ _ _ _ = _
  simp only [evI, h1, R.bind, (items_nb (Cl.nb' o h)).2, R.of]
theorem ri_of {it : PI} {still : Bool} {xs : List α} (h : IV cx it still e (xs.map en) e1) : RI cx it still e (some xs) en e1 := fun ys hy => by cases hy; exact h
theorem ri_bind {it : PI} {still : Bool} {m : Option α} {k : α → Option (List β)} (ha : RX cx a e m en c1 e1) (hk : ∀ x, XV cx a e (en x) c1 e1 → RI cx it still e (k x) em e3) : RI cx it still e (m.bind k) em e3 := fun y hy => by
  cases m with
  | none => cases hy
  | some x => exact hk x (ha x rfl) y hy
theorem rngL_map (lo : Int) (n : Nat) : rangeL lo n = ((List.range n).map fun (i : Nat) => lo + (i : Int)).map eI := by
  unfold rangeL
  rw [List.map_map]; rfl
theorem i_rg1 {still : Bool} {k : Int} (ha : XV cx a e (eI k) c1 e1) : RI cx (.rg1 a) still e (rngO 0 k) eI e1 := fun xs hx => by
  unfold rngO at hx
  split at hx
  · rename_i q
    cases hx
    obtain ⟨f, o, h1⟩ := ha
    show evI _ _ _ _ = _
    simp only [evI, h1, R.bind, eI, q.2, if_true, rngL_map, Int.sub_zero]
  · cases hx
theorem i_rg2 {still : Bool} {k l : Int} (ha : XV cx a e (eI k) c1 e1) (hb : XV cx b e1 (eI l) c2 e2) : RI cx (.rg2 a b) still e (rngO k l) eI e2 := fun xs hx => by
  unfold rngO at hx
  split at hx
  · rename_i q
    cases hx
    obtain ⟨f, o, h1⟩ := ha
    obtain ⟨g, o', h2⟩ := hb
    show evI _ _ _ _ = _
    simp only [evI, h1, h2, R.bind, eI, q.1, q.2, Bool.and_self, if_true, rngL_map]
  · cases hx
theorem zipD_map : ∀ (xs : List α) (ys : List β), zipD (xs.map en) (ys.map em) = (xs.zip ys).map (eP2 en em)
  | [], [] => rfl
  | [], _ :: _ => rfl
  | _ :: _, [] => rfl
  | x :: xs, y :: ys => by simp only [List.map_cons, zipD, List.zip_cons_cons, zipD_map xs ys]; rfl
theorem i_zipL {still : Bool} {xs : List α} {ys : List β} (ha : XV cx a e (eL en xs) c1 e1) (hb : XV cx b e1 (eL em ys) c2 e2) (h1 : c1.isAn = false) (h2 : c2.isAn = false) : IV cx (.zip a b) still e ((xs.zip ys).map (eP2 en em)) e2 := by
  obtain ⟨f, o, q1⟩ := ha
  obtain ⟨g, o', q2⟩ := hb
  show evI _ _ _ _ = _
  have n : ¬ (decide (f = Fl.bor) && !pur b) = true := by simp [Cl.nb' o h1]
  simp only [evI, q1, R.bind, q2, eL, sameSeq, if_true, (items_nb (Cl.nb' o h1)).1, (items_nb (Cl.nb' o' h2)).1, R.of, if_neg n, zipD_map]
theorem i_zipT {still : Bool} {xs : List α} {ys : List β} (ha : XV cx a e (eT en xs) c1 e1) (hb : XV cx b e1 (eT em ys) c2 e2) (h1 : c1.isAn = false) (h2 : c2.isAn = false) : IV cx (.zip a b) still e ((xs.zip ys).map (eP2 en em)) e2 := by
  obtain ⟨f, o, q1⟩ := ha
  obtain ⟨g, o', q2⟩ := hb
  show evI _ _ _ _ = _
  have n : ¬ (decide (f = Fl.bor) && !pur b) = true := by simp [Cl.nb' o h1]
  simp only [evI, q1, R.bind, q2, eT, sameSeq, if_true, (items_nb (Cl.nb' o h1)).2, (items_nb (Cl.nb' o' h2)).2, R.of, if_neg n, zipD_map]
theorem i_enm {still : Bool} {xs : List α} (ha : XV cx a e (eL en xs) c1 e1) (h1 : c1.isAn = false) : IV cx (.enm a) still e ((((List.range xs.length).map fun (i : Nat) => (0 : Int) + (i : Int)).zip xs).map (eP2 eI en)) e1 := by
  obtain ⟨f, o, q1⟩ := ha
  show evI _ _ _ _ = _
  simp only [evI, q1, R.bind, eL, isLst, if_true, (items_nb (Cl.nb' o h1)).1, R.of, List.length_map, rngL_map, zipD_map]
theorem i_rvL {still : Bool} {xs : List α} (ha : XV cx a e (eL en xs) c1 e1) (h1 : c1.isAn = false) : IV cx (.rv a) still e (xs.reverse.map en) e1 := by
  obtain ⟨f, o, q1⟩ := ha
  show evI _ _ _ _ = _
  simp only [evI, q1, R.bind, eL, (items_nb (Cl.nb' o h1)).1, R.of, List.map_reverse]
theorem i_rvT {still : Bool} {xs : List α} (ha : XV cx a e (eT en xs) c1 e1) (h1 : c1.isAn = false) : IV cx (.rv a) still e (xs.reverse.map en) e1 := by
  obtain ⟨f, o, q1⟩ := ha
  show evI _ _ _ _ = _
  simp only [evI, q1, R.bind, eT, (items_nb (Cl.nb' o h1)).2, R.of, List.map_reverse]
theorem v_lrng {it : PI} {xs : List Int} (h : IV cx it false e (xs.map eI) e1) (hl : xs.length ≤ 16777216) : XV cx (.lrng it) e (eL eI xs) .dp e1 := by
  have h : evI _ _ _ _ = _ := h
  refine ⟨.deep, rfl, ?_⟩
  simp only [evE, h, R.bind, List.length_map, if_pos (show xs.length ≤ sizeLine by rw [sizeLine_eq]; exact hl), eL]
theorem p_lrng {it : PI} {m : Option (List Int)} (h : RI cx it false e m eI e1) : RX cx (.lrng it) e (m.bind szO) (eL eI) .dp e1 := fun x hx => by
  cases m with
  | none => cases hx
  | some ys =>
    have hx : szO ys = some x := hx
    unfold szO at hx
    split at hx
    · cases hx; rename_i q; exact v_lrng (h _ rfl) q
    · cases hx
theorem p_trng {it : PI} {m : Option (List Int)} (h : RI cx it false e m eI e1) : RX cx (.trng it) e (m.bind szO) (eT eI) .dp e1 := fun x hx => by
  cases m with
  | none => cases hx
  | some ys =>
    have hx : szO ys = some x := hx
    unfold szO at hx
    split at hx
    · cases hx
      rename_i q
      have h : evI _ _ _ _ = _ := h _ rfl
      refine ⟨.deep, rfl, ?_⟩
      simp only [evE, h, R.bind, List.length_map, if_pos (show x.length ≤ sizeLine by rw [sizeLine_eq]; exact q), eT]
    · cases hx
end
end
end Rf

/-! Rf3: calls, targets, comprehensions, statements. -/
namespace Rf
noncomputable section
open PySem L2 Ev
section
variable {cx : CX} {a b c t : PX} {es : PXs} {e e1 e2 e3 : En} {d d1 d2 d3 : D} {ds : List D} {c1 c2 c3 : Cl} {cs : List Cl} {α β γ σ U : Type} {en : α → D} {em : β → D}
/-! calls -/
def isIo : PX → Bool
  | .io _ => true
  | _ => false
def noIo : PXs → Bool
  | .nil => true
  | .cons a es => !isIo a && noIo es
theorem evA_noIo : ∀ {es : PXs} {e : En}, noIo es = true → evA cx es e = evL cx es e
  | .nil, e, _ => by simp only [evA, evL]
  | .cons a es, e, h => by
    simp only [noIo, Bool.and_eq_true, Bool.not_eq_true'] at h
    have ih : ∀ e, evA cx es e = evL cx es e := fun e => evA_noIo h.2
    cases a <;> first
      | (simp only [evA, evL, ih]; congr 1; funext x e1; congr 1; congr 1; funext y e2; obtain ⟨x, f⟩ := x; cases f <;> rfl)
      | (exact absurd h.1 (by simp [isIo]))
theorem ioSet_noIo : ∀ {es : PXs} {e : En} {k : Nat} {outs : List (Nat × Vl)}, noIo es = true → ioSet outs k es e = e
  | .nil, e, k, outs, _ => by simp only [ioSet]
  | .cons a es, e, k, outs, h => by
    simp only [noIo, Bool.and_eq_true, Bool.not_eq_true'] at h
    have ih : ∀ k, ioSet outs k es e = e := fun k => ioSet_noIo h.2
    cases a <;> first
      | (simp only [ioSet, ih]; done)
      | (exact absurd h.1 (by simp [isIo]))
/-- what a def returns -/
def SPc (cx : CX) (f : Nat) (ds : List D) (d : D) (c : Cl) : Prop := ∀ vs : List Vl, vs.map (·.1) = ds → ∃ g, c.ok g ∧ cx.call f vs = .ok (d, g) []
def SPn (fs : Nat → Option Fn) (n f : Nat) (ds : List D) (d : D) (c : Cl) : Prop := ∀ vs : List Vl, vs.map (·.1) = ds → ∃ g, c.ok g ∧ callF whR fs n f vs = .ok (d, g) []
theorem unb_map (vs : List Vl) : (vs.map unb).map (·.1) = vs.map (·.1) := by
  rw [List.map_map]
  congr 1
  funext v
  obtain ⟨d, f⟩ := v
  cases f <;> rfl
theorem free_dp : free (d, .deep) = true := by cases d <;> rfl
theorem free_nm {f : Fl} (h : noMut d = true) : free (d, f) = true := by
  cases d <;> cases f <;> first | rfl | exact h | (exfalso; simp [noMut] at h; done)
theorem p_call {f : Nat} {m : Option β} (ha : VL cx es e ds cs e1) (hn : noIo es = true) (hf : ∀ r, m = some r → SPc cx f ds (em r) c1) (hx : (cs.all (!·.isAn)) = true ∨ c1 = .dp ∨ NM em) : RX cx (.call f es) e m em c1 e1 := fun r hr => by
  obtain ⟨vs, h1, h2, h3⟩ := ha
  obtain ⟨g, o, h4⟩ := hf r hr (vs.map unb) (by rw [unb_map, h2])
  refine ⟨g, o, ?_⟩
  have hc : ((vs.all fun a => decide (a.2 ≠ Fl.bor)) || free (em r, g) && ([] : List (Nat × Vl)).all fun o => free o.2) = true := by
    rw [Bool.or_eq_true]
    rcases hx with h | rfl | h
    · exact .inl (fs_nb h3 h)
    · have : g = .deep := o
      subst this
      exact .inr (by rw [free_dp]; rfl)
    · exact .inr (by rw [free_nm (h r)]; rfl)
  simp only [evE, evA_noIo hn, h1, R.bind, h4, hc, if_true, ioSet_noIo hn]
/-! targets -/
def AT (pin : List Nat) (t : PT) (d : D) (c : Cl) (e e' : En) : Prop := ∀ f, c.ok f → asgN pin t (d, f) e = some e'
def ATs (pin : List Nat) (ts : PTs) (ds : List D) (c : Cl) (e e' : En) : Prop := ∀ f, c.ok f → asgNs pin ts ds f e = some e'
variable {pin : List Nat} {ts : PTs} {tg : PT}
theorem at_nm {i : Nat} (hp : pin.contains i = false) (hl : i < e.length) (h : c1.isAn = false) : AT pin (.nm i false) d c1 e (e.set i (some (d, .fro))) := fun f o => by
  obtain ⟨g, h1, _⟩ := esc_nb (d := d) (Cl.nb' o h)
  simp only [asgN, hp, Bool.false_eq_true, if_false, bindN, h1, if_pos hl]
theorem at_nmM {i : Nat} (hp : pin.contains i = false) (hl : i < e.length) (h : noMut d = true) : AT pin (.nm i false) d c1 e (e.set i (some (d, .fro))) := fun f o => by
  simp only [asgN, hp, Bool.false_eq_true, if_false, bindN, esc_nm h, if_pos hl]
theorem at_nmK {i : Nat} (hp : pin.contains i = false) (hl : i < e.length) : AT pin (.nm i true) d .dp e (e.set i (some (d, .deep))) := fun f o => by
  have o : f = .deep := o
  subst o
  obtain ⟨g, h1, h2⟩ := esc_nb (d := d) (f := .deep) (by decide)
  have : g = .deep := h2.elim id id
  subst this
  simp only [asgN, hp, Bool.false_eq_true, if_false, bindN, h1, if_pos hl, if_true]; rfl
theorem at_tp (h : c1.isAn = false) (hs : ATs pin ts ds (if c1 = .dp then .dp else .nb) e e1) : AT pin (.tp ts) (.tup ds) c1 e e1 := fun f o => by
  have : ∃ f', escs ds f = some f' ∧ (f' = .deep ∨ f' = f) := by
    unfold escs
    by_cases hn : noMuts ds = true
    · exact ⟨.deep, by simp [hn], .inl rfl⟩
    · refine ⟨f, ?_, .inr rfl⟩
      simp only [hn]
      have := Cl.nb' o h
      cases f <;> simp_all
  obtain ⟨f', h1, h2⟩ := this
  simp only [asgN, h1]
  refine hs _ ?_
  have nb := Cl.nb' o h
  by_cases hd : c1 = .dp
  · subst hd
    have o : f = .deep := o
    subst o
    have : f' = .deep := h2.elim id id
    subst this
    exact (rfl : keepFl .deep (elFl .deep) = .deep)
  · rw [if_neg hd]
    show keepFl f (elFl f') ≠ .bor
    unfold keepFl
    split
    · decide
    · rcases h2 with rfl | rfl
      · decide
      · cases f' <;> first | decide | exact absurd rfl nb
theorem ats_nil : ATs pin .nil [] c1 e e := fun f o => by simp only [asgNs]
theorem ats_cons (h : AT pin tg d c1 e e1) (hs : ATs pin ts ds c1 e1 e2) : ATs pin (.cons tg ts) (d :: ds) c1 e e2 := fun f o => by
  simp only [asgNs, h f o, hs f o]
/-! comprehensions -/
def lcM (p : α → Option Bool) (f : α → Option β) : List α → Option (List β)
  | [] => some []
  | x :: xs => (p x).bind fun b => if b = true then (f x).bind fun y => (lcM p f xs).bind fun ys => some (y :: ys) else lcM p f xs
theorem lcM_total {p : α → Option Bool} {f : α → Option β} {q : α → Bool} {g : α → β} : ∀ {xs : List α}, (∀ x ∈ xs, p x = some (q x)) → (∀ x ∈ xs, q x = true → f x = some (g x)) → lcM p f xs = some ((xs.filter q).map g)
  | [], _, _ => rfl
  | x :: xs, h1, h2 => by
    have ih := lcM_total (xs := xs) (fun y hy => h1 y (List.mem_cons_of_mem _ hy)) (fun y hy => h2 y (List.mem_cons_of_mem _ hy))
    have e1 := h1 x List.mem_cons_self
    unfold lcM
    rw [e1, ih]
    cases hq : q x with
    | true => simp [h2 x List.mem_cons_self hq, List.filter_cons, hq]
    | false => simp [List.filter_cons, hq]
theorem lcM_map {f : α → Option β} {g : α → β} {xs : List α} (h2 : ∀ x ∈ xs, f x = some (g x)) : lcM (fun _ => some true) f xs = some (xs.map g) := by
  rw [lcM_total (q := fun _ => true) (g := g) (fun _ _ => rfl) (fun x hx _ => h2 x hx)]
  rw [List.filter_eq_self.mpr (fun _ _ => rfl)]
def RC (cx : CX) (cs : PXs) (e : En) (m : Option Bool) : Prop := ∀ r, m = some r → evC cx cs e = .ok r e
theorem rc_nil : RC cx .nil e (some true) := fun r hr => by cases hr; simp only [evC]
theorem rc_one {m : Option Bool} (h : RT cx a e m e) : RC cx (.cons a .nil) e m := fun r hr => by
  have := h r hr
  simp only [evC]
  exact this
theorem lc_go {bind : D → En → Option En} {cond : En → R Bool} {elt : En → R Vl} {own : List Nat} {p : α → Option Bool} {f : α → Option β} {E : α → En} {w : En} (nm : NM em)
    (hb : ∀ x, bind (en x) w = some (E x)) (hw : ∀ x, ownOk (E x) own = true ∧ wipeE (E x) own = w)
    (hc : ∀ x r, p x = some r → cond (E x) = .ok r (E x)) (he : ∀ x y, f x = some y → ∃ g, elt (E x) = .ok (em y, g) (E x)) :
    ∀ (xs : List α) (acc : List D) (ys : List β) (e : En), ownOk e own = true → wipeE e own = w → lcM p f xs = some ys → acc.length + ys.length ≤ 16777216 →
      ∃ e', lcGo bind cond elt own (xs.map en) acc .deep e = .ok (.lst (acc ++ ys.map em), .deep) e' ∧ (e' = e ∨ ∃ x, e' = E x)
  | [], acc, ys, e, ho, hwe, hm, hl => by
    cases hm
    refine ⟨e, ?_, .inl rfl⟩
    simp [lcGo, ho]
  | x :: xs, acc, ys, e, ho, hwe, hm, hl => by
    unfold lcM at hm
    cases hp : p x with
    | none => rw [hp] at hm; cases hm
    | some r =>
      rw [hp] at hm
      have hc' := hc x r hp
      cases r with
      | false =>
        have hm : lcM p f xs = some ys := hm
        obtain ⟨e', h1, h2⟩ := lc_go nm hb hw hc he xs acc ys (E x) (hw x).1 (hw x).2 hm hl
        refine ⟨e', ?_, .inr (h2.elim (fun z => ⟨x, z⟩) id)⟩
        rw [List.map_cons]
        conv => lhs; unfold lcGo
        simp only [ho, if_true, hwe, hb, hc', R.bind, Bool.false_eq_true, if_false, h1]
      | true =>
        have hm : ((f x).bind fun y => (lcM p f xs).bind fun ys => some (y :: ys)) = some ys := hm
        cases hf : f x with
        | none => rw [hf] at hm; cases hm
        | some y =>
          rw [hf] at hm
          have hm : ((lcM p f xs).bind fun ys => some (y :: ys)) = some ys := hm
          cases hr : lcM p f xs with
          | none => rw [hr] at hm; cases hm
          | some zs =>
            rw [hr] at hm
            cases hm
            rw [List.length_cons] at hl
            obtain ⟨g, he'⟩ := he x y hf
            obtain ⟨e', h1, h2⟩ := lc_go nm hb hw hc he xs (acc ++ [em y]) zs (E x) (hw x).1 (hw x).2 hr (by rw [List.length_append, List.length_singleton]; omega)
            refine ⟨e', ?_, .inr (h2.elim (fun z => ⟨x, z⟩) id)⟩
            rw [List.map_cons]
            conv => lhs; unfold lcGo
            simp only [ho, if_true, hwe, hb, hc', R.bind, he', esc_nm (nm y), if_pos (show acc.length < sizeLine by rw [sizeLine_eq]; omega), catFl, h1]
            simp
theorem p_lc {it : PI} {cs : PXs} {own : List Nat} {m : Option (List α)} {p : α → Option Bool} {f : α → Option β} {E : α → En} (hi : RI cx it (pur a && pures cs) e m en e1) (ho : ownOk e1 own = true) (hs : (ptSlots tg).all own.contains = true) (nm : NM em)
    (hb : ∀ x, AT [] tg (en x) .nb (wipeE e1 own) (E x)) (hw : ∀ x, ownOk (E x) own = true ∧ wipeE (E x) own = wipeE e1 own) (hk : ∀ x, backE (E x) e1 own = e1) (hk0 : backE e1 e1 own = e1)
    (hc : ∀ x, RC cx cs (E x) (p x)) (he : ∀ x, RX cx a (E x) (f x) em c2 (E x)) : RX cx (.lc tg it cs a own) e (m.bind fun xs => (lcM p f xs).bind szO) (eL em) .dp e1 := fun r hr => by
  cases m with
  | none => cases hr
  | some xs =>
    have hr : (lcM p f xs).bind szO = some r := hr
    cases hl : lcM p f xs with
    | none => rw [hl] at hr; cases hr
    | some ys =>
      rw [hl] at hr
      have hr : szO ys = some r := hr
      unfold szO at hr
      split at hr
      · rename_i q
        cases hr
        have h1 : evI _ _ _ _ = _ := hi xs rfl
        obtain ⟨e', h2, h3⟩ := lc_go (en := en) (bind := bindT tg) (cond := evC cx cs) (elt := evE cx a) nm (fun x => hb x .fro (by decide)) hw (fun x r h => hc x r h) (fun x y h => by
          obtain ⟨g, _, q⟩ := he x y h
          exact ⟨g, q⟩) xs [] r e1 ho rfl hl (by simpa using q)
        refine ⟨.deep, rfl, ?_⟩
        have hk' : backE e' e1 own = e1 := by
          rcases h3 with rfl | ⟨x, rfl⟩
          · exact hk0
          · exact hk x
        simp only [evE, h1, R.bind, ho, hs, Bool.and_self, if_true]
        rw [show lcGo (bindT tg) (evC cx cs) (evE cx a) own (List.map en xs) [] .deep e1 = _ from h2]
        simp only [R.bind, hk', List.nil_append, eL]
      · cases hr
/-! ### statements -/
structure KS (β : Type) where
  nx : En → β → Prop
  bk : En → β → Prop
  ct : En → β → Prop
  rt : Vl → En → β → Prop
def KS.hold (k : KS β) (o : β) : RS → Prop
  | .nx e => k.nx e o
  | .bk e => k.bk e o
  | .ct e => k.ct e o
  | .rt v e => k.rt v e o
  | _ => False
inductive Lo (σ β : Type) where
  | nx (s : σ) | bk (s : σ) | ex (o : β)
inductive J (σ β : Type) where
  | nx (s : σ) | ex (o : β)
@[reducible] def J.go (g : σ → Option β) : J σ β → Option β
  | .nx s => g s
  | .ex o => some o
/-- a def's body -/
@[reducible] def kF (en : β → D) (c : Cl) : KS β := ⟨fun _ _ => False, fun _ _ => False, fun _ _ => False, fun v _ o => v.1 = en o ∧ c.ok v.2⟩
/-- a loop's body -/
@[reducible] def kL (E : σ → U → En) (k : KS β) : KS (Lo σ β) := ⟨fun e o => ∃ s u, o = .nx s ∧ e = E s u, fun e o => ∃ s u, o = .bk s ∧ e = E s u, fun e o => ∃ s u, o = .nx s ∧ e = E s u, fun v e o => ∃ b, o = .ex b ∧ k.rt v e b⟩
/-- a loop's body that never leaves -/
@[reducible] def kG (E : σ → U → En) : KS σ := ⟨fun e s => ∃ u, e = E s u, fun _ _ => False, fun e s => ∃ u, e = E s u, fun _ _ _ => False⟩
/-- a branch -/
@[reducible] def kJ (E : σ → U → En) (k : KS β) : KS (J σ β) := ⟨fun e o => ∃ s u, o = .nx s ∧ e = E s u, fun e o => ∃ b, o = .ex b ∧ k.bk e b, fun e o => ∃ b, o = .ex b ∧ k.ct e b, fun v e o => ∃ b, o = .ex b ∧ k.rt v e b⟩
@[reducible] def kB (E : σ → U → En) : KS σ := ⟨fun e s => ∃ u, e = E s u, fun _ _ => False, fun _ _ => False, fun _ _ _ => False⟩
@[reducible] def kX (k : KS β) : KS β := ⟨fun _ _ => False, k.bk, k.ct, k.rt⟩
def BX (cx : CX) (ss : PSs) (e : En) (m : Option β) (k : KS β) : Prop := ∀ o, m = some o → k.hold o (evSs cx ss e)
variable {ss A B : PSs} {s : PS} {m : Option β} {k : KS β}
theorem b_nil {o : β} (h : k.nx e o) : BX cx .nil e (some o) k := fun o' ho => by cases ho; simp only [evSs]; exact h
theorem b_bind {m : Option α} {g : α → Option β} (ha : RX cx a e m en c1 e1) (hk : ∀ x, XV cx a e (en x) c1 e1 → BX cx ss e (g x) k) : BX cx ss e (m.bind g) k := fun y hy => by
  cases m with
  | none => cases hy
  | some x => exact hk x (ha x rfl) y hy
theorem b_bindT {m : Option Bool} {g : Bool → Option β} (ha : RT cx a e m e1) (hk : ∀ x, TV cx a e x e1 → BX cx ss e (g x) k) : BX cx ss e (m.bind g) k := fun y hy => by
  cases m with
  | none => cases hy
  | some x => exact hk x (ha x rfl) y hy
theorem b_bindI {it : PI} {still : Bool} {m : Option (List α)} {g : List α → Option β} (ha : RI cx it still e m en e1) (hk : ∀ x, IV cx it still e (x.map en) e1 → BX cx ss e (g x) k) : BX cx ss e (m.bind g) k := fun y hy => by
  cases m with
  | none => cases hy
  | some x => exact hk x (ha x rfl) y hy
theorem b_step (h : evS cx s e = .nx e1) (hk : BX cx ss e1 m k) : BX cx (.cons s ss) e m k := fun o ho => by
  simp only [evSs, h, RS.bind]
  exact hk o ho
def isSub : PT → Bool
  | .sub _ _ => true
  | _ => false
theorem s_asg (hv : XV cx a e d c1 e1) (ha : AT cx.pin tg d c1 e1 e2) (ht : isSub tg = false) : evS cx (.asg tg a) e = .nx e2 := by
  obtain ⟨f, o, h1⟩ := hv
  have h2 := ha f o
  cases tg with
  | sub o i => cases ht
  | nm i kp => simp only [evS, h1, R.toS, h2]
  | tp ts => simp only [evS, h1, R.toS, h2]
theorem b_asg (hv : XV cx a e d c1 e1) (ha : AT cx.pin tg d c1 e1 e2) (ht : isSub tg = false) (hk : BX cx ss e2 m k) : BX cx (.cons (.asg tg a) ss) e m k := b_step (s_asg hv ha ht) hk
theorem b_exp (hv : XV cx a e d c1 e1) (hk : BX cx ss e1 m k) : BX cx (.cons (.exp a) ss) e m k := b_step (by
  obtain ⟨f, o, h1⟩ := hv
  simp only [evS, h1, R.toS]) hk
theorem b_pas (hk : BX cx ss e m k) : BX cx (.cons .pas ss) e m k := b_step (by simp only [evS]) hk
def appO (xs : List α) (x : α) : Option (List α) := if xs.length < 16777216 then some (xs ++ [x]) else none
/-- x.append(..), x a name -/
theorem s_app {i : Nat} {xs ys : List α} {x : α} (h0 : cellAt e i = some (eL en xs, .deep)) (hv : XV cx a e (en x) c1 e) (nm : NM en) (hy : appO xs x = some ys) : evS cx (.exp (.mu .append (.nm i) (.cons a .nil))) e = .nx (e.set i (some (eL en ys, .deep))) := by
  obtain ⟨f, o, h1⟩ := hv
  unfold appO at hy
  split at hy
  · rename_i q
    cases hy
    simp only [evS, evE, evP, evL, h0, h1, R.bind, R.toS, eL, isLst, List.isEmpty, Bool.true_or, Bool.and_self, if_true, pures, Bool.not_true, Bool.and_false, Bool.false_eq_true, if_false, alter, muS, esc_nm (nm x), List.length_map, if_pos (show xs.length < sizeLine by rw [sizeLine_eq]; exact q), true_or, and_self, List.map_append, List.map_cons, List.map_nil, reduceCtorEq]
  · cases hy
theorem b_app {i : Nat} {xs : List α} {x : α} {g : List α → Option β} (h0 : cellAt e i = some (eL en xs, .deep)) (hv : XV cx a e (en x) c1 e) (nm : NM en) (hk : ∀ ys, BX cx ss (e.set i (some (eL en ys, .deep))) (g ys) k) : BX cx (.cons (.exp (.mu .append (.nm i) (.cons a .nil))) ss) e ((appO xs x).bind g) k := fun o ho => by
  cases hy : appO xs x with
  | none => rw [hy] at ho; cases ho
  | some ys =>
    rw [hy] at ho
    exact b_step (s_app h0 hv nm hy) (hk ys) o ho
/-- target = x.pop() -/
def popO (xs : List α) : Option (α × List α) := match xs.getLast? with
  | some x => some (x, xs.dropLast)
  | none => none
theorem e_pop {i : Nat} {xs ys : List α} {x : α} (h0 : cellAt e i = some (eL en xs, .deep)) (hy : popO xs = some (x, ys)) : XV cx (.mu .pop (.nm i) .nil) e (en x) .dp (e.set i (some (eL en ys, .deep))) := by
  unfold popO at hy
  cases hl : xs.getLast? with
  | none => rw [hl] at hy; cases hy
  | some z =>
    rw [hl] at hy
    cases hy
    refine ⟨.deep, rfl, ?_⟩
    have hl' : (xs.map en).getLast? = some (en x) := by rw [List.getLast?_map, hl]; rfl
    have hd : (xs.map en).dropLast = xs.dropLast.map en := by rw [List.map_dropLast]
    simp only [evE, evP, evL, h0, R.bind, eL, isLst, List.isEmpty, Bool.true_or, Bool.and_self, if_true, alter, muS, true_or, hl', hd]
    rfl
theorem b_pop {i : Nat} {xs : List α} {g : α × List α → Option β} (h0 : cellAt e i = some (eL en xs, .deep)) (hk : ∀ x ys, XV cx (.mu .pop (.nm i) .nil) e (en x) .dp (e.set i (some (eL en ys, .deep))) → BX cx ss e (g (x, ys)) k) : BX cx ss e ((popO xs).bind g) k := fun o ho => by
  cases hy : popO xs with
  | none => rw [hy] at ho; cases ho
  | some q =>
    obtain ⟨x, ys⟩ := q
    rw [hy] at ho
    exact hk x ys (e_pop h0 hy) o ho
/-- x.reverse(), x.clear() -/
theorem b_rev {i : Nat} {xs : List α} (h0 : cellAt e i = some (eL en xs, .deep)) (hk : BX cx ss (e.set i (some (eL en xs.reverse, .deep))) m k) : BX cx (.cons (.exp (.mu .reverse (.nm i) .nil)) ss) e m k := b_step (by
  simp only [evS, evE, evP, evL, h0, R.bind, R.toS, eL, isLst, List.isEmpty, Bool.true_or, Bool.and_self, if_true, alter, muS, true_or, List.map_reverse]) hk
theorem b_clr {i : Nat} {xs : List α} (h0 : cellAt e i = some (eL en xs, .deep)) (hk : BX cx ss (e.set i (some (eL en ([] : List α), .deep))) m k) : BX cx (.cons (.exp (.mu .clear (.nm i) .nil)) ss) e m k := b_step (by
  simp only [evS, evE, evP, evL, h0, R.bind, R.toS, eL, isLst, List.isEmpty, Bool.true_or, Bool.and_self, if_true, alter, muS, true_or, List.map_nil]) hk
/-- x.extend(list) -/
theorem b_ext {i : Nat} {xs ys : List α} {g : List α → Option β} (h0 : cellAt e i = some (eL en xs, .deep)) (hv : XV cx a e (eL en ys) c1 e) (nm : NM en) (hk : ∀ zs, BX cx ss (e.set i (some (eL en zs, .deep))) (g zs) k) : BX cx (.cons (.exp (.mu .extend (.nm i) (.cons a .nil))) ss) e ((catO xs ys).bind g) k := fun o ho => by
  cases hy : catO xs ys with
  | none => rw [hy] at ho; cases ho
  | some zs =>
    rw [hy] at ho
    obtain ⟨f, o', h1⟩ := hv
    unfold catO at hy
    split at hy
    · rename_i q
      cases hy
      refine b_step ?_ (hk _) o ho
      simp only [evS, evE, evP, evL, h0, h1, R.bind, R.toS, eL, isLst, List.isEmpty, Bool.true_or, Bool.and_self, if_true, pures, Bool.not_true, Bool.and_false, Bool.false_eq_true, if_false, alter, muS, escs, noMuts_map nm, List.length_map, if_pos (show xs.length + ys.length ≤ sizeLine by rw [sizeLine_eq]; exact q), true_or, and_self, List.map_append, reduceCtorEq]
    · cases hy
/-- x[k] = v, x a name of a list -/
def setO (xs : List α) (k : Int) (x : α) : Option (List α) := match ixN xs.length k with
  | some j => some (xs.set j x)
  | none => none
theorem b_set {i : Nat} {xs : List α} {x : α} {j : Int} {g : List α → Option β} (h0 : cellAt e i = some (eL en xs, .deep)) (hv : XV cx a e (en x) c1 e) (hj : XV cx b e (eI j) c2 e) (hp : pur b = true) (nm : NM en) (hk : ∀ ys, BX cx ss (e.set i (some (eL en ys, .deep))) (g ys) k) : BX cx (.cons (.asg (.sub (.nm i) b) a) ss) e ((setO xs j x).bind g) k := fun o ho => by
  cases hy : setO xs j x with
  | none => rw [hy] at ho; cases ho
  | some zs =>
    rw [hy] at ho
    obtain ⟨f, o', h1⟩ := hv
    obtain ⟨f2, o2, h2⟩ := hj
    unfold setO at hy
    cases hx : ixN xs.length j with
    | none => rw [hx] at hy; cases hy
    | some l =>
      rw [hx] at hy
      cases hy
      refine b_step ?_ (hk _) o ho
      simp only [evS, h1, R.toS, esc_nm (nm x), subE, evP, h0, hp, if_true, h2, eL, eI, alter, true_or, putS, esc_nm (nm x), List.length_map, hx, Option.map, and_self, List.map_set]
/-- x = x op y, x a number -/
theorem b_aug {i : Nat} {o : Operator} {x z : Int} {f : Fl} (hpin : cx.pin.contains i = false) (h0 : cellAt e i = some (eI x, f)) (hp : pur a = true) (hv : XV cx a e d1 c1 e) (hl : i < e.length) (hz : ∀ g, augS o (eI x, f) (d1, g) = some (eI z, .deep)) (hk : BX cx ss (e.set i (some (eI z, .fro))) m k) : BX cx (.cons (.aug i false o a) ss) e m k := b_step (by
  obtain ⟨g, o1, h1⟩ := hv
  simp only [evS, hpin, Bool.false_eq_true, if_false, h0, hp, if_true, h1, R.toS, hz, bindN, esc_nm (nmI z), if_pos hl]) hk
/-- return -/
theorem b_ret {o : β} (hv : XV cx a e d c1 e1) (nm : noMut d = true) (hk : k.rt (d, .deep) e1 o) : BX cx (.cons (.ret a) ss) e (some o) k := fun o' ho => by
  cases ho
  obtain ⟨f, o1, h1⟩ := hv
  simp only [evSs, evS, h1, R.toS, esc_nm nm, RS.bind]
  exact hk
theorem b_retM {o : β} (hv : XV cx a e d c1 e1) (n : c1.isAn = false) (hk : ∀ f, c1.ok f → k.rt (d, f) e1 o) (hk' : c1 = .dp ∨ k.rt (d, .deep) e1 o) : BX cx (.cons (.ret a) ss) e (some o) k := fun o' ho => by
  cases ho
  obtain ⟨f, o1, h1⟩ := hv
  obtain ⟨g, h2, h3⟩ := esc_nb (d := d) (Cl.nb' o1 n)
  simp only [evSs, evS, h1, R.toS, h2, RS.bind]
  rcases h3 with rfl | rfl
  · rcases hk' with rfl | h
    · exact hk .deep rfl
    · exact h
  · exact hk _ o1
theorem b_retN {o : β} (hk : k.rt (.non, .deep) e o) : BX cx (.cons .retN ss) e (some o) k := fun o' ho => by
  cases ho
  simp only [evSs, evS, RS.bind]
  exact hk
theorem b_brk {o : β} (h : k.bk e o) : BX cx (.cons .brk ss) e (some o) k := fun o' ho => by cases ho; simp only [evSs, evS, RS.bind]; exact h
theorem b_cnt {o : β} (h : k.ct e o) : BX cx (.cons .cnt ss) e (some o) k := fun o' ho => by cases ho; simp only [evSs, evS, RS.bind]; exact h
/-! if -/
theorem ife_eq {r : Bool} (ht : TV cx t e r e1) : evSs cx (.cons (.ife t A B) ss) e = (if r = true then evSs cx A e1 else evSs cx B e1).bind (evSs cx ss) := by
  have ht : (evE cx t e).tru = .ok r e1 := ht
  simp only [evSs, evS, ht, R.toS]
/-- a branch that leaves -/
theorem b_ifX {r : Bool} {mA : Option β} (ht : TV cx t e r e1) (hA : BX cx A e1 mA (kX k)) (hB : BX cx ss e1 m k) : BX cx (.cons (.ife t A .nil) ss) e (if r = true then mA else m) k := fun o ho => by
  rw [ife_eq ht]
  cases r with
  | true =>
    have h := hA o ho
    rw [if_pos rfl]
    cases q : evSs cx A e1 <;> rw [q] at h <;> first | exact h | exact h.elim
  | false =>
    rw [if_neg (by decide)]
    simp only [evSs, RS.bind]
    exact hB o ho
/-- both leave -/
theorem b_ifE {r : Bool} {mA mB : Option β} (ht : TV cx t e r e1) (hA : BX cx A e1 mA (kX k)) (hB : BX cx B e1 mB (kX k)) : BX cx (.cons (.ife t A B) ss) e (if r = true then mA else mB) k := fun o ho => by
  rw [ife_eq ht]
  cases r with
  | true =>
    have h := hA o ho
    rw [if_pos rfl]
    cases q : evSs cx A e1 <;> rw [q] at h <;> first | exact h | exact h.elim
  | false =>
    have h := hB o ho
    rw [if_neg (by decide)]
    cases q : evSs cx B e1 <;> rw [q] at h <;> first | exact h | exact h.elim
/-- both go on -/
theorem b_ifB {r : Bool} {mA mB : Option σ} {E : σ → U → En} {g : σ → Option β} (ht : TV cx t e r e1) (hA : BX cx A e1 mA (kB E)) (hB : BX cx B e1 mB (kB E)) (hk : ∀ s u, BX cx ss (E s u) (g s) k) : BX cx (.cons (.ife t A B) ss) e ((if r = true then mA else mB).bind g) k := fun o ho => by
  rw [ife_eq ht]
  have : ∀ (C : PSs) (mC : Option σ), BX cx C e1 mC (kB E) → mC.bind g = some o → k.hold o ((evSs cx C e1).bind (evSs cx ss)) := fun C mC hC h => by
    cases mC with
    | none => cases h
    | some s =>
      have h' := hC s rfl
      cases q : evSs cx C e1 <;> rw [q] at h' <;> first | exact h'.elim | skip
      obtain ⟨u, rfl⟩ := h'
      exact hk s u o h
  cases r with
  | true => exact this A mA hA ho
  | false => exact this B mB hB ho
/-- some leave, some go on -/
theorem b_ifJ {r : Bool} {mA mB : Option (J σ β)} {E : σ → U → En} {g : σ → Option β} (ht : TV cx t e r e1) (hA : BX cx A e1 mA (kJ E k)) (hB : BX cx B e1 mB (kJ E k)) (hk : ∀ s u, BX cx ss (E s u) (g s) k) : BX cx (.cons (.ife t A B) ss) e ((if r = true then mA else mB).bind (J.go g)) k := fun o ho => by
  rw [ife_eq ht]
  have : ∀ (C : PSs) (mC : Option (J σ β)), BX cx C e1 mC (kJ E k) → mC.bind (J.go g) = some o → k.hold o ((evSs cx C e1).bind (evSs cx ss)) := fun C mC hC h => by
    cases mC with
    | none => cases h
    | some j =>
      have h' := hC j rfl
      cases q : evSs cx C e1 <;> rw [q] at h' <;> first | exact h'.elim | skip
      · obtain ⟨s, u, rfl, rfl⟩ := h'
        exact hk s u o h
      · obtain ⟨b, rfl, h2⟩ := h'
        cases h
        exact h2
      · obtain ⟨b, rfl, h2⟩ := h'
        cases h
        exact h2
      · obtain ⟨b, rfl, h2⟩ := h'
        cases h
        exact h2
  cases r with
  | true => exact this A mA hA ho
  | false => exact this B mB hB ho
/-! for -/
def loopM (f : α → σ → Option (Lo σ β)) : List α → σ → Option (J σ β)
  | [], s => some (.nx s)
  | x :: xs, s => (f x s).bind fun
    | .nx s => loopM f xs s
    | .bk s => some (.nx s)
    | .ex o => some (.ex o)
def foldO (f : α → σ → Option σ) : List α → σ → Option σ
  | [], s => some s
  | x :: xs, s => (f x s).bind (foldO f xs)
theorem for_eq {it : PI} (hi : IV cx it false e ds e1) (hp : ((ptSlots tg).all fun i => !cx.pin.contains i) = true) : evSs cx (.cons (.for tg it A) ss) e = (forGo (bindT tg) (evSs cx A) ds e1).bind (evSs cx ss) := by
  have hi : evI cx it false e = .ok ds e1 := hi
  simp only [evSs, evS, hp, if_true, hi, R.toS]
theorem go_loop {E : σ → U → En} {E1 : α → σ → U → En} {f : α → σ → Option (Lo σ β)} (hb : ∀ x s u, AT [] tg (en x) .nb (E s u) (E1 x s u)) (hB : ∀ x s u, BX cx A (E1 x s u) (f x s) (kL E k)) :
    ∀ (xs : List α) (s : σ) (u : U) (j : J σ β), loopM f xs s = some j → match j with
      | .nx s' => ∃ u', forGo (bindT tg) (evSs cx A) (xs.map en) (E s u) = .nx (E s' u')
      | .ex o => ∃ v e', forGo (bindT tg) (evSs cx A) (xs.map en) (E s u) = .rt v e' ∧ k.rt v e' o
  | [], s, u, j, h => by
    cases h
    exact ⟨u, by simp only [List.map_nil, forGo]⟩
  | x :: xs, s, u, j, h => by
    unfold loopM at h
    have hbx : bindT tg (en x) (E s u) = some (E1 x s u) := hb x s u .fro (by decide)
    cases hf : f x s with
    | none => rw [hf] at h; cases h
    | some l =>
      rw [hf] at h
      have h1 := hB x s u l hf
      rw [List.map_cons]
      have eq : forGo (bindT tg) (evSs cx A) (en x :: xs.map en) (E s u) = match evSs cx A (E1 x s u) with
          | .nx e2 | .ct e2 => forGo (bindT tg) (evSs cx A) (xs.map en) e2
          | .bk e2 => .nx e2
          | r => r := by
        conv => lhs; unfold forGo
        rw [hbx] <;> rfl
      cases l with
      | nx s' =>
        have h : loopM f xs s' = some j := h
        cases q : evSs cx A (E1 x s u) with
        | nx e2 =>
          rw [q] at h1
          obtain ⟨s2, u2, e0, rfl⟩ := h1
          cases e0
          rw [eq, q]
          exact go_loop hb hB xs s' u2 j h
        | ct e2 =>
          rw [q] at h1
          obtain ⟨s2, u2, e0, rfl⟩ := h1
          cases e0
          rw [eq, q]
          exact go_loop hb hB xs s' u2 j h
        | bk e2 => rw [q] at h1; obtain ⟨s2, u2, e0, _⟩ := h1; cases e0
        | rt v e2 => rw [q] at h1; obtain ⟨b, e0, _⟩ := h1; cases e0
        | ex y e2 => rw [q] at h1; exact h1.elim
        | bad => rw [q] at h1; exact h1.elim
      | bk s' =>
        cases h
        cases q : evSs cx A (E1 x s u) with
        | nx e2 => rw [q] at h1; obtain ⟨s2, u2, e0, _⟩ := h1; cases e0
        | ct e2 => rw [q] at h1; obtain ⟨s2, u2, e0, _⟩ := h1; cases e0
        | bk e2 =>
          rw [q] at h1
          obtain ⟨s2, u2, e0, rfl⟩ := h1
          cases e0
          rw [eq, q]
          exact ⟨u2, rfl⟩
        | rt v e2 => rw [q] at h1; obtain ⟨b, e0, _⟩ := h1; cases e0
        | ex y e2 => rw [q] at h1; exact h1.elim
        | bad => rw [q] at h1; exact h1.elim
      | ex o =>
        cases h
        cases q : evSs cx A (E1 x s u) with
        | nx e2 => rw [q] at h1; obtain ⟨s2, u2, e0, _⟩ := h1; cases e0
        | ct e2 => rw [q] at h1; obtain ⟨s2, u2, e0, _⟩ := h1; cases e0
        | bk e2 => rw [q] at h1; obtain ⟨s2, u2, e0, _⟩ := h1; cases e0
        | rt v e2 =>
          rw [q] at h1
          obtain ⟨b, e0, h2⟩ := h1
          cases e0
          rw [eq, q]
          exact ⟨v, e2, rfl, h2⟩
        | ex y e2 => rw [q] at h1; exact h1.elim
        | bad => rw [q] at h1; exact h1.elim
theorem b_for {it : PI} {xs : List α} {E : σ → U → En} {E1 : α → σ → U → En} {f : α → σ → Option (Lo σ β)} {g : σ → Option β} {s0 : σ} (u0 : U) (hi : IV cx it false e (xs.map en) e1) (he : e1 = E s0 u0) (hp : ((ptSlots tg).all fun i => !cx.pin.contains i) = true)
    (hb : ∀ x s u, AT [] tg (en x) .nb (E s u) (E1 x s u)) (hB : ∀ x s u, BX cx A (E1 x s u) (f x s) (kL E k)) (hk : ∀ s u, BX cx ss (E s u) (g s) k) : BX cx (.cons (.for tg it A) ss) e ((loopM f xs s0).bind (J.go g)) k := fun o ho => by
  rw [for_eq hi hp, he]
  cases h : loopM f xs s0 with
  | none => rw [h] at ho; cases ho
  | some j =>
    rw [h] at ho
    have h1 := go_loop hb hB xs s0 u0 j h
    cases j with
    | nx s' =>
      obtain ⟨u', h2⟩ := h1
      rw [h2]
      exact hk s' u' o ho
    | ex o' =>
      obtain ⟨v, e', h2, h3⟩ := h1
      cases ho
      rw [h2]
      exact h3
theorem go_fold {E : σ → U → En} {E1 : α → σ → U → En} {f : α → σ → Option σ} (hb : ∀ x s u, AT [] tg (en x) .nb (E s u) (E1 x s u)) (hB : ∀ x s u, BX cx A (E1 x s u) (f x s) (kG E)) :
    ∀ (xs : List α) (s : σ) (u : U) (s' : σ), foldO f xs s = some s' → ∃ u', forGo (bindT tg) (evSs cx A) (xs.map en) (E s u) = .nx (E s' u')
  | [], s, u, j, h => by
    cases h
    exact ⟨u, by simp only [List.map_nil, forGo]⟩
  | x :: xs, s, u, j, h => by
    unfold foldO at h
    have hbx : bindT tg (en x) (E s u) = some (E1 x s u) := hb x s u .fro (by decide)
    cases hf : f x s with
    | none => rw [hf] at h; cases h
    | some l =>
      rw [hf] at h
      have h : foldO f xs l = some j := h
      have h1 := hB x s u l hf
      rw [List.map_cons]
      have eq : forGo (bindT tg) (evSs cx A) (en x :: xs.map en) (E s u) = match evSs cx A (E1 x s u) with
          | .nx e2 | .ct e2 => forGo (bindT tg) (evSs cx A) (xs.map en) e2
          | .bk e2 => .nx e2
          | r => r := by
        conv => lhs; unfold forGo
        rw [hbx] <;> rfl
      cases q : evSs cx A (E1 x s u) with
      | nx e2 =>
        rw [q] at h1
        obtain ⟨u2, rfl⟩ := h1
        rw [eq, q]
        exact go_fold hb hB xs l u2 j h
      | ct e2 =>
        rw [q] at h1
        obtain ⟨u2, rfl⟩ := h1
        rw [eq, q]
        exact go_fold hb hB xs l u2 j h
      | bk e2 => rw [q] at h1; exact h1.elim
      | rt v e2 => rw [q] at h1; exact h1.elim
      | ex y e2 => rw [q] at h1; exact h1.elim
      | bad => rw [q] at h1; exact h1.elim
theorem b_forG {it : PI} {xs : List α} {E : σ → U → En} {E1 : α → σ → U → En} {f : α → σ → Option σ} {g : σ → Option β} {s0 : σ} (u0 : U) (hi : IV cx it false e (xs.map en) e1) (he : e1 = E s0 u0) (hp : ((ptSlots tg).all fun i => !cx.pin.contains i) = true)
    (hb : ∀ x s u, AT [] tg (en x) .nb (E s u) (E1 x s u)) (hB : ∀ x s u, BX cx A (E1 x s u) (f x s) (kG E)) (hk : ∀ s u, BX cx ss (E s u) (g s) k) : BX cx (.cons (.for tg it A) ss) e ((foldO f xs s0).bind g) k := fun o ho => by
  rw [for_eq hi hp, he]
  cases h : foldO f xs s0 with
  | none => rw [h] at ho; cases ho
  | some s' =>
    rw [h] at ho
    obtain ⟨u', h2⟩ := go_fold hb hB xs s0 u0 s' h
    rw [h2]
    exact hk s' u' o ho
/-! while -/
def whF' (p : σ → Option Bool) (f : σ → Option (Lo σ β)) : Nat → σ → Option (J σ β)
  | 0, _ => none
  | n + 1, s => (p s).bind fun b => if b = true then (f s).bind fun
    | .nx s => whF' p f n s
    | .bk s => some (.nx s)
    | .ex o => some (.ex o) else some (.nx s)
open Classical in
def whU (p : σ → Option Bool) (f : σ → Option (Lo σ β)) (s : σ) : Option (J σ β) := if h : ∃ n j, whF' p f n s = some j then some h.choose_spec.choose else none
theorem whU_ex {p : σ → Option Bool} {f : σ → Option (Lo σ β)} {s : σ} {j : J σ β} (h : whU p f s = some j) : ∃ n, whF' p f n s = some j := by
  unfold whU at h
  split at h
  · rename_i q
    cases h
    exact ⟨_, q.choose_spec.choose_spec⟩
  · cases h
theorem whF'_mono {p : σ → Option Bool} {f : σ → Option (Lo σ β)} : ∀ {n m : Nat} {s : σ} {j : J σ β}, whF' p f n s = some j → n ≤ m → whF' p f m s = some j
  | 0, _, _, _, h, _ => by cases h
  | n + 1, 0, _, _, _, h => by omega
  | n + 1, m + 1, s, j, h, l => by
    unfold whF' at h ⊢
    cases hp : p s with
    | none => rw [hp] at h; cases h
    | some b =>
      rw [hp] at h
      cases b with
      | false => exact h
      | true =>
        have h : ((f s).bind fun
          | .nx s => whF' p f n s
          | .bk s => some (.nx s)
          | .ex o => some (.ex o)) = some j := h
        show ((f s).bind fun
          | .nx s => whF' p f m s
          | .bk s => some (.nx s)
          | .ex o => some (.ex o)) = some j
        cases hf : f s with
        | none => rw [hf] at h; cases h
        | some l' =>
          rw [hf] at h
          cases l' with
          | nx s' => exact whF'_mono (n := n) (m := m) (s := s') h (by omega)
          | bk s' => exact h
          | ex o => exact h
theorem whU_of {p : σ → Option Bool} {f : σ → Option (Lo σ β)} {n : Nat} {s : σ} {j : J σ β} (h : whF' p f n s = some j) : whU p f s = some j := by
  have hx : ∃ n j, whF' p f n s = some j := ⟨n, j, h⟩
  unfold whU
  rw [dif_pos hx]
  have h1 := hx.choose_spec.choose_spec
  have h2 := whF'_mono h1 (Nat.le_max_left hx.choose n)
  have h3 := whF'_mono h (Nat.le_max_right hx.choose n)
  rw [h2] at h3
  exact h3
theorem go_wh {E : σ → U → En} {p : σ → Option Bool} {f : σ → Option (Lo σ β)} (ht : ∀ s u, RT cx t (E s u) (p s) (E s u)) (hB : ∀ s u, BX cx A (E s u) (f s) (kL E k)) :
    ∀ (n : Nat) (s : σ) (u : U) (j : J σ β), whF' p f n s = some j → match j with
      | .nx s' => ∃ u', whN (fun e => (evE cx t e).tru) (evSs cx A) n (E s u) = some (.nx (E s' u'))
      | .ex o => ∃ v e', whN (fun e => (evE cx t e).tru) (evSs cx A) n (E s u) = some (.rt v e') ∧ k.rt v e' o
  | 0, s, u, j, h => by cases h
  | n + 1, s, u, j, h => by
    unfold whF' at h
    cases hp : p s with
    | none => rw [hp] at h; cases h
    | some b =>
      rw [hp] at h
      have ht' : (evE cx t (E s u)).tru = .ok b (E s u) := ht s u b hp
      cases b with
      | false =>
        cases h
        exact ⟨u, by unfold whN; simp only [ht']⟩
      | true =>
        have eq : whN (fun e => (evE cx t e).tru) (evSs cx A) (n + 1) (E s u) = match evSs cx A (E s u) with
          | .nx e2 | .ct e2 => whN (fun e => (evE cx t e).tru) (evSs cx A) n e2
          | .bk e2 => some (.nx e2)
          | r => some r := by
          conv => lhs; unfold whN
          simp only [ht'] <;> rfl
        have h : ((f s).bind fun
          | .nx s => whF' p f n s
          | .bk s => some (.nx s)
          | .ex o => some (.ex o)) = some j := h
        cases hf : f s with
        | none => rw [hf] at h; cases h
        | some l =>
          rw [hf] at h
          have h1 := hB s u l hf
          cases l with
          | nx s' =>
            have h : whF' p f n s' = some j := h
            cases q : evSs cx A (E s u) with
            | nx e2 =>
              rw [q] at h1
              obtain ⟨s2, u2, e0, rfl⟩ := h1
              cases e0
              rw [eq, q]
              exact go_wh ht hB n s' u2 j h
            | ct e2 =>
              rw [q] at h1
              obtain ⟨s2, u2, e0, rfl⟩ := h1
              cases e0
              rw [eq, q]
              exact go_wh ht hB n s' u2 j h
            | bk e2 => rw [q] at h1; obtain ⟨s2, u2, e0, _⟩ := h1; cases e0
            | rt v e2 => rw [q] at h1; obtain ⟨b, e0, _⟩ := h1; cases e0
            | ex y e2 => rw [q] at h1; exact h1.elim
            | bad => rw [q] at h1; exact h1.elim
          | bk s' =>
            cases h
            cases q : evSs cx A (E s u) with
            | nx e2 => rw [q] at h1; obtain ⟨s2, u2, e0, _⟩ := h1; cases e0
            | ct e2 => rw [q] at h1; obtain ⟨s2, u2, e0, _⟩ := h1; cases e0
            | bk e2 =>
              rw [q] at h1
              obtain ⟨s2, u2, e0, rfl⟩ := h1
              cases e0
              rw [eq, q]
              exact ⟨u2, rfl⟩
            | rt v e2 => rw [q] at h1; obtain ⟨b, e0, _⟩ := h1; cases e0
            | ex y e2 => rw [q] at h1; exact h1.elim
            | bad => rw [q] at h1; exact h1.elim
          | ex o =>
            cases h
            cases q : evSs cx A (E s u) with
            | nx e2 => rw [q] at h1; obtain ⟨s2, u2, e0, _⟩ := h1; cases e0
            | ct e2 => rw [q] at h1; obtain ⟨s2, u2, e0, _⟩ := h1; cases e0
            | bk e2 => rw [q] at h1; obtain ⟨s2, u2, e0, _⟩ := h1; cases e0
            | rt v e2 =>
              rw [q] at h1
              obtain ⟨b, e0, h2⟩ := h1
              cases e0
              rw [eq, q]
              exact ⟨v, e2, rfl, h2⟩
            | ex y e2 => rw [q] at h1; exact h1.elim
            | bad => rw [q] at h1; exact h1.elim
theorem b_whl {E : σ → U → En} {p : σ → Option Bool} {f : σ → Option (Lo σ β)} {g : σ → Option β} {s0 : σ} (u0 : U) (hw : cx.wh = whR) (he : e = E s0 u0)
    (ht : ∀ s u, RT cx t (E s u) (p s) (E s u)) (hB : ∀ s u, BX cx A (E s u) (f s) (kL E k)) (hk : ∀ s u, BX cx ss (E s u) (g s) k) : BX cx (.cons (.whl t A) ss) e ((whU p f s0).bind (J.go g)) k := fun o ho => by
  have eq : evSs cx (.cons (.whl t A) ss) e = (whR (fun e => (evE cx t e).tru) (evSs cx A) e).bind (evSs cx ss) := by simp only [evSs, evS, hw]
  rw [eq, he]
  cases h : whU p f s0 with
  | none => rw [h] at ho; cases ho
  | some j =>
    rw [h] at ho
    obtain ⟨n, h0⟩ := whU_ex h
    have h1 := go_wh ht hB n s0 u0 j h0
    cases j with
    | nx s' =>
      obtain ⟨u', h2⟩ := h1
      rw [whR_of h2]
      exact hk s' u' o ho
    | ex o' =>
      obtain ⟨v, e', h2, h3⟩ := h1
      cases ho
      rw [whR_of h2]
      exact h3
/-! defs -/
def stE (ds : List D) (nl : Nat) : En := ds.map (fun d => some (d, Fl.fro)) ++ List.replicate (nl - ds.length) none
theorem startAs_nil : ∀ (k : Nat) (vs : List Vl), startAs [] k vs = (vs.map (·.1)).map fun d => some (d, Fl.fro)
  | _, [] => rfl
  | k, (d, f) :: vs => by
    unfold startAs
    rw [startAs_nil (k + 1) vs]
    simp
theorem f_def {fs : Nat → Option Fn} {n f : Nat} {fn : Fn} {ds : List D} (hf : fs f = some fn) (hio : fn.io = []) (hps : ds.length = fn.ps) (hb : BX { call := callF whR fs n, wh := whR, pin := [] } fn.body (stE ds fn.nl) m (kF em c1)) : ∀ r, m = some r → SPn fs (n + 1) f ds (em r) c1 := fun r hr vs hv => by
  have h := hb r hr
  rw [callF_succ hf, if_pos (by rw [← hps, ← hv, List.length_map]), hio]
  have he : startE [] vs fn.nl = stE ds fn.nl := by
    unfold startE stE
    rw [startAs_nil, hv, ← hv, List.length_map]
  rw [he]
  cases q : evSs { call := callF whR fs n, wh := whR, pin := [] } fn.body (stE ds fn.nl) <;> rw [q] at h <;> first | exact h.elim | skip
  rename_i v e'
  obtain ⟨d, g⟩ := v
  obtain ⟨h1, h2⟩ := h
  have h1 : d = em r := h1
  subst h1
  refine ⟨g, h2, ?_⟩
  unfold endF
  rw [hio]
  rfl
end
end
end Rf

/-! Rf4: rules as the printer uses them. -/
namespace Rf
noncomputable section
open PySem L2 Ev
section
variable {cx : CX} {a b c t : PX} {es : PXs} {e e1 e2 e3 : En} {d d1 d2 d3 : D} {ds : List D} {c1 c2 c3 : Cl} {cs : List Cl} {α β γ σ U : Type} {en : α → D} {em : β → D} {x y z : Int} {pin : List Nat}
theorem v_add (ha : XV cx a e (eI x) c1 e1) (hb : XV cx b e1 (eI y) c2 e2) (hp : pur b = true) : XV cx (.bin .Add a b) e (eI (x + y)) .dp e2 := v_bin ha hb hp fun _ _ => rfl
theorem v_sub (ha : XV cx a e (eI x) c1 e1) (hb : XV cx b e1 (eI y) c2 e2) (hp : pur b = true) : XV cx (.bin .Sub a b) e (eI (x - y)) .dp e2 := v_bin ha hb hp fun _ _ => rfl
theorem v_mul (ha : XV cx a e (eI x) c1 e1) (hb : XV cx b e1 (eI y) c2 e2) (hp : pur b = true) (h : CMulD x y = true) : XV cx (.bin .Mult a b) e (eI (x * y)) .dp e2 := v_bin ha hb hp (b_mul h)
theorem v_div (ha : XV cx a e (eI x) c1 e1) (hb : XV cx b e1 (eI y) c2 e2) (hp : pur b = true) (h : 0 < y ∧ y < 1073741824) : XV cx (.bin .FloorDiv a b) e (eI (x / y)) .dp e2 := v_bin ha hb hp (b_div h)
theorem v_mod (ha : XV cx a e (eI x) c1 e1) (hb : XV cx b e1 (eI y) c2 e2) (hp : pur b = true) (h : 0 < y) : XV cx (.bin .Mod a b) e (eI (x % y)) .dp e2 := v_bin ha hb hp (b_mod h)
theorem v_band (ha : XV cx a e (eI x) c1 e1) (hb : XV cx b e1 (eI y) c2 e2) (hp : pur b = true) : XV cx (.bin .BitAnd a b) e (eI (Builtin.bitAnd x y)) .dp e2 := v_bin ha hb hp fun _ _ => rfl
theorem v_bor (ha : XV cx a e (eI x) c1 e1) (hb : XV cx b e1 (eI y) c2 e2) (hp : pur b = true) : XV cx (.bin .BitOr a b) e (eI (Builtin.bitOr x y)) .dp e2 := v_bin ha hb hp fun _ _ => rfl
theorem v_bxor (ha : XV cx a e (eI x) c1 e1) (hb : XV cx b e1 (eI y) c2 e2) (hp : pur b = true) : XV cx (.bin .BitXor a b) e (eI (Builtin.bitXor x y)) .dp e2 := v_bin ha hb hp fun _ _ => rfl
theorem p_mul (ha : XV cx a e (eI x) c1 e1) (hb : XV cx b e1 (eI y) c2 e2) (hp : pur b = true) : RX cx (.bin .Mult a b) e (mulO x y) eI .dp e2 := r_bin ha hb hp fun _ h => q_mul h
theorem p_div (ha : XV cx a e (eI x) c1 e1) (hb : XV cx b e1 (eI y) c2 e2) (hp : pur b = true) : RX cx (.bin .FloorDiv a b) e (divO x y) eI .dp e2 := r_bin ha hb hp fun _ h => q_div h
theorem p_mod (ha : XV cx a e (eI x) c1 e1) (hb : XV cx b e1 (eI y) c2 e2) (hp : pur b = true) : RX cx (.bin .Mod a b) e (modO x y) eI .dp e2 := r_bin ha hb hp fun _ h => q_mod h
theorem p_pow (ha : XV cx a e (eI x) c1 e1) (hb : XV cx b e1 (eI y) c2 e2) (hp : pur b = true) : RX cx (.bin .Pow a b) e (powO x y) eI .dp e2 := r_bin ha hb hp fun _ h => q_pow h
theorem p_shl (ha : XV cx a e (eI x) c1 e1) (hb : XV cx b e1 (eI y) c2 e2) (hp : pur b = true) : RX cx (.bin .LShift a b) e (shlO x y) eI .dp e2 := r_bin ha hb hp fun _ h => q_shl h
theorem p_shr (ha : XV cx a e (eI x) c1 e1) (hb : XV cx b e1 (eI y) c2 e2) (hp : pur b = true) : RX cx (.bin .RShift a b) e (shrO x y) eI .dp e2 := r_bin ha hb hp fun _ h => q_shr h
theorem cmL (h : x.natAbs < 18446744073709551616) : CMulD x y = true := cml' ⟨by omega, by omega⟩
theorem cmR (h : y.natAbs < 18446744073709551616) : CMulD x y = true := cmr' ⟨by omega, by omega⟩
theorem v_ltI (ha : XV cx a e (eI x) c1 e1) (hb : XV cx b e1 (eI y) c2 e2) (hp : pur b = true) : XV cx (.cmp .Lt a b) e (eB (decide (x < y))) .dp e2 := v_cmp ha hb hp rfl
theorem v_leI (ha : XV cx a e (eI x) c1 e1) (hb : XV cx b e1 (eI y) c2 e2) (hp : pur b = true) : XV cx (.cmp .LtE a b) e (eB (decide (x ≤ y))) .dp e2 := v_cmp ha hb hp rfl
theorem v_gtI (ha : XV cx a e (eI x) c1 e1) (hb : XV cx b e1 (eI y) c2 e2) (hp : pur b = true) : XV cx (.cmp .Gt a b) e (eB (decide (y < x))) .dp e2 := v_cmp ha hb hp rfl
theorem v_geI (ha : XV cx a e (eI x) c1 e1) (hb : XV cx b e1 (eI y) c2 e2) (hp : pur b = true) : XV cx (.cmp .GtE a b) e (eB (decide (y ≤ x))) .dp e2 := v_cmp ha hb hp rfl
theorem v_eqB {p q : Bool} (ha : XV cx a e (eB p) c1 e1) (hb : XV cx b e1 (eB q) c2 e2) (hp : pur b = true) : XV cx (.cmp .Eq a b) e (eB (p == q)) .dp e2 := v_cmp ha hb hp rfl
theorem v_isB {p q : Bool} (ha : XV cx a e (eB p) c1 e1) (hb : XV cx b e1 (eB q) c2 e2) (hp : pur b = true) : XV cx (.cmp .Is a b) e (eB (p == q)) .dp e2 := v_cmp ha hb hp rfl
theorem v_isnB {p q : Bool} (ha : XV cx a e (eB p) c1 e1) (hb : XV cx b e1 (eB q) c2 e2) (hp : pur b = true) : XV cx (.cmp .IsNot a b) e (eB (!(p == q))) .dp e2 := v_cmp ha hb hp rfl
theorem at_n {i : Nat} (hp : pin.contains i = false) (hl : Nat.ble (i + 1) e.length = true) (h : c1.isAn = false) : AT pin (.nm i false) d c1 e (e.set i (some (d, .fro))) := at_nm hp (Nat.le_of_ble_eq_true hl) h
theorem at_nM {i : Nat} (hp : pin.contains i = false) (hl : Nat.ble (i + 1) e.length = true) (h : noMut d = true) : AT pin (.nm i false) d c1 e (e.set i (some (d, .fro))) := at_nmM hp (Nat.le_of_ble_eq_true hl) h
theorem at_nK {i : Nat} (hp : pin.contains i = false) (hl : Nat.ble (i + 1) e.length = true) : AT pin (.nm i true) d .dp e (e.set i (some (d, .deep))) := at_nmK hp (Nat.le_of_ble_eq_true hl)
/-! cells of which nothing is known but that they are frozen -/
def Un (c : Cell) : Prop := c = none ∨ ∃ d, c = some (d, .fro)
structure UC where
  c : Cell
  h : Un c
def UC.no : UC := ⟨none, .inl rfl⟩
def UC.fro (d : D) : UC := ⟨some (d, .fro), .inr ⟨d, rfl⟩⟩
theorem own_nil : ownOk e [] = true := rfl
theorem own_cons {i : Nat} {is : List Nat} (h : Un (cellAt e i)) (t : ownOk e is = true) : ownOk e (i :: is) = true := by
  unfold ownOk at t ⊢
  rw [List.all_cons, t, Bool.and_true]
  rcases h with h | ⟨d, h⟩ <;> rw [h] <;> rfl
theorem un_no {i : Nat} (h : cellAt e i = none) : Un (cellAt e i) := .inl h
theorem un_fro {i : Nat} (h : cellAt e i = some (d, .fro)) : Un (cellAt e i) := .inr ⟨d, h⟩
theorem nb_deep : Cl.nb.ok .deep := by decide
theorem cmp_isNN {en : α → D} (n : NN en) (x : α) : cmpS .Is (en x) .non = some false := by
  have : en x ≠ .non := n x
  unfold cmpS
  split <;> rename_i q <;> first | cases q | skip
  all_goals simp_all
theorem cmp_isnNN {en : α → D} (n : NN en) (x : α) : cmpS .IsNot (en x) .non = some true := by
  have : en x ≠ .non := n x
  unfold cmpS
  split <;> rename_i q <;> first | cases q | skip
  all_goals simp_all
end
end
end Rf

/-! Rf5: data of any kind that never change, dicts, lists within lists. -/
namespace Rf
noncomputable section
open PySem L2 Ev
/-- data that may not be changed -/
abbrev DI := { d : Ev.D // noMut d = true }
def eX (x : DI) : Ev.D := x.1
def mkX (d : Ev.D) : Option DI := if h : noMut d = true then some ⟨d, h⟩ else none
def ixX (x : DI) (k : Int) : Option DI := (ixD x.1 k).bind mkX
def intX (x : DI) : Option Int := match x.1 with
  | .int i => some i
  | _ => none
def mkXs : List Ev.D → Option (List DI)
  | [] => some []
  | d :: ds => (mkX d).bind fun x => (mkXs ds).bind fun xs => some (x :: xs)
def tupX (x : DI) : Option (List DI) := match x.1 with
  | .tup xs => mkXs xs
  | _ => none
section
variable {cx : CX} {a b c t : PX} {es : PXs} {e e1 e2 e3 : En} {d d1 d2 d3 : Ev.D} {ds : List Ev.D} {c1 c2 c3 : Cl} {cs : List Cl} {α β γ σ U : Type} {en : α → Ev.D} {em : β → Ev.D} {x y z : Int} {pin : List Nat} {k : KS β} {ss : PSs}
theorem nmX : NM eX := fun x => x.2
theorem injX : INJ eX := fun x y h => Subtype.ext h
theorem mkX_some {d : Ev.D} {x : DI} (h : mkX d = some x) : x.1 = d := by
  unfold mkX at h
  split at h
  · cases h; rfl
  · cases h
theorem mkX_of {d : Ev.D} (h : noMut d = true) : mkX d = some ⟨d, h⟩ := by
  unfold mkX
  rw [dif_pos h]
theorem mkXs_some : ∀ {ds : List Ev.D} {xs : List DI}, mkXs ds = some xs → xs.map eX = ds
  | [], xs, h => by cases h; rfl
  | d :: ds, xs, h => by
    unfold mkXs at h
    cases h1 : mkX d with
    | none => rw [h1] at h; cases h
    | some x =>
      rw [h1] at h
      have h : ((mkXs ds).bind fun xs => some (x :: xs)) = some xs := h
      cases h2 : mkXs ds with
      | none => rw [h2] at h; cases h
      | some ys =>
        rw [h2] at h
        cases h
        rw [List.map_cons, mkXs_some h2, show eX x = d from mkX_some h1]
theorem mkXs_map {xs : List DI} : mkXs (xs.map eX) = some xs := by
  induction xs with
  | nil => rfl
  | cons x xs ih => simp only [List.map_cons, mkXs, ih, show mkX (eX x) = some x from mkX_of x.2, Option.bind]
theorem p_none {f : α → Ev.D} : RX cx a e none f c1 e1 := fun x h => nomatch h
theorem rt_none : RT cx a e none e1 := fun x h => nomatch h
theorem b_none {m : KS β} : BX cx ss e none m := fun x h => nomatch h
theorem p_ixX {x : DI} {k : Int} (ha : XV cx a e (eX x) c1 e1) (hb : XV cx b e1 (eI k) c2 e2) (hp : pur b = true) : RX cx (.ix a b) e (ixX x k) eX c1.el e2 := fun y hy => by
  unfold ixX at hy
  cases h : ixD x.1 k with
  | none => rw [h] at hy; cases hy
  | some d =>
    rw [h] at hy
    have := p_ixD (x := x.1) ha hb hp d h
    rw [show eX y = d from mkX_some hy]
    exact this
theorem p_toI {x : DI} (ha : XV cx a e (eX x) c1 e1) : RX cx a e (intX x) eI c1 e1 := fun y hy => by
  obtain ⟨d, hd⟩ := x
  unfold intX at hy
  cases d <;> simp at hy
  subst hy
  exact ha
theorem p_toT {x : DI} (ha : XV cx a e (eX x) c1 e1) : RX cx a e (tupX x) (eT eX) c1 e1 := fun y hy => by
  obtain ⟨d, hd⟩ := x
  unfold tupX at hy
  cases d <;> simp only at hy <;> try cases hy
  rw [show eT eX y = _ from congrArg Ev.D.tup (mkXs_some hy)]
  exact ha
theorem p_cmpX {o : CmpOp} {x y : DI} (ha : XV cx a e (eX x) c1 e1) (hb : XV cx b e1 (eX y) c2 e2) (hp : pur b = true) : RX cx (.cmp o a b) e (cmpS o x.1 y.1) eB .dp e2 := fun r hr => v_cmp ha hb hp hr
theorem p_isiD {ty : Ty} {x : Ev.D} (ha : XV cx a e (eD x) c1 e1) : RX cx (.isi a ty) e (tyS x ty) eB .dp e1 := fun r hr => v_isi ha hr
def lenD : Ev.D → Option Int
  | .lst xs | .tup xs => some xs.length
  | _ => none
theorem p_lenD {x : Ev.D} (ha : XV cx a e (eD x) c1 e1) : RX cx (.bi .len (.cons a .nil)) e (lenD x) eI .dp e1 := fun r hr => by
  cases x <;> simp only [lenD] at hr <;> first | cases hr | skip
  all_goals exact b1 ha fun f => rfl
/-! dicts whose keys are numbers -/
def getO (k : Int) : List (Int × β) → Option β
  | [] => none
  | (i, v) :: r => if i = k then some v else getO k r
def putL (k : Int) (v : β) : List (Int × β) → List (Int × β)
  | [] => [(k, v)]
  | (i, w) :: r => if i = k then (i, v) :: r else (i, w) :: putL k v r
theorem getK_map (k : Int) : ∀ kvs : List (Int × β), getK (.int k) (kvs.map fun p => (eI p.1, em p.2)) = (getO k kvs).map em
  | [] => rfl
  | (i, v) :: r => by
    rw [List.map_cons]
    unfold getK getO
    by_cases h : i = k
    · subst h; simp [eI]
    · have : ¬ (eI i = Ev.D.int k) := fun z => h (by unfold eI at z; injection z)
      simp only [h, if_false, this, getK_map k r]
theorem putK_map (k : Int) (v : β) : ∀ kvs : List (Int × β), Ev.putK (.int k) (em v) (kvs.map fun p => (eI p.1, em p.2)) = (putL k v kvs).map fun p => (eI p.1, em p.2)
  | [] => rfl
  | (i, w) :: r => by
    rw [List.map_cons]
    unfold Ev.putK putL
    by_cases h : i = k
    · subst h; simp [eI]
    · have : ¬ (eI i = Ev.D.int k) := fun z => h (by unfold eI at z; injection z)
      simp only [h, if_false, this, putK_map k v r, List.map_cons]
theorem p_ixK {kvs : List (Int × β)} {k : Int} (ha : XV cx a e (eK eI em kvs) c1 e1) (hb : XV cx b e1 (eI k) c2 e2) (hp : pur b = true) : RX cx (.ix a b) e (getO k kvs) em c1.el e2 := fun x hx => by
  obtain ⟨f, o, h1⟩ := ha
  obtain ⟨g, _, h2⟩ := hb
  refine ⟨elFl f, Cl.el_ok o, ?_⟩
  simp only [evE, h1, R.bind, hp, Bool.not_true, Bool.and_false, Bool.false_eq_true, if_false, h2, eK, ixS, eI, isKey, if_true]
  rw [show getK (.int k) (kvs.map fun p => (Ev.D.int p.1, em p.2)) = _ from getK_map k kvs, hx]
  rfl
def setKO (kvs : List (Int × α)) (j : Int) (x : α) : Option (List (Int × α)) := if kvs.length < 16777216 then some (putL j x kvs) else none
theorem b_setK {i : Nat} {kvs : List (Int × α)} {x : α} {j : Int} {g : List (Int × α) → Option β} (h0 : cellAt e i = some (eK eI en kvs, .deep)) (hv : XV cx a e (en x) c1 e) (hj : XV cx b e (eI j) c2 e) (hp : pur b = true) (nm : NM en) (hk : ∀ ys, BX cx ss (e.set i (some (eK eI en ys, .deep))) (g ys) k) : BX cx (.cons (.asg (.sub (.nm i) b) a) ss) e ((setKO kvs j x).bind g) k := fun o ho => by
  unfold setKO at ho
  split at ho
  · rename_i q
    obtain ⟨f, o', h1⟩ := hv
    obtain ⟨f2, o2, h2⟩ := hj
    refine b_step ?_ (hk _) o ho
    simp only [evS, h1, R.toS, esc_nm (nm x), subE, evP, h0, hp, if_true, h2, eK, alter, true_or, putS, List.length_map, eI, isKey, if_pos (show kvs.length < sizeLine by rw [sizeLine_eq]; exact q), Option.map, and_self]
    rw [show Ev.putK (.int j) (en x) (kvs.map fun p => (Ev.D.int p.1, en p.2)) = _ from putK_map j x kvs]
    simp only [true_and, if_pos (show kvs.length < sizeLine by rw [sizeLine_eq]; exact q)]
    rfl
  · cases ho
/-- x.append(..): what is put there may itself be changed -/
theorem b_appM {i : Nat} {xs : List α} {x : α} {g : List α → Option β} (h0 : cellAt e i = some (eL en xs, .deep)) (hv : XV cx a e (en x) .dp e) (hk : ∀ ys, BX cx ss (e.set i (some (eL en ys, .deep))) (g ys) k) : BX cx (.cons (.exp (.mu .append (.nm i) (.cons a .nil))) ss) e ((appO xs x).bind g) k := fun o ho => by
  cases hy : appO xs x with
  | none => rw [hy] at ho; cases ho
  | some ys =>
    rw [hy] at ho
    refine b_step ?_ (hk ys) o ho
    obtain ⟨f, o', h1⟩ := hv
    have o' : f = .deep := o'
    subst o'
    unfold appO at hy
    split at hy
    · rename_i q
      cases hy
      obtain ⟨gf, h2, h3⟩ := esc_nb (d := en x) (f := .deep) (by decide)
      have : gf = .deep := h3.elim id id
      subst this
      simp only [evS, evE, evP, evL, h0, h1, R.bind, R.toS, eL, isLst, List.isEmpty, Bool.true_or, Bool.and_self, if_true, pures, Bool.not_true, Bool.and_false, Bool.false_eq_true, if_false, alter, muS, h2, List.length_map, if_pos (show xs.length < sizeLine by rw [sizeLine_eq]; exact q), true_or, and_self, List.map_append, List.map_cons, List.map_nil, reduceCtorEq]
    · cases hy
/-- x[j].append(..) -/
def appAtO (xss : List (List α)) (j : Int) (x : α) : Option (List (List α)) := match ixN xss.length j with
  | some l => match xss[l]? with
    | some xs => if xs.length < 16777216 then some (xss.set l (xs ++ [x])) else none
    | none => none
  | none => none
theorem b_appAt {i : Nat} {xss : List (List α)} {x : α} {j : Int} {g : List (List α) → Option β} (h0 : cellAt e i = some (eL (eL en) xss, .deep)) (hj : XV cx b e (eI j) c2 e) (hp : pur b = true) (hv : XV cx a e (en x) c1 e) (hpa : pur a = true) (nm : NM en) (hk : ∀ ys, BX cx ss (e.set i (some (eL (eL en) ys, .deep))) (g ys) k) : BX cx (.cons (.exp (.mu .append (.ix (.nm i) b) (.cons a .nil))) ss) e ((appAtO xss j x).bind g) k := fun o ho => by
  cases hy : appAtO xss j x with
  | none => rw [hy] at ho; cases ho
  | some ys =>
    rw [hy] at ho
    refine b_step ?_ (hk ys) o ho
    obtain ⟨f, o', h1⟩ := hv
    obtain ⟨f2, o2, h2⟩ := hj
    unfold appAtO at hy
    cases hl : ixN xss.length j with
    | none => rw [hl] at hy; cases hy
    | some l =>
      rw [hl] at hy
      cases hx : xss[l]? with
      | none => simp only [hx] at hy; cases hy
      | some xs =>
        simp only [hx] at hy
        split at hy
        · rename_i q
          cases hy
          have hx' : (xss.map (eL en))[l]? = some (eL en xs) := by rw [List.getElem?_map, hx]; rfl
          have hat : atI (xss.map (eL en)) j = some (eL en xs) := by
            unfold atI
            rw [List.length_map, hl]
            exact hx'
          have h0' : cellAt e i = some (.lst (xss.map (eL en)), .deep) := h0
          have hat' : atI (xss.map (eL en)) j = some (.lst (xs.map en)) := hat
          have hx'' : (xss.map (eL en))[l]? = some (.lst (xs.map en)) := hx'
          have q' : xs.length < sizeLine := by rw [sizeLine_eq]; exact q
          have h2' : evE cx b e = .ok (.int j, f2) e := h2
          simp only [evS, evE, evP, evL, h0', h1, h2', hp, if_true, R.bind, R.toS, hat', isLst, List.nil_append, pures, hpa, Bool.and_self, Bool.or_true, Bool.and_true, Bool.not_true, Bool.and_false, Bool.false_eq_true, if_false, alter, List.length_map, hl, hx'', true_or, muS, esc_nm (nm x), if_pos q', and_self, reduceCtorEq]
          congr 3
          simp [List.map_set, eL]
        · cases hy
theorem v_inK {kvs : List (Int × β)} {x : Int} : cmpS .In (eI x) (eK eI em kvs) = some ((getO x kvs).isSome) := by
  show inS (eI x) (Ev.D.dic (kvs.map fun p => (eI p.1, em p.2))) = _
  simp only [inS, eI, isKey, if_true]
  rw [show getK (.int x) (kvs.map fun p => (Ev.D.int p.1, em p.2)) = _ from getK_map x kvs]
  cases getO x kvs <;> rfl
/-- recursion: the levels -/
theorem spn_c {fs : Nat → Option Fn} {n f : Nat} {d : Ev.D} (h : SPn fs n f ds d c1) : SPc { call := callF whR fs n, wh := whR, pin := [] } f ds d c1 := h
end
end
end Rf

/-! M0: plain lemmas for the typed functions: no program in sight. -/
namespace Rf
noncomputable section
open PySem L2 Ev
section
variable {α β γ σ : Type}
/-- it ends, and so -/
def W (m : Option α) (P : α → Prop) : Prop := ∃ r, m = some r ∧ P r
theorem W.some {x : α} {P : α → Prop} (h : P x) : W (some x) P := ⟨x, rfl, h⟩
theorem W.bind {m : Option α} {k : α → Option β} {P : α → Prop} {Q : β → Prop} (h : W m P) (hk : ∀ x, P x → W (k x) Q) : W (m.bind k) Q := by
  obtain ⟨r, rfl, hr⟩ := h
  exact hk r hr
theorem W.mono {m : Option α} {P Q : α → Prop} (h : W m P) (hk : ∀ x, P x → Q x) : W m Q := by
  obtain ⟨r, e, hr⟩ := h
  exact ⟨r, e, hk r hr⟩
theorem W.eq {m : Option α} {x : α} (h : m = Option.some x) : W m (· = x) := ⟨x, h, rfl⟩
theorem W.ite {c : Prop} [Decidable c] {m n : Option α} {P : α → Prop} (h1 : c → W m P) (h2 : ¬ c → W n P) : W (if c then m else n) P := by
  split
  · rename_i h; exact h1 h
  · rename_i h; exact h2 h
theorem W.iff {m : Option α} {x : α} : W m (· = x) ↔ m = Option.some x := ⟨fun ⟨r, e, h⟩ => by rw [e, h], W.eq⟩
/-- no step of reckoning: so the kernel does not look inside -/
theorem obs {x : α} {f : α → Option β} : (some x).bind f = f x := (Eq.refl (f x)).trans (by cases h : f x <;> rfl)
/-! sizes -/
theorem szO_of {xs : List α} (h : xs.length ≤ 16777216) : szO xs = some xs := by unfold szO; rw [if_pos h]
theorem catO_of {xs ys : List α} (h : xs.length + ys.length ≤ 16777216) : catO xs ys = some (xs ++ ys) := by unfold catO; rw [if_pos h]
theorem appO_of {xs : List α} {x : α} (h : xs.length < 16777216) : appO xs x = some (xs ++ [x]) := by unfold appO; rw [if_pos h]
theorem setKO_of {kvs : List (Int × α)} {k : Int} {x : α} (h : kvs.length < 16777216) : setKO kvs k x = some (putL k x kvs) := by unfold setKO; rw [if_pos h]
theorem repO_of {xs : List α} {k : Int} (h0 : 0 ≤ k) (h : xs.length * k.toNat ≤ 16777216) (h1 : k ≤ 16777216) : repO xs k = some (List.replicate k.toNat xs).flatten := by
  unfold repO
  rw [if_pos (repOk_iff.mpr ⟨by omega, by omega, by rw [sizeLine_eq]; exact h⟩)]
theorem modO_of {x y : Int} (h : 0 < y) : modO x y = some (x % y) := by unfold modO; rw [if_pos h]
theorem divO_of {x y : Int} (h : 0 < y ∧ y < 1073741824) : divO x y = some (x / y) := by unfold divO; rw [if_pos h]
theorem mulO_l {x y : Int} (h : -18446744073709551616 < x ∧ x < 18446744073709551616) : mulO x y = some (x * y) := by unfold mulO; rw [if_pos (cml' h)]
theorem mulO_r {x y : Int} (h : -18446744073709551616 < y ∧ y < 18446744073709551616) : mulO x y = some (x * y) := by unfold mulO; rw [if_pos (cmr' h)]
/-! items -/
theorem atI_of {xs : List α} {k : Int} (h0 : 0 ≤ k) (h : k < xs.length) : ∃ x, atI xs k = some x ∧ xs[k.toNat]? = some x := by
  have hk : k.toNat < xs.length := by omega
  refine ⟨xs[k.toNat], ?_, List.getElem?_eq_getElem hk⟩
  have := atI_nat (xs := xs) (j := k.toNat) (v := xs[k.toNat]) (List.getElem?_eq_getElem hk)
  rwa [Int.toNat_of_nonneg h0] at this
theorem atI_n {xs : List α} {k : Nat} (h : k < xs.length) : atI xs (k : Int) = some xs[k] := atI_nat (List.getElem?_eq_getElem h)
theorem ixN_n {n k : Nat} (h : k < n) : ixN n (k : Int) = some k := by
  unfold ixN
  rw [if_pos (by omega), if_pos (by omega)]
  simp
theorem setO_n {xs : List α} {k : Nat} {x : α} (h : k < xs.length) : setO xs (k : Int) x = some (xs.set k x) := by
  unfold setO
  rw [ixN_n h]
theorem setO_of {xs : List α} {k : Int} {x : α} (h0 : 0 ≤ k) (h : k < xs.length) : setO xs k x = some (xs.set k.toNat x) := by
  have := setO_n (xs := xs) (k := k.toNat) (x := x) (by omega)
  rwa [Int.toNat_of_nonneg h0] at this
theorem W_at {xs : List α} {k : Int} {P : α → Prop} (h0 : 0 ≤ k) (h : k < xs.length) (hP : ∀ x ∈ xs, P x) : W (atI xs k) P := by
  obtain ⟨x, h1, h2⟩ := atI_of h0 h
  exact ⟨x, h1, hP x (List.mem_of_getElem? h2)⟩
/-! ranges -/
def rngL (a : Int) (n : Nat) : List Int := (List.range n).map fun (i : Nat) => a + (i : Int)
theorem rgOk_of {i : Int} (h : -4611686018427387904 ≤ i ∧ i < 4611686018427387904) : rgOk i = true := rgOk_iff.mpr ⟨by omega, by omega⟩
theorem rngO_of {a b : Int} (ha : -4611686018427387904 ≤ a ∧ a < 4611686018427387904) (hb : -4611686018427387904 ≤ b ∧ b < 4611686018427387904) : rngO a b = some (rngL a (b - a).toNat) := by
  unfold rngO
  rw [if_pos ⟨rgOk_of ha, rgOk_of hb⟩]
  rfl
theorem rngO_n {n : Nat} (h : n < 4611686018427387904) : rngO 0 (n : Int) = some (rngL 0 n) := by
  rw [rngO_of (by omega) (by omega)]
  congr 2
theorem rngL_len {a : Int} {n : Nat} : (rngL a n).length = n := by simp [rngL]
theorem rngL_get {a : Int} {n i : Nat} {x : Int} (h : (rngL a n)[i]? = some x) : i < n ∧ x = a + (i : Int) := by
  unfold rngL at h
  rw [List.getElem?_map] at h
  cases q : (List.range n)[i]? with
  | none => rw [q] at h; cases h
  | some j =>
    rw [q] at h
    obtain ⟨h1, h2⟩ := List.getElem?_eq_some_iff.mp q
    rw [List.length_range] at h1
    have : j = i := by rw [← h2, List.getElem_range]
    subst this
    exact ⟨h1, (Option.some.inj h).symm⟩
theorem mem_rngL {a x : Int} {n : Nat} : x ∈ rngL a n ↔ a ≤ x ∧ x < a + n := by
  unfold rngL
  rw [List.mem_map]
  constructor
  · rintro ⟨i, h1, rfl⟩
    have := List.mem_range.mp h1
    omega
  · intro h
    exact ⟨(x - a).toNat, List.mem_range.mpr (by omega), by omega⟩
theorem rngL_succ {a : Int} {n : Nat} : rngL a (n + 1) = rngL a n ++ [a + (n : Int)] := by
  unfold rngL
  rw [List.range_succ, List.map_append]
  rfl
/-! loops -/
theorem foldO_W {f : α → σ → Option σ} : ∀ (xs : List α) (I : Nat → σ → Prop), (∀ i x s, xs[i]? = some x → I i s → W (f x s) (I (i + 1))) → ∀ s, I 0 s → W (foldO f xs s) (I xs.length)
  | [], I, _, s, h => ⟨s, rfl, h⟩
  | x :: xs, I, hs, s, h => by
    unfold foldO
    exact W.bind (hs 0 x s rfl h) fun s' h' => foldO_W xs (fun i => I (i + 1)) (fun i y t hy ht => hs (i + 1) y t hy ht) s' h'
theorem foldO_rng {f : Int → σ → Option σ} {n : Nat} (I : Nat → σ → Prop) (hs : ∀ (i : Nat) s, i < n → I i s → W (f (i : Int) s) (I (i + 1))) {s : σ} (h : I 0 s) : W (foldO f (rngL 0 n) s) (I n) := by
  have := foldO_W (rngL 0 n) I (fun i x s hx hi => by
    obtain ⟨h1, h2⟩ := rngL_get hx
    rw [h2, Int.zero_add]
    exact hs i s h1 hi) s h
  rwa [rngL_len] at this
theorem foldO_eq {f : α → σ → Option σ} {g : σ → α → σ} : ∀ (xs : List α) (s : σ), (∀ x ∈ xs, ∀ s, f x s = some (g s x)) → foldO f xs s = some (xs.foldl g s)
  | [], s, _ => rfl
  | x :: xs, s, h => by
    unfold foldO
    rw [h x List.mem_cons_self s]
    exact foldO_eq xs _ fun y hy => h y (List.mem_cons_of_mem _ hy)
/-- a loop that is never left -/
theorem loopM_nx {f : α → σ → Option (Lo σ β)} : ∀ (xs : List α) (I : Nat → σ → Prop), (∀ i x s, xs[i]? = some x → I i s → ∃ s', f x s = some (.nx s') ∧ I (i + 1) s') → ∀ s, I 0 s → ∃ s', loopM f xs s = some (.nx s') ∧ I xs.length s'
  | [], I, _, s, h => ⟨s, rfl, h⟩
  | x :: xs, I, hs, s, h => by
    obtain ⟨s1, h1, h2⟩ := hs 0 x s rfl h
    obtain ⟨s', h3, h4⟩ := loopM_nx xs (fun i => I (i + 1)) (fun i y t hy ht => hs (i + 1) y t hy ht) s1 h2
    refine ⟨s', ?_, h4⟩
    unfold loopM
    rw [h1]
    exact h3
theorem lcM_eq {p : α → Option Bool} {f : α → Option β} {q : α → Bool} {g : α → β} {xs : List α} (h1 : ∀ x ∈ xs, p x = some (q x)) (h2 : ∀ x ∈ xs, q x = true → f x = some (g x)) (hl : xs.length ≤ 16777216) : (lcM p f xs).bind szO = some ((xs.filter q).map g) := by
  rw [lcM_total h1 h2]
  refine szO_of ?_
  rw [List.length_map]
  exact Nat.le_trans (List.length_filter_le _ _) hl
theorem lcM_eqm {f : α → Option β} {g : α → β} {xs : List α} (h2 : ∀ x ∈ xs, f x = some (g x)) (hl : xs.length ≤ 16777216) : (lcM (fun _ => some true) f xs).bind szO = some (xs.map g) := by
  rw [lcM_map h2]
  exact szO_of (by rw [List.length_map]; exact hl)
/-- each item by a property -/
theorem lcM_W {p : α → Option Bool} {f : α → Option β} {P : β → Prop} : ∀ {xs : List α}, (∀ x ∈ xs, W (p x) fun _ => True) → (∀ x ∈ xs, W (f x) P) → W (lcM p f xs) fun ys => ys.length ≤ xs.length ∧ ∀ y ∈ ys, P y
  | [], _, _ => ⟨[], rfl, Nat.le_refl _, fun _ h => nomatch h⟩
  | x :: xs, h1, h2 => by
    obtain ⟨b, e1, _⟩ := h1 x List.mem_cons_self
    obtain ⟨y, e2, hy⟩ := h2 x List.mem_cons_self
    obtain ⟨ys, e3, h3, h4⟩ := lcM_W (xs := xs) (fun z hz => h1 z (List.mem_cons_of_mem _ hz)) fun z hz => h2 z (List.mem_cons_of_mem _ hz)
    cases b with
    | false => exact ⟨ys, by unfold lcM; rw [e1]; exact e3, by rw [List.length_cons]; omega, h4⟩
    | true =>
      refine ⟨y :: ys, by unfold lcM; rw [e1, e2, e3]; rfl, by rw [List.length_cons, List.length_cons]; omega, fun z hz => ?_⟩
      rcases List.mem_cons.mp hz with rfl | hz
      · exact hy
      · exact h4 z hz
theorem lcM_Wm {f : α → Option β} {P : β → Prop} : ∀ {xs : List α}, (∀ x ∈ xs, W (f x) P) → W (lcM (fun _ => some true) f xs) fun ys => ys.length = xs.length ∧ ∀ y ∈ ys, P y
  | [], _ => ⟨[], rfl, rfl, fun _ h => nomatch h⟩
  | x :: xs, h2 => by
    obtain ⟨y, e2, hy⟩ := h2 x List.mem_cons_self
    obtain ⟨ys, e3, h3, h4⟩ := lcM_Wm (xs := xs) fun z hz => h2 z (List.mem_cons_of_mem _ hz)
    refine ⟨y :: ys, by unfold lcM; rw [e2, e3]; rfl, by rw [List.length_cons, List.length_cons, h3], fun z hz => ?_⟩
    rcases List.mem_cons.mp hz with rfl | hz
    · exact hy
    · exact h4 z hz
theorem W_sz {m : Option (List α)} {P : List α → Prop} (h : W m fun xs => xs.length ≤ 16777216 ∧ P xs) : W (m.bind szO) P := by
  obtain ⟨xs, rfl, h1, h2⟩ := h
  exact ⟨xs, szO_of h1, h2⟩
/-! cuts -/
theorem cut_take {xs : List α} {k : Nat} : cut xs none (some (k : Int)) = xs.take k := by
  unfold cut
  rw [HT.sIx_none, HT.sIx_nat, List.drop_zero, Nat.sub_zero]
  exact List.take_eq_take_min.symm
theorem cut_drop {xs : List α} {k : Nat} : cut xs (some (k : Int)) none = xs.drop k := by
  unfold cut
  rw [HT.sIx_none, HT.sIx_nat, List.take_of_length_le (by rw [List.length_drop]; exact Nat.le_refl _)]
  rcases Nat.le_total k xs.length with h | h
  · rw [Nat.min_eq_left h]
  · rw [Nat.min_eq_right h, List.drop_of_length_le h, List.drop_of_length_le (Nat.le_refl _)]
theorem popO_of {xs : List α} {x : α} : popO (xs ++ [x]) = some (x, xs) := by
  unfold popO
  simp
/-! data without truth values' doubles: the same -/
end
mutual
def sdt : Ev.D → Bool
  | .non | .bl _ | .int _ | .str _ => true
  | .tup xs | .lst xs => sdts xs
  | _ => false
def sdts : List Ev.D → Bool
  | [] => true
  | x :: xs => sdt x && sdts xs
end
end
end Rf

/-! Lc: typed functions that many laws share. -/
namespace Lc
open PySem L2 Ev Rf
noncomputable section
def s_law_draws (script : List Int) (count : Int) : Option (List Int) :=
  ((some (cut script none (some 63))).bind fun xs => (lcM (fun (cell : Int) => some true) (fun (cell : Int) => some (if cell < 0 then -cell else cell)) xs).bind szO).bind fun l =>
  (if (decide ((l.length : Int) = 0)) = true then (some [0]).bind fun cells =>
  some cells else some l).bind fun (s1 : List Int) =>
  (some []).bind fun draws =>
  (rngO 0 count).bind fun xs1 =>
  (foldO (fun (k : Int) (s2 : (List Int) × (List Int)) =>
  (modO k (s2.2.length : Int)).bind fun rem =>
  (atI s2.2 rem).bind fun x1 =>
  (if (decide (1000000000000000000 ≤ x1)) = true then (appO s2.1 (x1 % 1000)).bind fun draws1 =>
  (setO s2.2 rem (x1 / 1000)).bind fun cells1 =>
  some (draws1, cells1) else (some ((((x1 * 48271) + (k * 69621)) + 11) % 2147483647)).bind fun mixed =>
  (mulO k k).bind fun mul =>
  (some ((((mixed * 16807) + (x1 / 7)) + (mul * 40014)) % 2147483563)).bind fun mixed1 =>
  (mulO mixed1 (((mixed1 / 1024) + k) + 1)).bind fun mul1 =>
  (some ((mul1 + x1) % 2147483629)).bind fun mixed2 =>
  (appO s2.1 ((mixed2 / 37) % 1000)).bind fun draws2 =>
  some (draws2, s2.2)).bind fun (s3 : (List Int) × (List Int)) =>
  some (s3.1, s3.2)) xs1 (draws, s1)).bind fun (s4 : (List Int) × (List Int)) =>
  some s4.1
def s_law_lot (draw : Int) (size : Int) : Option (List Int) :=
  (some (1 + (draw % 63))).bind fun bits =>
  ((rngO 0 size).bind fun xs => (lcM (fun (k : Int) => (atI ([1, 2, 4, 8, 16, 32]) k).bind fun x1 => (divO bits x1).bind fun quo => some (decide ((quo % 2) = 1))) (fun (k : Int) => some k) xs).bind szO).bind fun l =>
  (if (decide ((l.length : Int) = 0)) = true then (modO draw size).bind fun rem =>
  (some [rem]).bind fun lot =>
  some lot else some l).bind fun (s1 : List Int) =>
  some s1
def s_law_family (draws : List Int) (at_ : Int) (states : Int) (answers : Int) (many : Int) : Option (List ((List Int) × (List Int))) :=
  (some []).bind fun family =>
  (rngO 0 many).bind fun xs1 =>
  (foldO (fun (k : Int) (s1 : List ((List Int) × (List Int))) =>
  (atI draws (at_ + (2 * k))).bind fun x1 =>
  (s_law_lot x1 states).bind fun r1 =>
  (atI draws ((at_ + (2 * k)) + 1)).bind fun x2 =>
  (s_law_lot x2 answers).bind fun r2 =>
  (if (decide (0 < k)) = true then (atI draws (at_ + (2 * k))).bind fun x3 => some (decide (((x3 / 17) % 5) = 0)) else some false).bind fun c =>
  (if c = true then (atI s1 (k - 1)).bind fun x4 =>
  some x4.1 else some r1).bind fun (s2 : List Int) =>
  (if (decide (1 < k)) = true then (atI draws (at_ + (2 * k))).bind fun x5 => some (decide (((x5 / 90) % 7) = 0)) else some false).bind fun c1 =>
  (if c1 = true then (atI s1 (k - 2)).bind fun x6 =>
  some x6.2 else some r2).bind fun (s3 : List Int) =>
  (appO s1 (s2, s3)).bind fun family1 =>
  some family1) xs1 family).bind fun (s4 : List ((List Int) × (List Int))) =>
  some s4
def s_law_words (draws : List Int) (at_ : Int) (size : Int) (fields : Int) (many : Int) : Option (List (List Int)) :=
  ((rngO 0 size).bind fun xs => (lcM (fun (s1 : Int) => some true) (fun (s1 : Int) => ((rngO 0 fields).bind fun xs => (lcM (fun (k : Int) => some true) (fun (k : Int) => (mulO fields s1).bind fun mul => (atI draws ((at_ + mul) + k)).bind fun x1 => (modO x1 many).bind fun rem => some rem) xs).bind szO).bind fun l => some l) xs).bind szO).bind fun l1 =>
  some l1
def s_law_common (family : List ((List Int) × (List Int))) (numbers : List Int) : Option (List Int) :=
  (atI numbers 0).bind fun x1 =>
  (atI family x1).bind fun x2 =>
  (foldO (fun (number : Int) (s1 : List Int) =>
  ((some s1).bind fun xs => (lcM (fun (answer : Int) => (atI family number).bind fun x3 => some (decide (answer ∈ x3.2))) (fun (answer : Int) => some answer) xs).bind szO).bind fun l =>
  some l) numbers x2.2).bind fun (s2 : List Int) =>
  some s2
def s_law_shown (words : List (List Int)) (window : List Int) (reading : List Int) : Option Bool :=
  (rngO 0 (reading.length : Int)).bind fun xs1 =>
  (loopM (fun (field : Int) (s1 : Unit) =>
  (atI reading field).bind fun x1 =>
  (if true = true then (atI reading field).bind fun x2 => ((some window).bind fun xs => (lcM (fun (state : Int) => some true) (fun (state : Int) => (atI words state).bind fun x3 => (atI x3 field).bind fun x4 => some x4) xs).bind szO).bind fun l => some (!decide (x2 ∈ l)) else some false).bind fun c =>
  if c = true then some (Lo.ex false) else
  some (Lo.nx ())) xs1 ()).bind (J.go fun (s2 : Unit) =>
  some true)
def s_law_readings (fields : Int) (many : Int) : Option (List (List Int)) :=
  (some [[]]).bind fun readings =>
  (rngO 0 fields).bind fun xs1 =>
  (foldO (fun (turn : Int) (s1 : List (List Int)) =>
  (some []).bind fun longer =>
  (foldO (fun (reading : List Int) (s2 : List (List Int)) =>
  ((rngO 0 many).bind fun xs => (lcM (fun (worth : Int) => some true) (fun (worth : Int) => (catO reading [worth]).bind fun cat => some cat) xs).bind szO).bind fun l =>
  (catO s2 l).bind fun cat1 =>
  some cat1) s1 longer).bind fun (s3 : List (List Int)) =>
  some s3) xs1 readings).bind fun (s4 : List (List Int)) =>
  some s4
def sb_law_same (rec_ : Ev.D → Ev.D → Option Bool) (told : Ev.D) (due : Ev.D) : Option Bool :=
  (Ev.cmpS .Is due Ev.D.non).bind fun c =>
  if c = true then (Ev.cmpS .Is told Ev.D.non).bind fun c1 =>
  some c1 else
  (Ev.tyS due .bool).bind fun c2 =>
  (if c2 = true then some true else (Ev.tyS told .bool).bind fun c3 => some c3).bind fun c4 =>
  if c4 = true then (Ev.tyS due .bool).bind fun c5 =>
  (if c5 = true then (Ev.tyS told .bool).bind fun c6 => (if c6 = true then (Ev.cmpS .Eq told due).bind fun c7 => some c7 else some false).bind fun c8 => some c8 else some false).bind fun c9 =>
  some c9 else
  (Ev.tyS due .int).bind fun c10 =>
  if c10 = true then (Ev.tyS told .int).bind fun c11 =>
  (if c11 = true then (Ev.cmpS .Eq told due).bind fun c12 => some c12 else some false).bind fun c13 =>
  some c13 else
  (Ev.tyS due .str).bind fun c14 =>
  if c14 = true then (Ev.tyS told .str).bind fun c15 =>
  (if c15 = true then (Ev.cmpS .Eq told due).bind fun c16 => some c16 else some false).bind fun c17 =>
  some c17 else
  (Ev.tyS due .tuple).bind fun c18 =>
  (if c18 = true then (Ev.tyS told .tuple).bind fun c19 => some (!c19) else some false).bind fun c20 =>
  (if c20 = true then some true else (Ev.tyS due .list).bind fun c21 => (if c21 = true then (Ev.tyS told .list).bind fun c22 => some (!c22) else some false).bind fun c23 => some c23).bind fun c24 =>
  if c24 = true then some false else
  (Ev.tyS due .dict).bind fun c25 =>
  if c25 = true then (Ev.tyS told .dict).bind fun c26 =>
  (if c26 = true then (none).bind fun r1 => some r1 else some false).bind fun c27 =>
  some c27 else
  (lenD told).bind fun len =>
  (lenD due).bind fun len1 =>
  if (!decide (len = len1)) = true then some false else
  (lenD due).bind fun len2 =>
  (rngO 0 len2).bind fun xs1 =>
  (loopM (fun (at_ : Int) (s1 : Unit) =>
  (ixD told at_).bind fun x1 =>
  (ixD due at_).bind fun x2 =>
  (rec_ x1 x2).bind fun r2 =>
  if (!r2) = true then some (Lo.ex false) else
  some (Lo.nx ())) xs1 ()).bind (J.go fun (s2 : Unit) =>
  some true)
def s_law_same : Nat → Ev.D → Ev.D → Option Bool
  | 0 => fun _ _ => none
  | k + 1 => sb_law_same (s_law_same k)
end
end Lc

/-! M1: what the shared functions tell. -/
namespace Lc
noncomputable section
open PySem L2 Ev Rf
theorem loop_all {α β : Type} {f : α → Unit → Option (Lo Unit β)} {p : α → Bool} {b : β} : ∀ {xs : List α}, (∀ x ∈ xs, f x () = some (if p x = true then .nx () else .ex b)) → loopM f xs () = some (if xs.all p = true then .nx () else .ex b)
  | [], _ => rfl
  | x :: xs, h => by
    have h1 := h x List.mem_cons_self
    have h2 := loop_all (xs := xs) fun y hy => h y (List.mem_cons_of_mem _ hy)
    unfold loopM
    rw [h1]
    cases hp : p x with
    | false => simp [hp]
    | true => simp [hp, h2]
theorem all_get {α : Type} [DecidableEq α] : ∀ {xs ys : List α}, xs.length = ys.length → (((rngL 0 ys.length).all fun i => decide (atI xs i = atI ys i)) = true ↔ xs = ys) := fun {xs ys} hl => by
  constructor
  · intro h
    apply List.ext_getElem hl
    intro i h1 h2
    have := (List.all_eq_true.mp h) (i : Int) (mem_rngL.mpr (by omega))
    have this := of_decide_eq_true this
    rw [atI_n h1, atI_n h2] at this
    exact Option.some.inj this
  · rintro rfl
    exact List.all_eq_true.mpr fun i _ => decide_eq_true rfl
theorem sdts_mem : ∀ {xs : List Ev.D} {x : Ev.D}, sdts xs = true → x ∈ xs → sdt x = true
  | y :: ys, x, h, hx => by
    simp only [sdts, Bool.and_eq_true] at h
    rcases List.mem_cons.mp hx with rfl | hx
    · exact h.1
    · exact sdts_mem h.2 hx
theorem deps_mem : ∀ {xs : List Ev.D} {x : Ev.D}, x ∈ xs → dep x ≤ deps xs
  | y :: ys, x, hx => by
    simp only [deps]
    rcases List.mem_cons.mp hx with rfl | hx
    · omega
    · have := deps_mem hx; omega
theorem eqS_int (x y : Int) : eqS (.int x) (.int y) = some (decide (x = y)) := by simp [eqS, plb, dep]
theorem eqS_str (x y : Str) : eqS (.str x) (.str y) = some (decide (x = y)) := by simp [eqS, plb, dep]
theorem eqS_bl (x y : Bool) : eqS (.bl x) (.bl y) = some (decide (x = y)) := by cases x <;> cases y <;> rfl
theorem same_loop {k : Nat} {xs ys : List Ev.D} {told due : Ev.D} (hl : xs.length = ys.length) (h1 : ∀ i, ixD told i = atI xs i) (h2 : ∀ i, ixD due i = atI ys i) (hr : ∀ x ∈ xs, ∀ y ∈ ys, s_law_same k x y = some (decide (x = y))) :
    (loopM (fun (at_ : Int) (s1 : Unit) =>
      (ixD told at_).bind fun x1 =>
      (ixD due at_).bind fun x2 =>
      (s_law_same k x1 x2).bind fun r2 =>
      if (!r2) = true then some (Lo.ex false) else
      some (Lo.nx ())) (rngL 0 ys.length) ()) = some (if decide (xs = ys) = true then .nx () else .ex false) := by
  rw [loop_all (b := false) (p := fun i => decide (atI xs i = atI ys i))]
  · by_cases h : xs = ys
    · rw [(all_get hl).mpr h]; simp [h]
    · have : ((rngL 0 ys.length).all fun i => decide (atI xs i = atI ys i)) = false := by
        cases q : (rngL 0 ys.length).all fun i => decide (atI xs i = atI ys i) with
        | false => rfl
        | true => exact absurd ((all_get hl).mp q) h
      rw [this]; simp [h]
  · intro i hi
    obtain ⟨h3, h4⟩ := mem_rngL.mp hi
    obtain ⟨x, e1, e1'⟩ := atI_of (xs := xs) (k := i) h3 (by omega)
    obtain ⟨y, e2, e2'⟩ := atI_of (xs := ys) (k := i) h3 (by omega)
    simp only [h1, h2, e1, e2, obs, hr x (List.mem_of_getElem? e1') y (List.mem_of_getElem? e2')]
    by_cases h : x = y <;> simp [h]
/-- data that may be told to be the same, and how deep -/
def SD : Nat → Ev.D → Prop
  | _, .non => True
  | _, .bl _ => True
  | _, .int _ => True
  | _, .str _ => True
  | k + 1, .tup xs => xs.length < 1000000 ∧ ∀ x ∈ xs, SD k x
  | k + 1, .lst xs => xs.length < 1000000 ∧ ∀ x ∈ xs, SD k x
  | _, _ => False
theorem dec_tup (xs ys : List Ev.D) : decide (Ev.D.tup xs = Ev.D.tup ys) = decide (xs = ys) := by
  by_cases h : xs = ys
  · rw [h]; simp
  · rw [decide_eq_false h, decide_eq_false fun z => h (by injection z)]
theorem dec_lst (xs ys : List Ev.D) : decide (Ev.D.lst xs = Ev.D.lst ys) = decide (xs = ys) := by
  by_cases h : xs = ys
  · rw [h]; simp
  · rw [decide_eq_false h, decide_eq_false fun z => h (by injection z)]
theorem same_at (r : Ev.D → Ev.D → Option Bool) (told due : Ev.D) (h1 : sdt told = true) (h : SD 0 due) : sb_law_same r told due = some (decide (told = due)) := by
  cases due with
  | non => cases told <;> first | rfl | (exact absurd h1 (by simp [sdt]))
  | bl y => cases told with
    | bl x => cases x <;> cases y <;> rfl
    | _ => first | rfl | (exact absurd h1 (by simp [sdt]))
  | int y => cases told <;> first | rfl | (exact absurd h1 (by simp [sdt]))
  | str y => cases told <;> first | rfl | (exact absurd h1 (by simp [sdt]))
  | _ => exact h.elim
def sameT (rec_ : Ev.D → Ev.D → Option Bool) (told due : Ev.D) (n m : Nat) : Option Bool := if (!decide ((n : Int) = m)) = true then some false else
          (rngO 0 m).bind fun xs1 =>
          (loopM (fun (at_ : Int) (s1 : Unit) =>
          (ixD told at_).bind fun x1 =>
          (ixD due at_).bind fun x2 =>
          (rec_ x1 x2).bind fun r2 =>
          if (!r2) = true then some (Lo.ex false) else
          some (Lo.nx ())) xs1 ()).bind (J.go fun (s2 : Unit) =>
          some true)
theorem isN_tup (xs : List Ev.D) : cmpS .Is (.tup xs) .non = some false := rfl
theorem isN_lst (xs : List Ev.D) : cmpS .Is (.lst xs) .non = some false := rfl
theorem ty_tup (xs : List Ev.D) (t : Ty) : tyS (.tup xs) t = some (decide (t = .tuple)) := rfl
theorem ty_lst (xs : List Ev.D) (t : Ty) : tyS (.lst xs) t = some (decide (t = .list)) := rfl
theorem same_tup (r : Ev.D → Ev.D → Option Bool) (xs ys : List Ev.D) : sb_law_same r (.tup xs) (.tup ys) = sameT r (.tup xs) (.tup ys) xs.length ys.length := by
  unfold sb_law_same sameT
  simp only [isN_tup, ty_tup, lenD, obs, Bool.false_eq_true, if_false, reduceCtorEq, decide_false, decide_true, if_true, Bool.not_true, Bool.not_false]
theorem same_lst (r : Ev.D → Ev.D → Option Bool) (xs ys : List Ev.D) : sb_law_same r (.lst xs) (.lst ys) = sameT r (.lst xs) (.lst ys) xs.length ys.length := by
  unfold sb_law_same sameT
  simp only [isN_lst, ty_lst, lenD, obs, Bool.false_eq_true, if_false, reduceCtorEq, decide_false, decide_true, if_true, Bool.not_true, Bool.not_false]
theorem same_eq : ∀ (k : Nat) (told due : Ev.D), sdt told = true → SD k due → s_law_same (k + 1) told due = some (decide (told = due)) := by
  intro k
  induction k with
  | zero =>
    intro told due h1 h2
    exact same_at _ told due h1 h2
  | succ k ih =>
    intro told due h1 h2
    have fin : ∀ (xs ys : List Ev.D) (told due : Ev.D), sdts xs = true → (ys.length < 1000000 ∧ ∀ x ∈ ys, SD k x) → (∀ i, ixD told i = atI xs i) → (∀ i, ixD due i = atI ys i) → 
        sameT (s_law_same (k + 1)) told due xs.length ys.length = some (decide (xs = ys)) := fun xs ys told due hs hd q1 q2 => by
      unfold sameT
      by_cases hl : xs.length = ys.length
      · rw [if_neg (by rw [hl]; simp), rngO_n (Nat.lt_trans hd.1 (by decide)), obs, same_loop hl q1 q2 fun x hx y hy => ih x y (sdts_mem hs hx) (hd.2 y hy)]
        by_cases h : xs = ys
        · rw [decide_eq_true h]; rfl
        · rw [decide_eq_false h]; rfl
      · have h : ¬ ((xs.length : Int) = ys.length) := fun z => hl (by omega)
        rw [if_pos (by rw [decide_eq_false h]; rfl)]
        have : xs ≠ ys := fun z => hl (by rw [z])
        rw [decide_eq_false this]
    cases due with
    | tup ys =>
      cases told with
      | tup xs =>
        simp only [sdt] at h1
        rw [dec_tup]
        exact (same_tup _ xs ys).trans (fin xs ys (.tup xs) (.tup ys) h1 h2 (fun _ => rfl) (fun _ => rfl))
      | _ => first | rfl | (exact absurd h1 (by simp [sdt]))
    | lst ys =>
      cases told with
      | lst xs =>
        simp only [sdt] at h1
        rw [dec_lst]
        exact (same_lst _ xs ys).trans (fin xs ys (.lst xs) (.lst ys) h1 h2 (fun _ => rfl) (fun _ => rfl))
      | _ => first | rfl | (exact absurd h1 (by simp [sdt]))
    | non => exact same_at _ told _ h1 trivial
    | bl y => exact same_at _ told _ h1 trivial
    | int y => exact same_at _ told _ h1 trivial
    | str y => exact same_at _ told _ h1 trivial
    | _ => exact h2.elim
end
end Lc

/-! M2: the draws. -/
namespace Lc
noncomputable section
open PySem L2 Ev Rf
/-- the draws -/
theorem draws_ok (script : List Int) {count : Nat} (hc : count ≤ 100000) : W (s_law_draws script (count : Int)) fun ds => ds.length = count ∧ ∀ d ∈ ds, 0 ≤ d ∧ d < 1000 := by
  unfold s_law_draws
  have hk : (some (63 : Int)) = some ((63 : Nat) : Int) := rfl
  rw [hk, cut_take]
  simp only [obs]
  rw [lcM_eqm (g := fun cell => if cell < 0 then -cell else cell) (fun _ _ => rfl) (by rw [List.length_take]; omega)]
  simp only [obs]
  refine W.bind (P := fun s1 : List Int => 1 ≤ s1.length ∧ s1.length ≤ 63) ?_ fun cells hcells => ?_
  · refine W.ite (fun h => ⟨[0], rfl, by decide, by decide⟩) fun h => ⟨_, rfl, ?_, ?_⟩
    · simp only [decide_eq_true_eq] at h
      omega
    · rw [List.length_map, List.length_take]; omega
  rw [rngO_n (by omega)]
  simp only [obs]
  refine W.bind (foldO_rng (fun i (s : List Int × List Int) => s.1.length = i ∧ (∀ d ∈ s.1, 0 ≤ d ∧ d < 1000) ∧ s.2.length = cells.length) ?_ ⟨rfl, (fun _ h => nomatch h), rfl⟩) fun s hs => ⟨_, rfl, hs.1, hs.2.1⟩
  rintro i ⟨ds, cs⟩ hi ⟨h1, h2, h3⟩
  simp only at h1 h2 h3 ⊢
  have hpos : (0 : Int) < (cs.length : Int) := by omega
  rw [modO_of hpos]
  simp only [obs]
  have m0 := Int.emod_nonneg (i : Int) (show (cs.length : Int) ≠ 0 by omega)
  have m1 := Int.emod_lt_of_pos (i : Int) hpos
  obtain ⟨x, e1, _⟩ := atI_of (xs := cs) m0 m1
  rw [e1]
  simp only [obs]
  have app : ∀ v : Int, 0 ≤ v ∧ v < 1000 → ∀ d ∈ ds ++ [v], 0 ≤ d ∧ d < 1000 := fun v hv d hd => (List.mem_append.mp hd).elim (h2 d) fun z => by rw [List.mem_singleton.mp z]; exact hv
  refine W.bind (P := fun s : List Int × List Int => s.1.length = i + 1 ∧ (∀ d ∈ s.1, 0 ≤ d ∧ d < 1000) ∧ s.2.length = cells.length) ?_ fun s hs => ⟨_, rfl, hs⟩
  refine W.ite (fun h => ?_) fun h => ?_
  · rw [appO_of (by omega), obs, setO_of m0 m1]
    exact ⟨_, rfl, by simp [h1], app _ ⟨by omega, by omega⟩, by simp [h3]⟩
  · rw [mulO_l (by omega), obs, mulO_l (by constructor <;> omega), obs, appO_of (by omega), obs]
    exact ⟨_, rfl, by simp [h1], app _ ⟨by omega, by omega⟩, h3⟩
end
end Lc

namespace K45
open PySem L2
def L_rows_of_1 : Ev.PSs := (.cons (.ife (.cmp .Eq (.ix (.nm 4) (.cI 0)) (.cS (PySem.Str.ofString "test"))) (.cons (.exp (.mu .append (.nm 8) (.cons (.tup (.cons (.cS (PySem.Str.ofString "test")) (.cons (.ix (.nm 4) (.cI 1)) (.cons (.bi .tuple (.cons (.nm 9) .nil)) .nil)))) .nil)))
  .nil) (.cons (.exp (.mu .append (.nm 8) (.cons (.nm 4) .nil)))
  .nil))
  .nil)
def W_rows_of_1 : Ev.PX := (.nm 3)
def L_rows_of_2 : Ev.PSs := (.cons (.exp (.mu .append (.nm 3) (.cons (.tup (.cons (.nm 7) (.cons (.nm 6) .nil))) .nil)))
  .nil)
def L_rows_of_3 : Ev.PSs := (.cons (.asg (.tp (.cons (.nm 4 false) (.cons (.nm 5 false) .nil))) (.mu .pop (.nm 3) .nil))
  (.cons (.asg (.nm 6 false) (.bi .len (.cons (.nm 1) .nil)))
  (.cons (.exp (.mu .append (.nm 1) (.cons (.nm 4) .nil)))
  (.cons (.exp (.mu .append (.nm 2) (.cons (.lst .nil) .nil)))
  (.cons (.ife (.cmp .GtE (.nm 5) (.cI 0)) (.cons (.exp (.mu .append (.ix (.nm 2) (.nm 5)) (.cons (.nm 6) .nil)))
  .nil) .nil)
  (.cons (.ife (.cmp .Eq (.ix (.nm 4) (.cI 0)) (.cS (PySem.Str.ofString "test"))) (.cons (.for (.nm 7 false) (.rv (.ix (.nm 4) (.cI 2))) L_rows_of_2)
  .nil) .nil)
  .nil))))))
def b_rows_of : Ev.PSs := (.cons (.asg (.nm 1 true) (.lst .nil))
  (.cons (.asg (.nm 2 true) (.lst .nil))
  (.cons (.asg (.nm 3 true) (.lst (.cons (.tup (.cons (.nm 0) (.cons (.neg (.cI 1)) .nil))) .nil)))
  (.cons (.whl W_rows_of_1 L_rows_of_3)
  (.cons (.asg (.nm 8 true) (.lst .nil))
  (.cons (.for (.tp (.cons (.nm 4 false) (.cons (.nm 9 false) .nil))) (.zip (.tk 1) (.tk 2)) L_rows_of_1)
  (.cons (.ret (.mv 8))
  .nil)))))))
def f_rows_of : Ev.Fn := { ps := 1, nl := 10, io := [], body := b_rows_of }
def N_rows_of : List Str := ["tree", "nodes", "ends", "stack", "node", "above", "number", "branch", "rows", "after"]
def W_run_rows_1 : Ev.PX := (.cmp .Eq (.ix (.ix (.nm 0) (.nm 2)) (.cI 0)) (.cS (PySem.Str.ofString "test")))
def L_run_rows_1 : Ev.PSs := (.cons (.aug 3 false .Add (.cI 1))
  (.cons (.asg (.nm 2 false) (.ix (.ix (.ix (.nm 0) (.nm 2)) (.cI 2)) (.ix (.nm 1) (.ix (.ix (.nm 0) (.nm 2)) (.cI 1)))))
  .nil))
def b_run_rows : Ev.PSs := (.cons (.asg (.nm 2 false) (.cI 0))
  (.cons (.asg (.nm 3 false) (.cI 0))
  (.cons (.whl W_run_rows_1 L_run_rows_1)
  (.cons (.ife (.cmp .Eq (.ix (.ix (.nm 0) (.nm 2)) (.cI 0)) (.cS (PySem.Str.ofString "tell"))) (.cons (.ret (.tup (.cons (.ix (.ix (.nm 0) (.nm 2)) (.cI 1)) (.cons (.nm 3) .nil))))
  .nil) .nil)
  (.cons (.ret (.tup (.cons (.neg (.cI 1)) (.cons (.nm 3) .nil))))
  .nil)))))
def f_run_rows : Ev.Fn := { ps := 2, nl := 4, io := [], body := b_run_rows }
def N_run_rows : List Str := ["rows", "reading", "at", "tests"]
def L_law_draws_1 : Ev.PSs := (.cons (.asg (.nm 5 false) (.bin .Mod (.bi .int (.cons (.nm 4) .nil)) (.bi .len (.cons (.nm 2) .nil))))
  (.cons (.asg (.nm 6 false) (.ix (.nm 2) (.nm 5)))
  (.cons (.ife (.cmp .GtE (.nm 6) (.cI 1000000000000000000)) (.cons (.exp (.mu .append (.nm 3) (.cons (.bin .Mod (.bi .int (.cons (.nm 6) .nil)) (.cI 1000)) .nil)))
  (.cons (.asg (.sub (.nm 2) (.nm 5)) (.bin .FloorDiv (.nm 6) (.cI 1000)))
  .nil)) (.cons (.asg (.nm 7 false) (.bin .Mod (.bi .int (.cons (.bin .Add (.bin .Add (.bin .Mult (.nm 6) (.cI 48271)) (.bin .Mult (.nm 4) (.cI 69621))) (.cI 11)) .nil)) (.cI 2147483647)))
  (.cons (.asg (.nm 7 false) (.bin .Mod (.bi .int (.cons (.bin .Add (.bin .Add (.bin .Mult (.nm 7) (.cI 16807)) (.bin .FloorDiv (.nm 6) (.cI 7))) (.bin .Mult (.bin .Mult (.nm 4) (.nm 4)) (.cI 40014))) .nil)) (.cI 2147483563)))
  (.cons (.asg (.nm 7 false) (.bin .Mod (.bi .int (.cons (.bin .Add (.bin .Mult (.nm 7) (.bin .Add (.bin .Add (.bin .FloorDiv (.nm 7) (.cI 1024)) (.nm 4)) (.cI 1))) (.nm 6)) .nil)) (.cI 2147483629)))
  (.cons (.exp (.mu .append (.nm 3) (.cons (.bin .Mod (.bi .int (.cons (.bin .FloorDiv (.nm 7) (.cI 37)) .nil)) (.cI 1000)) .nil)))
  .nil)))))
  .nil)))
def X_law_draws_1 : Ev.PX := (.bi .abs (.cons (.bi .int (.cons (.nm 6) .nil)) .nil))
def b_law_draws : Ev.PSs := (.cons (.asg (.nm 2 true) (.lc (.nm 6 false) (.vl (.sl (.nm 0) .none (.some (.cI 63)))) .nil X_law_draws_1 [6]))
  (.cons (.ife (.cmp .Eq (.bi .len (.cons (.nm 2) .nil)) (.cI 0)) (.cons (.asg (.nm 2 true) (.lst (.cons (.cI 0) .nil)))
  .nil) .nil)
  (.cons (.asg (.nm 3 true) (.lst .nil))
  (.cons (.for (.nm 4 false) (.rg1 (.nm 1)) L_law_draws_1)
  (.cons (.ret (.mv 3))
  .nil)))))
def f_law_draws : Ev.Fn := { ps := 2, nl := 8, io := [], body := b_law_draws }
def N_law_draws : List Str := ["script", "count", "cells", "draws", "k", "at", "cell", "mixed"]
def L_law_same_1 : Ev.PSs := (.cons (.ife (.not (.call 3 (.cons (.ix (.nm 0) (.nm 2)) (.cons (.ix (.nm 1) (.nm 2)) .nil)))) (.cons (.ret (.cB false))
  .nil) .nil)
  .nil)
def b_law_same : Ev.PSs := (.cons (.ife (.cmp .Is (.nm 1) .cN) (.cons (.ret (.cmp .Is (.nm 0) .cN))
  .nil) .nil)
  (.cons (.ife (.or (.isi (.nm 1) .bool) (.isi (.nm 0) .bool)) (.cons (.ret (.and (.isi (.nm 1) .bool) (.and (.isi (.nm 0) .bool) (.cmp .Eq (.nm 0) (.nm 1)))))
  .nil) .nil)
  (.cons (.ife (.isi (.nm 1) .int) (.cons (.ret (.and (.isi (.nm 0) .int) (.cmp .Eq (.nm 0) (.nm 1))))
  .nil) .nil)
  (.cons (.ife (.isi (.nm 1) .str) (.cons (.ret (.and (.isi (.nm 0) .str) (.cmp .Eq (.nm 0) (.nm 1))))
  .nil) .nil)
  (.cons (.ife (.or (.and (.isi (.nm 1) .tuple) (.not (.isi (.nm 0) .tuple))) (.and (.isi (.nm 1) .list) (.not (.isi (.nm 0) .list)))) (.cons (.ret (.cB false))
  .nil) .nil)
  (.cons (.ife (.isi (.nm 1) .dict) (.cons (.ret (.and (.isi (.nm 0) .dict) (.call 4 (.cons (.nm 0) (.cons (.nm 1) .nil)))))
  .nil) .nil)
  (.cons (.ife (.cmp .NotEq (.bi .len (.cons (.nm 0) .nil)) (.bi .len (.cons (.nm 1) .nil))) (.cons (.ret (.cB false))
  .nil) .nil)
  (.cons (.for (.nm 2 false) (.rg1 (.bi .len (.cons (.nm 1) .nil))) L_law_same_1)
  (.cons (.ret (.cB true))
  .nil)))))))))
def f_law_same : Ev.Fn := { ps := 2, nl := 3, io := [], body := b_law_same }
def N_law_same : List Str := ["told", "due", "at"]
def X_law_same_rows_1 : Ev.PX := (.isi (.nm 3) .bool)
def L_law_same_rows_1 : Ev.PSs := (.cons (.ife (.or (.not (.isi (.nm 2) .tuple)) (.bi .any (.cons (.lc (.nm 3 false) (.vl (.nm 2)) .nil X_law_same_rows_1 [3]) .nil))) (.cons (.ret (.cB false))
  .nil) .nil)
  .nil)
def L_law_same_rows_2 : Ev.PSs := (.cons (.ife (.or (.cmp .NotIn (.nm 2) (.nm 0)) (.not (.call 3 (.cons (.ix (.nm 0) (.nm 2)) (.cons (.ix (.nm 1) (.nm 2)) .nil))))) (.cons (.ret (.cB false))
  .nil) .nil)
  .nil)
def b_law_same_rows : Ev.PSs := (.cons (.ife (.cmp .NotEq (.bi .len (.cons (.nm 0) .nil)) (.bi .len (.cons (.nm 1) .nil))) (.cons (.ret (.cB false))
  .nil) .nil)
  (.cons (.for (.nm 2 false) (.vl (.nm 1)) L_law_same_rows_2)
  (.cons (.for (.nm 2 false) (.vl (.nm 0)) L_law_same_rows_1)
  (.cons (.ret (.cB true))
  .nil))))
def f_law_same_rows : Ev.Fn := { ps := 2, nl := 4, io := [], body := b_law_same_rows }
def N_law_same_rows : List Str := ["told", "due", "key", "part"]
def X_law_readings_of_1 : Ev.PX := (.bin .Add (.nm 5) (.tup (.cons (.nm 6) .nil)))
def L_law_readings_of_1 : Ev.PSs := (.cons (.asg (.nm 4 false) (.bin .Add (.nm 4) (.lc (.nm 6 false) (.vl (.nm 1)) .nil X_law_readings_of_1 [6])))
  .nil)
def L_law_readings_of_2 : Ev.PSs := (.cons (.asg (.nm 4 false) (.lst .nil))
  (.cons (.for (.nm 5 false) (.vl (.nm 2)) L_law_readings_of_1)
  (.cons (.asg (.nm 2 false) (.nm 4))
  .nil)))
def b_law_readings_of : Ev.PSs := (.cons (.asg (.nm 2 false) (.lst (.cons (.tup .nil) .nil)))
  (.cons (.for (.nm 3 false) (.rg1 (.nm 0)) L_law_readings_of_2)
  (.cons (.ret (.nm 2))
  .nil)))
def f_law_readings_of : Ev.Fn := { ps := 2, nl := 7, io := [], body := b_law_readings_of }
def N_law_readings_of : List Str := ["fields", "entries", "readings", "turn", "longer", "reading", "entry"]
def X_law_tree_of_1 : Ev.PX := (.ix (.nm 1) (.nm 4))
def L_law_tree_of_1 : Ev.PSs := (.cons (.asg (.nm 3 false) (.bin .Sub (.bin .Sub (.bi .len (.cons (.nm 0) .nil)) (.cI 1)) (.nm 2)))
  (.cons (.asg (.sub (.nm 1) (.nm 3)) (.ix (.nm 0) (.nm 3)))
  (.cons (.ife (.cmp .Eq (.ix (.ix (.nm 0) (.nm 3)) (.cI 0)) (.cS (PySem.Str.ofString "test"))) (.cons (.asg (.sub (.nm 1) (.nm 3)) (.tup (.cons (.cS (PySem.Str.ofString "test")) (.cons (.ix (.ix (.nm 0) (.nm 3)) (.cI 1)) (.cons (.bi .tuple (.cons (.lc (.nm 4 false) (.vl (.ix (.ix (.nm 0) (.nm 3)) (.cI 2))) .nil X_law_tree_of_1 [4]) .nil)) .nil)))))
  .nil) .nil)
  .nil)))
def b_law_tree_of : Ev.PSs := (.cons (.asg (.nm 1 true) .dic)
  (.cons (.for (.nm 2 false) (.rg1 (.bi .len (.cons (.nm 0) .nil))) L_law_tree_of_1)
  (.cons (.ret (.ix (.nm 1) (.cI 0)))
  .nil)))
def f_law_tree_of : Ev.Fn := { ps := 1, nl := 5, io := [], body := b_law_tree_of }
def N_law_tree_of : List Str := ["rows", "made", "back", "at", "end"]
def L_law_listed_1 : Ev.PSs := (.cons (.ife (.cmp .Eq (.ix (.ix (.nm 0) (.ix (.nm 1) (.nm 8))) (.cI 0)) (.cS (PySem.Str.ofString "test"))) (.cons (.exp (.mu .append (.nm 7) (.cons (.tup (.cons (.cS (PySem.Str.ofString "test")) (.cons (.ix (.ix (.nm 0) (.ix (.nm 1) (.nm 8))) (.cI 1)) (.cons (.ix (.nm 2) (.nm 8)) .nil)))) .nil)))
  .nil) (.cons (.exp (.mu .append (.nm 7) (.cons (.ix (.nm 0) (.ix (.nm 1) (.nm 8))) .nil)))
  .nil))
  .nil)
def X_law_listed_1 : Ev.PX := (.tup (.cons (.nm 9) (.cons (.bi .len (.cons (.nm 1) .nil)) .nil)))
def L_law_listed_2 : Ev.PSs := (.cons (.ife (.cmp .Gt (.bi .len (.cons (.nm 3) .nil)) (.cI 0)) (.cons (.asg (.tp (.cons (.nm 5 false) (.cons (.nm 6 false) .nil))) (.mu .pop (.nm 3) .nil))
  (.cons (.ife (.cmp .GtE (.nm 6) (.cI 0)) (.cons (.asg (.sub (.nm 2) (.nm 6)) (.bin .Add (.ix (.nm 2) (.nm 6)) (.tup (.cons (.bi .len (.cons (.nm 1) .nil)) .nil))))
  .nil) .nil)
  (.cons (.ife (.cmp .Eq (.ix (.ix (.nm 0) (.nm 5)) (.cI 0)) (.cS (PySem.Str.ofString "test"))) (.cons (.asg (.nm 3 true) (.bin .Add (.nm 3) (.lc (.nm 9 false) (.vl (.rev (.ix (.ix (.nm 0) (.nm 5)) (.cI 2)))) .nil X_law_listed_1 [9])))
  .nil) .nil)
  (.cons (.exp (.mu .append (.nm 1) (.cons (.nm 5) .nil)))
  (.cons (.exp (.mu .append (.nm 2) (.cons (.tup .nil) .nil)))
  .nil))))) .nil)
  .nil)
def b_law_listed : Ev.PSs := (.cons (.asg (.nm 1 true) (.lst .nil))
  (.cons (.asg (.nm 2 true) (.lst .nil))
  (.cons (.asg (.nm 3 true) (.lst (.cons (.tup (.cons (.cI 0) (.cons (.neg (.cI 1)) .nil))) .nil)))
  (.cons (.for (.nm 4 false) (.rg1 (.cI 1000)) L_law_listed_2)
  (.cons (.asg (.nm 7 true) (.lst .nil))
  (.cons (.for (.nm 8 false) (.rg1 (.bi .len (.cons (.nm 1) .nil))) L_law_listed_1)
  (.cons (.ret (.mv 7))
  .nil)))))))
def f_law_listed : Ev.Fn := { ps := 1, nl := 10, io := [], body := b_law_listed }
def N_law_listed : List Str := ["rows", "nodes", "ends", "stack", "turn", "at", "above", "listed", "k", "end"]
def L_law_run_1 : Ev.PSs := (.cons (.ife (.cmp .Eq (.ix (.ix (.nm 0) (.nm 2)) (.cI 0)) (.cS (PySem.Str.ofString "test"))) (.cons (.asg (.nm 2 false) (.ix (.ix (.ix (.nm 0) (.nm 2)) (.cI 2)) (.ix (.nm 1) (.ix (.ix (.nm 0) (.nm 2)) (.cI 1)))))
  (.cons (.asg (.nm 3 false) (.bin .Add (.nm 3) (.cI 1)))
  .nil)) .nil)
  .nil)
def b_law_run : Ev.PSs := (.cons (.asg (.nm 2 false) (.cI 0))
  (.cons (.asg (.nm 3 false) (.cI 0))
  (.cons (.for (.nm 4 false) (.rg1 (.bi .len (.cons (.nm 0) .nil))) L_law_run_1)
  (.cons (.ife (.cmp .Eq (.ix (.ix (.nm 0) (.nm 2)) (.cI 0)) (.cS (PySem.Str.ofString "tell"))) (.cons (.ret (.tup (.cons (.ix (.ix (.nm 0) (.nm 2)) (.cI 1)) (.cons (.nm 3) .nil))))
  .nil) .nil)
  (.cons (.ret (.tup (.cons (.neg (.cI 1)) (.cons (.nm 3) .nil))))
  .nil)))))
def f_law_run : Ev.Fn := { ps := 2, nl := 5, io := [], body := b_law_run }
def N_law_run : List Str := ["rows", "reading", "at", "tests", "turn"]
def X_law_drawn_rows_1 : Ev.PX := (.or (.not (.nm 4)) (.cmp .Eq (.nm 11) (.bin .Mod (.bi .int (.cons (.bin .FloorDiv (.nm 9) (.cI 7)) .nil)) (.nm 1))))
def L_law_drawn_rows_1 : Ev.PSs := (.cons (.ife (.cmp .Lt (.nm 8) (.bi .len (.cons (.nm 5) .nil))) (.cons (.asg (.nm 9 false) (.bin .FloorDiv (.bi .int (.cons (.ix (.nm 0) (.bin .Add (.cI 10) (.bin .Mod (.bi .int (.cons (.nm 8) .nil)) (.cI 24)))) .nil)) (.bin .Add (.cI 1) (.bin .FloorDiv (.nm 8) (.cI 24)))))
  (.cons (.asg (.nm 10 false) (.and (.ix (.nm 7) (.nm 8)) (.and (.cmp .Lt (.ix (.nm 6) (.nm 8)) (.nm 3)) (.cmp .LtE (.bin .Add (.bi .len (.cons (.nm 5) .nil)) (.nm 1)) (.cI 70)))))
  (.cons (.ife (.and (.nm 10) (.or (.cmp .Eq (.nm 8) (.cI 0)) (.or (.nm 4) (.cmp .Gt (.bin .Mod (.bi .int (.cons (.nm 9) .nil)) (.cI 3)) (.cI 0))))) (.cons (.asg (.sub (.nm 5) (.nm 8)) (.tup (.cons (.cS (PySem.Str.ofString "test")) (.cons (.bin .Mod (.bi .int (.cons (.bin .FloorDiv (.nm 9) (.cI 3)) .nil)) (.nm 2)) (.cons (.trng (.rg2 (.bi .len (.cons (.nm 5) .nil)) (.bin .Add (.bi .len (.cons (.nm 5) .nil)) (.nm 1)))) .nil)))))
  (.cons (.asg (.nm 5 true) (.bin .Add (.nm 5) (.bin .Mult (.lst (.cons (.tup .nil) .nil)) (.nm 1))))
  (.cons (.asg (.nm 6 false) (.bin .Add (.nm 6) (.bin .Mult (.lst (.cons (.bin .Add (.ix (.nm 6) (.nm 8)) (.cI 1)) .nil)) (.nm 1))))
  (.cons (.asg (.nm 7 false) (.bin .Add (.nm 7) (.lc (.nm 11 false) (.rg1 (.nm 1)) .nil X_law_drawn_rows_1 [11])))
  .nil)))) (.cons (.ife (.cmp .Eq (.bin .Mod (.bi .int (.cons (.nm 9) .nil)) (.cI 4)) (.cI 0)) (.cons (.asg (.sub (.nm 5) (.nm 8)) (.tup (.cons (.cS (PySem.Str.ofString "never")) .nil)))
  .nil) (.cons (.asg (.sub (.nm 5) (.nm 8)) (.tup (.cons (.cS (PySem.Str.ofString "tell")) (.cons (.bin .Mod (.bi .int (.cons (.bin .Add (.bin .Mult (.nm 9) (.cI 7)) (.nm 8)) .nil)) (.cI 1000)) .nil))))
  .nil))
  .nil))
  .nil))) .nil)
  .nil)
def b_law_drawn_rows : Ev.PSs := (.cons (.asg (.nm 5 true) (.lst (.cons (.tup .nil) .nil)))
  (.cons (.asg (.nm 6 false) (.lst (.cons (.cI 0) .nil)))
  (.cons (.asg (.nm 7 false) (.lst (.cons (.cB true) .nil)))
  (.cons (.for (.nm 8 false) (.rg1 (.cI 80)) L_law_drawn_rows_1)
  (.cons (.ret (.mv 5))
  .nil)))))
def f_law_drawn_rows : Ev.Fn := { ps := 5, nl := 12, io := [], body := b_law_drawn_rows }
def N_law_drawn_rows : List Str := ["draws", "many", "fields", "deep", "chain", "rows", "levels", "live", "k", "drawn", "goes", "worth"]
def X_law_hand_rows_1 : Ev.PX := (.bin .Add (.bin .Add (.nm 5) (.cI 1)) (.bin .Mod (.bi .int (.cons (.bin .FloorDiv (.nm 6) (.ix (.tup (.cons (.cI 5) (.cons (.cI 7) (.cons (.cI 11) (.cons (.cI 17) .nil))))) (.nm 9))) .nil)) (.nm 7)))
def L_law_hand_rows_1 : Ev.PSs := (.cons (.asg (.nm 6 false) (.bi .int (.cons (.ix (.nm 0) (.bin .Add (.cI 40) (.bin .Mod (.bi .int (.cons (.nm 5) .nil)) (.cI 30)))) .nil)))
  (.cons (.ife (.and (.cmp .Lt (.nm 5) (.bin .Sub (.nm 3) (.cI 1))) (.or (.cmp .Eq (.nm 5) (.cI 0)) (.cmp .Gt (.bin .Mod (.bi .int (.cons (.nm 6) .nil)) (.cI 5)) (.cI 0)))) (.cons (.asg (.nm 7 false) (.bi .min2 (.cons (.cI 5) (.cons (.bin .Sub (.bin .Sub (.nm 3) (.cI 1)) (.nm 5)) .nil))))
  (.cons (.asg (.nm 8 false) (.lc (.nm 9 false) (.rg1 (.nm 1)) .nil X_law_hand_rows_1 [9]))
  (.cons (.exp (.mu .append (.nm 4) (.cons (.tup (.cons (.cS (PySem.Str.ofString "test")) (.cons (.bin .Mod (.bi .int (.cons (.bin .FloorDiv (.nm 6) (.cI 13)) .nil)) (.nm 2)) (.cons (.bi .tuple (.cons (.nm 8) .nil)) .nil)))) .nil)))
  .nil))) (.cons (.ife (.cmp .Eq (.bin .Mod (.bi .int (.cons (.nm 6) .nil)) (.cI 3)) (.cI 0)) (.cons (.exp (.mu .append (.nm 4) (.cons (.tup (.cons (.cS (PySem.Str.ofString "never")) .nil)) .nil)))
  .nil) (.cons (.exp (.mu .append (.nm 4) (.cons (.tup (.cons (.cS (PySem.Str.ofString "tell")) (.cons (.bin .Mod (.bi .int (.cons (.bin .Add (.bin .Mult (.nm 6) (.cI 3)) (.nm 5)) .nil)) (.cI 1000)) .nil))) .nil)))
  .nil))
  .nil))
  .nil))
def b_law_hand_rows : Ev.PSs := (.cons (.asg (.nm 4 true) (.lst .nil))
  (.cons (.for (.nm 5 false) (.rg1 (.nm 3)) L_law_hand_rows_1)
  (.cons (.ret (.mv 4))
  .nil)))
def f_law_hand_rows : Ev.Fn := { ps := 4, nl := 10, io := [], body := b_law_hand_rows }
def N_law_hand_rows : List Str := ["draws", "many", "fields", "count", "rows", "k", "drawn", "room", "ends", "worth"]
def X_law_size_1 : Ev.PX := (.ix (.nm 1) (.nm 4))
def L_law_size_1 : Ev.PSs := (.cons (.asg (.nm 3 false) (.bin .Sub (.bin .Sub (.bi .len (.cons (.nm 0) .nil)) (.cI 1)) (.nm 2)))
  (.cons (.asg (.sub (.nm 1) (.nm 3)) (.cI 1))
  (.cons (.ife (.cmp .Eq (.ix (.ix (.nm 0) (.nm 3)) (.cI 0)) (.cS (PySem.Str.ofString "test"))) (.cons (.asg (.sub (.nm 1) (.nm 3)) (.bin .Add (.cI 1) (.bi .sum (.cons (.lc (.nm 4 false) (.vl (.ix (.ix (.nm 0) (.nm 3)) (.cI 2))) .nil X_law_size_1 [4]) .nil))))
  .nil) .nil)
  .nil)))
def b_law_size : Ev.PSs := (.cons (.asg (.nm 1 true) .dic)
  (.cons (.for (.nm 2 false) (.rg1 (.bi .len (.cons (.nm 0) .nil))) L_law_size_1)
  (.cons (.ret (.ix (.nm 1) (.cI 0)))
  .nil)))
def f_law_size : Ev.Fn := { ps := 1, nl := 5, io := [], body := b_law_size }
def N_law_size : List Str := ["rows", "sizes", "back", "at", "end"]
def L_law_moved_1 : Ev.PSs := (.cons (.ife (.cmp .Eq (.ix (.nm 4) (.cI 0)) (.cS (PySem.Str.ofString "test"))) (.cons (.exp (.mu .append (.nm 3) (.cons (.tup (.cons (.cS (PySem.Str.ofString "test")) (.cons (.bin .Add (.nm 1) (.bin .Mult (.nm 2) (.ix (.nm 4) (.cI 1)))) (.cons (.ix (.nm 4) (.cI 2)) .nil)))) .nil)))
  .nil) (.cons (.exp (.mu .append (.nm 3) (.cons (.nm 4) .nil)))
  .nil))
  .nil)
def b_law_moved : Ev.PSs := (.cons (.asg (.nm 3 true) (.lst .nil))
  (.cons (.for (.nm 4 false) (.vl (.nm 0)) L_law_moved_1)
  (.cons (.ret (.mv 3))
  .nil)))
def f_law_moved : Ev.Fn := { ps := 3, nl := 5, io := [], body := b_law_moved }
def N_law_moved : List Str := ["rows", "first", "stretch", "moved", "row"]
def L_law_wide_1 : Ev.PSs := (.cons (.asg (.sub (.nm 3) (.bin .Add (.nm 1) (.bin .Mult (.nm 2) (.nm 4)))) (.ix (.nm 0) (.nm 4)))
  .nil)
def b_law_wide : Ev.PSs := (.cons (.asg (.nm 3 true) (.bin .Mult (.lst (.cons (.cI 1) .nil)) (.bin .Add (.nm 1) (.bin .Mult (.nm 2) (.bi .len (.cons (.nm 0) .nil))))))
  (.cons (.for (.nm 4 false) (.rg1 (.bi .len (.cons (.nm 0) .nil))) L_law_wide_1)
  (.cons (.ret (.bi .tuple (.cons (.nm 3) .nil)))
  .nil)))
def f_law_wide : Ev.Fn := { ps := 3, nl := 5, io := [], body := b_law_wide }
def N_law_wide : List Str := ["reading", "first", "stretch", "wide", "k"]
def L_law_1 : Ev.PSs := (.cons (.asg (.nm 15 false) (.call 13 (.cons (.nm 14) (.cons (.nm 4) (.cons (.nm 5) .nil)))))
  (.cons (.asg (.nm 16 false) (.call 8 (.cons (.nm 7) (.cons (.nm 15) .nil))))
  (.cons (.asg (.nm 17 false) (.call 8 (.cons (.nm 9) (.cons (.nm 15) .nil))))
  (.cons (.ife (.or (.not (.call 3 (.cons (.call 1 (.cons (.bi .list (.cons (.nm 11) .nil)) (.cons (.nm 15) .nil))) (.cons (.nm 16) .nil)))) (.not (.call 3 (.cons (.call 1 (.cons (.bi .tuple (.cons (.nm 11) .nil)) (.cons (.nm 15) .nil))) (.cons (.nm 16) .nil))))) (.cons (.ret (.cB false))
  .nil) .nil)
  (.cons (.ife (.or (.not (.call 3 (.cons (.call 1 (.cons (.nm 13) (.cons (.nm 15) .nil))) (.cons (.nm 17) .nil)))) (.not (.call 3 (.cons (.call 1 (.cons (.bi .tuple (.cons (.nm 9) .nil)) (.cons (.nm 15) .nil))) (.cons (.nm 17) .nil))))) (.cons (.ret (.cB false))
  .nil) .nil)
  .nil)))))
def b_law : Ev.PSs := (.cons (.asg (.nm 1 false) (.call 2 (.cons (.nm 0) (.cons (.cI 70) .nil))))
  (.cons (.asg (.nm 2 false) (.bin .Add (.cI 2) (.bin .Mod (.bi .int (.cons (.ix (.nm 1) (.cI 1)) .nil)) (.cI 3))))
  (.cons (.asg (.nm 3 false) (.bin .Add (.cI 1) (.bin .Mod (.bi .int (.cons (.ix (.nm 1) (.cI 2)) .nil)) (.ix (.tup (.cons (.cI 5) (.cons (.cI 3) (.cons (.cI 2) .nil)))) (.bin .Sub (.nm 2) (.cI 2))))))
  (.cons (.asg (.nm 4 false) (.bin .Mod (.bi .int (.cons (.ix (.nm 1) (.cI 5)) .nil)) (.cI 6)))
  (.cons (.asg (.nm 5 false) (.cI 1))
  (.cons (.ife (.cmp .Eq (.bin .Mod (.bi .int (.cons (.ix (.nm 1) (.cI 6)) .nil)) (.cI 2)) (.cI 1)) (.cons (.asg (.nm 5 false) (.bin .Add (.cI 1) (.bin .Mod (.bin .FloorDiv (.bi .int (.cons (.ix (.nm 1) (.cI 6)) .nil)) (.cI 2)) (.cI 24))))
  .nil) .nil)
  (.cons (.asg (.nm 6 false) (.bin .Mod (.bi .int (.cons (.ix (.nm 1) (.cI 0)) .nil)) (.cI 3)))
  (.cons (.asg (.nm 7 false) (.call 9 (.cons (.nm 1) (.cons (.nm 2) (.cons (.nm 3) (.cons (.bin .Mod (.bi .int (.cons (.ix (.nm 1) (.cI 3)) .nil)) (.cI 9)) (.cons (.cmp .Eq (.nm 6) (.cI 1)) .nil)))))))
  (.cons (.asg (.nm 8 false) (.call 10 (.cons (.nm 1) (.cons (.nm 2) (.cons (.nm 3) (.cons (.bin .Add (.cI 1) (.bin .Mod (.bi .int (.cons (.ix (.nm 1) (.cI 4)) .nil)) (.cI 7))) .nil))))))
  (.cons (.ife (.and (.cmp .Eq (.nm 6) (.cI 2)) (.cmp .LtE (.call 11 (.cons (.nm 8) .nil)) (.cI 300))) (.cons (.asg (.nm 7 false) (.nm 8))
  .nil) .nil)
  (.cons (.asg (.nm 7 false) (.call 12 (.cons (.nm 7) (.cons (.nm 4) (.cons (.nm 5) .nil)))))
  (.cons (.asg (.nm 9 false) (.call 12 (.cons (.call 10 (.cons (.nm 1) (.cons (.nm 2) (.cons (.nm 3) (.cons (.bin .Add (.cI 1) (.bin .Mod (.bi .int (.cons (.ix (.nm 1) (.cI 4)) .nil)) (.cI 30))) .nil))))) (.cons (.nm 4) (.cons (.nm 5) .nil)))))
  (.cons (.asg (.nm 10 false) (.call 6 (.cons (.nm 7) .nil)))
  (.cons (.asg (.nm 11 false) (.call 7 (.cons (.nm 7) .nil)))
  (.cons (.asg (.nm 12 true) (.call 0 (.cons (.nm 10) .nil)))
  (.cons (.ife (.not (.call 3 (.cons (.nm 12) (.cons (.nm 11) .nil)))) (.cons (.ret (.cB false))
  .nil) .nil)
  (.cons (.exp (.mu .append (.nm 12) (.cons (.tup (.cons (.cS (PySem.Str.ofString "never")) .nil)) .nil)))
  (.cons (.asg (.sub (.nm 12) (.cI 0)) (.tup (.cons (.cS (PySem.Str.ofString "tell")) (.cons (.cI 1000) .nil))))
  (.cons (.ife (.not (.call 3 (.cons (.call 0 (.cons (.nm 10) .nil)) (.cons (.nm 11) .nil)))) (.cons (.ret (.cB false))
  .nil) .nil)
  (.cons (.asg (.nm 13 false) (.bi .list (.cons (.nm 9) .nil)))
  (.cons (.for (.nm 14 false) (.vl (.call 5 (.cons (.nm 3) (.cons (.lrng (.rg1 (.nm 2))) .nil)))) L_law_1)
  (.cons (.ret (.call 3 (.cons (.nm 13) (.cons (.nm 9) .nil))))
  .nil))))))))))))))))))))))
def f_law : Ev.Fn := { ps := 1, nl := 18, io := [], body := b_law }
def N_law : List Str := ["script", "draws", "many", "fields", "first", "stretch", "kind", "rows", "met", "hand", "tree", "due", "told", "handed", "reading", "wide", "ran", "met_ran"]
def fns : Nat → Option Ev.Fn
  | 0 => some f_rows_of
  | 1 => some f_run_rows
  | 2 => some f_law_draws
  | 3 => some f_law_same
  | 4 => some f_law_same_rows
  | 5 => some f_law_readings_of
  | 6 => some f_law_tree_of
  | 7 => some f_law_listed
  | 8 => some f_law_run
  | 9 => some f_law_drawn_rows
  | 10 => some f_law_hand_rows
  | 11 => some f_law_size
  | 12 => some f_law_moved
  | 13 => some f_law_wide
  | 14 => some f_law
  | _ => none
def nms : Nat → Option Str
  | 0 => some "rows_of"
  | 1 => some "run_rows"
  | 2 => some "_law_draws"
  | 3 => some "_law_same"
  | 4 => some "_law_same_rows"
  | 5 => some "_law_readings_of"
  | 6 => some "_law_tree_of"
  | 7 => some "_law_listed"
  | 8 => some "_law_run"
  | 9 => some "_law_drawn_rows"
  | 10 => some "_law_hand_rows"
  | 11 => some "_law_size"
  | 12 => some "_law_moved"
  | 13 => some "_law_wide"
  | 14 => some "law"
  | _ => none
end K45

namespace K45
open PySem L2 Ev Rf
noncomputable section
def s_rows_of (tree : DI) : Option (List DI) :=
  (some []).bind fun nodes =>
  (some []).bind fun ends =>
  (some ([(tree, (-1))])).bind fun stack =>
  (whU (fun (s1 : (List (DI × Int)) × (List DI) × (List (List Int))) => some (!s1.1.isEmpty)) (fun (s2 : (List (DI × Int)) × (List DI) × (List (List Int))) =>
  (popO s2.1).bind fun q =>
  (fun top stack1 => (some (s2.2.1.length : Int)).bind fun number =>
  (appO s2.2.1 top.1).bind fun nodes1 =>
  (appO s2.2.2 []).bind fun ends1 =>
  (if (decide (0 ≤ top.2)) = true then (appAtO ends1 top.2 number).bind fun ends2 =>
  some ends2 else some ends1).bind fun (s3 : List (List Int)) =>
  (ixX top.1 0).bind fun x1 =>
  (Ev.cmpS .Eq (eX x1) (eS (PySem.Str.ofString "test"))).bind fun c =>
  (if c = true then (ixX top.1 2).bind fun x2 =>
  (tupX x2).bind fun ts =>
  (foldO (fun (branch : DI) (s4 : List (DI × Int)) =>
  (appO s4 (branch, number)).bind fun stack2 =>
  some stack2) ts.reverse stack1).bind fun (s5 : List (DI × Int)) =>
  some s5 else some stack1).bind fun (s6 : List (DI × Int)) =>
  some (Lo.nx (s6, nodes1, s3))) q.1 q.2) (stack, nodes, ends)).bind (J.go fun (s7 : (List (DI × Int)) × (List DI) × (List (List Int))) =>
  (some []).bind fun rows =>
  (foldO (fun (p1 : DI × (List Int)) (s8 : List DI) =>
  (ixX p1.1 0).bind fun x3 =>
  (Ev.cmpS .Eq (eX x3) (eS (PySem.Str.ofString "test"))).bind fun c1 =>
  (if c1 = true then (ixX p1.1 1).bind fun x4 =>
  (appO s8 (⟨(eP3 eS eX (eT eI)) ((PySem.Str.ofString "test"), x4, p1.2), (nmP3 nmS nmX (nmT nmI)) _⟩ : DI)).bind fun rows1 =>
  some rows1 else (appO s8 p1.1).bind fun rows2 =>
  some rows2).bind fun (s9 : List DI) =>
  some s9) (s7.2.1.zip s7.2.2) rows).bind fun (s10 : List DI) =>
  some s10)
theorem k_rows_of (n : Nat) (tree : DI) : ∀ r, s_rows_of tree = some r → SPn fns (n + 1) 0 [eX tree] ((eL eX) r) .dp := by
  refine f_def (n := n + 0) (fn := f_rows_of) rfl rfl rfl ?_
  show BX _ b_rows_of [some (eX tree, .fro), none, none, none, none, none, none, none, none, none] _ _
  refine b_bind (r_of (en := (eL eX)) (v_lst vl_nil nms_nil (Nat.le_of_ble_eq_true rfl))) fun nodes h => ?_
  refine b_asg h (at_nK (i := 1) rfl rfl) rfl ?_
  refine b_bind (r_of (en := (eL (eL eI))) (v_lst vl_nil nms_nil (Nat.le_of_ble_eq_true rfl))) fun ends h1 => ?_
  refine b_asg h1 (at_nK (i := 2) rfl rfl) rfl ?_
  refine b_bind (r_of (en := (eL (eP2 eX eI))) (v_lst (vl_cons (v_tup (vl_cons (v_nmF (i := 0) rfl) (vl_cons (v_neg (v_cI (i := 1))) vl_nil rfl) rfl) (Nat.le_of_ble_eq_true rfl)) vl_nil rfl) (nms_cons ((nmP2 nmX nmI) _) nms_nil) (Nat.le_of_ble_eq_true rfl))) fun stack h2 => ?_
  refine b_asg h2 (at_nK (i := 3) rfl rfl) rfl ?_
  refine b_whl (E := (fun (s : (List (DI × Int)) × (List DI) × (List (List Int))) (u : UC × UC × UC × UC) => ([some (eX tree, .fro), some ((eL eX) s.2.1, .deep), some ((eL (eL eI)) s.2.2, .deep), some ((eL (eP2 eX eI)) s.1, .deep), u.1.c, u.2.1.c, u.2.2.1.c, u.2.2.2.c, none, none] : Ev.En))) (UC.no, UC.no, UC.no, UC.no) rfl rfl (fun s1 u1 => (rt_of (t_L (en := (eP2 eX eI)) (v_nmB (i := 3) rfl)))) ?_ ?_
  · intro s2 u2
    refine b_pop (i := 3) (en := (eP2 eX eI)) rfl fun top stack1 h3 => ?_
    refine b_asg h3 (at_tp rfl (ats_cons (at_n (i := 4) rfl rfl rfl) (ats_cons (at_n (i := 5) rfl rfl rfl) ats_nil))) rfl ?_
    refine b_bind (r_of (en := eI) (v_lenL (en := eX) (v_nmB (i := 1) rfl))) fun number h4 => ?_
    refine b_asg h4 (at_n (i := 6) rfl rfl rfl) rfl ?_
    refine b_app (en := eX) (xs := s2.2.1) (x := top.1) rfl (v_nmF (i := 4) rfl) nmX fun nodes1 => ?_
    refine b_appM (en := (eL eI)) (xs := s2.2.2) (x := []) rfl (v_lst vl_nil nms_nil (Nat.le_of_ble_eq_true rfl)) fun ends1 => ?_
    refine b_ifB (E := (fun (s : List (List Int)) (u : Unit) => ([some (eX tree, .fro), some ((eL eX) nodes1, .deep), some ((eL (eL eI)) s, .deep), some ((eL (eP2 eX eI)) stack1, .deep), some (eX top.1, .fro), some (eI top.2, .fro), some (eI number, .fro), u2.2.2.2.c, none, none] : Ev.En))) (t_B (v_geI (v_nmF (i := 5) rfl) (v_cI (i := 0)) rfl)) ?_ ?_ ?_
    · refine b_appAt (en := eI) (xss := ends1) (x := number) rfl (v_nmF (i := 5) rfl) rfl (v_nmF (i := 6) rfl) rfl nmI fun ends2 => ?_
      exact b_nil ⟨(), rfl⟩
    · exact b_nil ⟨(), rfl⟩
    intro s3 u3
    refine b_bind (p_ixX (v_nmF (i := 4) rfl) (v_cI (i := 0)) rfl) fun x1 h5 => ?_
    refine b_bind (p_cmpD h5 (v_cS (i := PySem.Str.ofString "test")) rfl) fun c h6 => ?_
    refine b_ifB (E := (fun (s : List (DI × Int)) (u : UC) => ([some (eX tree, .fro), some ((eL eX) nodes1, .deep), some ((eL (eL eI)) s3, .deep), some ((eL (eP2 eX eI)) s, .deep), some (eX top.1, .fro), some (eI top.2, .fro), some (eI number, .fro), u.c, none, none] : Ev.En))) (t_B h6) ?_ ?_ ?_
    · refine b_bind (p_ixX (v_nmF (i := 4) rfl) (v_cI (i := 2)) rfl) fun x2 h7 => ?_
      refine b_bind (p_toT h7) fun ts h8 => ?_
      refine b_forG (en := eX) (E := (fun (s : List (DI × Int)) (u : UC) => ([some (eX tree, .fro), some ((eL eX) nodes1, .deep), some ((eL (eL eI)) s3, .deep), some ((eL (eP2 eX eI)) s, .deep), some (eX top.1, .fro), some (eI top.2, .fro), some (eI number, .fro), u.c, none, none] : Ev.En))) u2.2.2.2 (i_rvT (en := eX) h8 rfl) rfl rfl (fun branch s4 u4 => (at_n (i := 7) rfl rfl rfl)) ?_ ?_
      · intro branch s4 u4
        refine b_app (en := (eP2 eX eI)) (xs := s4) (x := (branch, number)) rfl (v_tup (vl_cons (v_nmF (i := 7) rfl) (vl_cons (v_nmF (i := 6) rfl) vl_nil rfl) rfl) (Nat.le_of_ble_eq_true rfl)) (nmP2 nmX nmI) fun stack2 => ?_
        exact b_nil ⟨(UC.fro _), rfl⟩
      intro s5 u5
      exact b_nil ⟨u5, rfl⟩
    · exact b_nil ⟨u2.2.2.2, rfl⟩
    intro s6 u6
    exact b_nil ⟨(s6, nodes1, s3), ((UC.fro _), (UC.fro _), (UC.fro _), u6), rfl, rfl⟩
  intro s7 u7
  refine b_bind (r_of (en := (eL eX)) (v_lst vl_nil nms_nil (Nat.le_of_ble_eq_true rfl))) fun rows h9 => ?_
  refine b_asg h9 (at_nK (i := 8) rfl rfl) rfl ?_
  refine b_forG (en := (eP2 eX (eL eI))) (E := (fun (s : List DI) (u : UC × UC) => ([some (eX tree, .fro), some ((eL eX) s7.2.1, .fro), some ((eL (eL eI)) s7.2.2, .fro), some ((eL (eP2 eX eI)) s7.1, .deep), u.1.c, u7.2.1.c, u7.2.2.1.c, u7.2.2.2.c, some ((eL eX) s, .deep), u.2.c] : Ev.En))) (u7.1, UC.no) (i_zipL (en := eX) (em := (eL eI)) (v_tk (i := 1) rfl) (v_tk (i := 2) rfl) rfl rfl) rfl rfl (fun p1 s8 u8 => (at_tp rfl (ats_cons (at_n (i := 4) rfl rfl rfl) (ats_cons (at_n (i := 9) rfl rfl rfl) ats_nil)))) ?_ ?_
  · intro p1 s8 u8
    refine b_bind (p_ixX (v_nmF (i := 4) rfl) (v_cI (i := 0)) rfl) fun x3 h10 => ?_
    refine b_bind (p_cmpD h10 (v_cS (i := PySem.Str.ofString "test")) rfl) fun c1 h11 => ?_
    refine b_ifB (E := (fun (s : List DI) (u : Unit) => ([some (eX tree, .fro), some ((eL eX) s7.2.1, .fro), some ((eL (eL eI)) s7.2.2, .fro), some ((eL (eP2 eX eI)) s7.1, .deep), some (eX p1.1, .fro), u7.2.1.c, u7.2.2.1.c, u7.2.2.2.c, some ((eL eX) s, .deep), some ((eL eI) p1.2, .fro)] : Ev.En))) (t_B h11) ?_ ?_ ?_
    · refine b_bind (p_ixX (v_nmF (i := 4) rfl) (v_cI (i := 1)) rfl) fun x4 h12 => ?_
      refine b_app (en := eX) (xs := s8) (x := (⟨(eP3 eS eX (eT eI)) ((PySem.Str.ofString "test"), x4, p1.2), (nmP3 nmS nmX (nmT nmI)) _⟩ : DI)) rfl (v_tup (vl_cons (v_cS (i := PySem.Str.ofString "test")) (vl_cons h12 (vl_cons (v_tupleL (en := eI) (v_nmF (i := 9) rfl) nmI) vl_nil rfl) rfl) rfl) (Nat.le_of_ble_eq_true rfl)) nmX fun rows1 => ?_
      exact b_nil ⟨(), rfl⟩
    · refine b_app (en := eX) (xs := s8) (x := p1.1) rfl (v_nmF (i := 4) rfl) nmX fun rows2 => ?_
      exact b_nil ⟨(), rfl⟩
    intro s9 u9
    exact b_nil ⟨((UC.fro _), (UC.fro _)), rfl⟩
  intro s10 u10
  exact b_retM (v_mvD (i := 8) rfl) rfl (fun f hf => ⟨rfl, hf⟩) (.inl rfl)
def s_run_rows (rows : List DI) (reading : List Int) : Option (DI × Int) :=
  (whU (fun (s1 : Int × Int) => (atI rows s1.2).bind fun x1 => (ixX x1 0).bind fun x2 => (Ev.cmpS .Eq (eX x2) (eS (PySem.Str.ofString "test"))).bind fun c => some c) (fun (s2 : Int × Int) =>
  (atI rows s2.2).bind fun x3 =>
  (ixX x3 2).bind fun x4 =>
  (atI rows s2.2).bind fun x5 =>
  (ixX x5 1).bind fun x6 =>
  (intX x6).bind fun i =>
  (atI reading i).bind fun x7 =>
  (ixX x4 x7).bind fun x8 =>
  (intX x8).bind fun i1 =>
  some (Lo.nx ((s2.1 + 1), i1))) (0, 0)).bind (J.go fun (s3 : Int × Int) =>
  (atI rows s3.2).bind fun x9 =>
  (ixX x9 0).bind fun x10 =>
  (Ev.cmpS .Eq (eX x10) (eS (PySem.Str.ofString "tell"))).bind fun c1 =>
  if c1 = true then (atI rows s3.2).bind fun x11 =>
  (ixX x11 1).bind fun x12 =>
  some (x12, s3.1) else
  some ((⟨eI (-1), nmI _⟩ : DI), s3.1))
theorem k_run_rows (n : Nat) (rows : List DI) (reading : List Int) : ∀ r, s_run_rows rows reading = some r → SPn fns (n + 1) 1 [(eL eX) rows, (eT eI) reading] ((eP2 eX eI) r) .dp := by
  refine f_def (n := n + 0) (fn := f_run_rows) rfl rfl rfl ?_
  show BX _ b_run_rows [some ((eL eX) rows, .fro), some ((eT eI) reading, .fro), none, none] _ _
  refine b_asg (v_cI (i := 0)) (at_n (i := 2) rfl rfl rfl) rfl ?_
  refine b_asg (v_cI (i := 0)) (at_n (i := 3) rfl rfl rfl) rfl ?_
  refine b_whl (E := (fun (s : Int × Int) (u : Unit) => ([some ((eL eX) rows, .fro), some ((eT eI) reading, .fro), some (eI s.2, .fro), some (eI s.1, .fro)] : Ev.En))) () rfl rfl (fun s1 u1 => (rt_bind (p_ixL (en := eX) (v_nmF (i := 0) rfl) (v_nmF (i := 2) rfl) rfl) fun x1 h => (rt_bind (p_ixX h (v_cI (i := 0)) rfl) fun x2 h1 => (rt_bind (p_cmpD h1 (v_cS (i := PySem.Str.ofString "test")) rfl) fun c h2 => (rt_of (t_B h2)))))) ?_ ?_
  · intro s2 u2
    refine b_aug (z := s2.1 + 1) rfl rfl rfl (v_cI (i := 1)) (Nat.le_of_ble_eq_true rfl) (fun _ => rfl) ?_
    refine b_bind (p_ixL (en := eX) (v_nmF (i := 0) rfl) (v_nmF (i := 2) rfl) rfl) fun x3 h3 => ?_
    refine b_bind (p_ixX h3 (v_cI (i := 2)) rfl) fun x4 h4 => ?_
    refine b_bind (p_ixL (en := eX) (v_nmF (i := 0) rfl) (v_nmF (i := 2) rfl) rfl) fun x5 h5 => ?_
    refine b_bind (p_ixX h5 (v_cI (i := 1)) rfl) fun x6 h6 => ?_
    refine b_bind (p_toI h6) fun i h7 => ?_
    refine b_bind (p_ixT (en := eI) (v_nmF (i := 1) rfl) h7 rfl) fun x7 h8 => ?_
    refine b_bind (p_ixX h4 h8 rfl) fun x8 h9 => ?_
    refine b_bind (p_toI h9) fun i1 h10 => ?_
    refine b_asg h10 (at_n (i := 2) rfl rfl rfl) rfl ?_
    exact b_nil ⟨((s2.1 + 1), i1), (), rfl, rfl⟩
  intro s3 u3
  refine b_bind (p_ixL (en := eX) (v_nmF (i := 0) rfl) (v_nmF (i := 2) rfl) rfl) fun x9 h11 => ?_
  refine b_bind (p_ixX h11 (v_cI (i := 0)) rfl) fun x10 h12 => ?_
  refine b_bind (p_cmpD h12 (v_cS (i := PySem.Str.ofString "tell")) rfl) fun c1 h13 => ?_
  refine b_ifX (t_B h13) ?_ ?_
  · refine b_bind (p_ixL (en := eX) (v_nmF (i := 0) rfl) (v_nmF (i := 2) rfl) rfl) fun x11 h14 => ?_
    refine b_bind (p_ixX h14 (v_cI (i := 1)) rfl) fun x12 h15 => ?_
    exact b_ret (d := (eP2 eX eI) (x12, s3.1)) (v_tup (vl_cons h15 (vl_cons (v_nmF (i := 3) rfl) vl_nil rfl) rfl) (Nat.le_of_ble_eq_true rfl)) ((nmP2 nmX nmI) _) ⟨rfl, rfl⟩
  exact b_ret (d := (eP2 eX eI) ((⟨eI (-1), nmI _⟩ : DI), s3.1)) (v_tup (vl_cons (v_neg (v_cI (i := 1))) (vl_cons (v_nmF (i := 3) rfl) vl_nil rfl) rfl) (Nat.le_of_ble_eq_true rfl)) ((nmP2 nmX nmI) _) ⟨rfl, rfl⟩
def s_run_rows_2 (rows : List DI) (reading : List Int) : Option (DI × Int) :=
  (whU (fun (s1 : Int × Int) => (atI rows s1.2).bind fun x1 => (ixX x1 0).bind fun x2 => (Ev.cmpS .Eq (eX x2) (eS (PySem.Str.ofString "test"))).bind fun c => some c) (fun (s2 : Int × Int) =>
  (atI rows s2.2).bind fun x3 =>
  (ixX x3 2).bind fun x4 =>
  (atI rows s2.2).bind fun x5 =>
  (ixX x5 1).bind fun x6 =>
  (intX x6).bind fun i =>
  (atI reading i).bind fun x7 =>
  (ixX x4 x7).bind fun x8 =>
  (intX x8).bind fun i1 =>
  some (Lo.nx ((s2.1 + 1), i1))) (0, 0)).bind (J.go fun (s3 : Int × Int) =>
  (atI rows s3.2).bind fun x9 =>
  (ixX x9 0).bind fun x10 =>
  (Ev.cmpS .Eq (eX x10) (eS (PySem.Str.ofString "tell"))).bind fun c1 =>
  if c1 = true then (atI rows s3.2).bind fun x11 =>
  (ixX x11 1).bind fun x12 =>
  some (x12, s3.1) else
  some ((⟨eI (-1), nmI _⟩ : DI), s3.1))
theorem k_run_rows_2 (n : Nat) (rows : List DI) (reading : List Int) : ∀ r, s_run_rows_2 rows reading = some r → SPn fns (n + 1) 1 [(eT eX) rows, (eT eI) reading] ((eP2 eX eI) r) .dp := by
  refine f_def (n := n + 0) (fn := f_run_rows) rfl rfl rfl ?_
  show BX _ b_run_rows [some ((eT eX) rows, .fro), some ((eT eI) reading, .fro), none, none] _ _
  refine b_asg (v_cI (i := 0)) (at_n (i := 2) rfl rfl rfl) rfl ?_
  refine b_asg (v_cI (i := 0)) (at_n (i := 3) rfl rfl rfl) rfl ?_
  refine b_whl (E := (fun (s : Int × Int) (u : Unit) => ([some ((eT eX) rows, .fro), some ((eT eI) reading, .fro), some (eI s.2, .fro), some (eI s.1, .fro)] : Ev.En))) () rfl rfl (fun s1 u1 => (rt_bind (p_ixT (en := eX) (v_nmF (i := 0) rfl) (v_nmF (i := 2) rfl) rfl) fun x1 h => (rt_bind (p_ixX h (v_cI (i := 0)) rfl) fun x2 h1 => (rt_bind (p_cmpD h1 (v_cS (i := PySem.Str.ofString "test")) rfl) fun c h2 => (rt_of (t_B h2)))))) ?_ ?_
  · intro s2 u2
    refine b_aug (z := s2.1 + 1) rfl rfl rfl (v_cI (i := 1)) (Nat.le_of_ble_eq_true rfl) (fun _ => rfl) ?_
    refine b_bind (p_ixT (en := eX) (v_nmF (i := 0) rfl) (v_nmF (i := 2) rfl) rfl) fun x3 h3 => ?_
    refine b_bind (p_ixX h3 (v_cI (i := 2)) rfl) fun x4 h4 => ?_
    refine b_bind (p_ixT (en := eX) (v_nmF (i := 0) rfl) (v_nmF (i := 2) rfl) rfl) fun x5 h5 => ?_
    refine b_bind (p_ixX h5 (v_cI (i := 1)) rfl) fun x6 h6 => ?_
    refine b_bind (p_toI h6) fun i h7 => ?_
    refine b_bind (p_ixT (en := eI) (v_nmF (i := 1) rfl) h7 rfl) fun x7 h8 => ?_
    refine b_bind (p_ixX h4 h8 rfl) fun x8 h9 => ?_
    refine b_bind (p_toI h9) fun i1 h10 => ?_
    refine b_asg h10 (at_n (i := 2) rfl rfl rfl) rfl ?_
    exact b_nil ⟨((s2.1 + 1), i1), (), rfl, rfl⟩
  intro s3 u3
  refine b_bind (p_ixT (en := eX) (v_nmF (i := 0) rfl) (v_nmF (i := 2) rfl) rfl) fun x9 h11 => ?_
  refine b_bind (p_ixX h11 (v_cI (i := 0)) rfl) fun x10 h12 => ?_
  refine b_bind (p_cmpD h12 (v_cS (i := PySem.Str.ofString "tell")) rfl) fun c1 h13 => ?_
  refine b_ifX (t_B h13) ?_ ?_
  · refine b_bind (p_ixT (en := eX) (v_nmF (i := 0) rfl) (v_nmF (i := 2) rfl) rfl) fun x11 h14 => ?_
    refine b_bind (p_ixX h14 (v_cI (i := 1)) rfl) fun x12 h15 => ?_
    exact b_ret (d := (eP2 eX eI) (x12, s3.1)) (v_tup (vl_cons h15 (vl_cons (v_nmF (i := 3) rfl) vl_nil rfl) rfl) (Nat.le_of_ble_eq_true rfl)) ((nmP2 nmX nmI) _) ⟨rfl, rfl⟩
  exact b_ret (d := (eP2 eX eI) ((⟨eI (-1), nmI _⟩ : DI), s3.1)) (v_tup (vl_cons (v_neg (v_cI (i := 1))) (vl_cons (v_nmF (i := 3) rfl) vl_nil rfl) rfl) (Nat.le_of_ble_eq_true rfl)) ((nmP2 nmX nmI) _) ⟨rfl, rfl⟩
theorem k_law_draws (n : Nat) (script : List Int) (count : Int) : ∀ r, Lc.s_law_draws script count = some r → SPn fns (n + 1) 2 [eC script, eI count] ((eL eI) r) .dp := by
  refine f_def (n := n + 0) (fn := f_law_draws) rfl rfl rfl ?_
  show BX _ b_law_draws [some (eC script, .fro), some (eI count, .fro), none, none, none, none, none, none] _ _
  refine b_bind (p_lc (en := eI) (em := eI) (c2 := .dp) (ri_of (en := eI) (i_L (en := eI) (v_slC (v_nmF (i := 0) rfl) ov_none (ov_some (v_cI (i := 63)) rfl)) rfl)) (own_cons (i := 6) (un_no rfl) own_nil) rfl nmI (fun cell => (at_n (i := 6) rfl rfl rfl)) (fun _ => ⟨rfl, rfl⟩) (fun _ => rfl) rfl (fun cell => rc_nil) (fun cell => (r_of (en := eI) (v_abs (v_int (v_nmF (i := 6) rfl)))))) fun l h => ?_
  refine b_asg h (at_nK (i := 2) rfl rfl) rfl ?_
  refine b_ifB (E := (fun (s : List Int) (u : Unit) => ([some (eC script, .fro), some (eI count, .fro), some ((eL eI) s, .deep), none, none, none, none, none] : Ev.En))) (t_B (v_cmp (v_lenL (en := eI) (v_nmB (i := 2) rfl)) (v_cI (i := 0)) rfl (cmp_eq (e := eI) eqI (by decide) (l.length : Int) 0))) ?_ ?_ ?_
  · refine b_bind (r_of (en := (eL eI)) (v_lst (vl_cons (v_cI (i := 0)) vl_nil rfl) (nms_cons (nmI _) nms_nil) (Nat.le_of_ble_eq_true rfl))) fun cells h1 => ?_
    refine b_asg h1 (at_nK (i := 2) rfl rfl) rfl ?_
    exact b_nil ⟨(), rfl⟩
  · exact b_nil ⟨(), rfl⟩
  intro s1 u1
  refine b_bind (r_of (en := (eL eI)) (v_lst vl_nil nms_nil (Nat.le_of_ble_eq_true rfl))) fun draws h2 => ?_
  refine b_asg h2 (at_nK (i := 3) rfl rfl) rfl ?_
  refine b_bindI (still := false) (i_rg1 (v_nmF (i := 1) rfl)) fun xs1 h3 => ?_
  refine b_forG (en := eI) (E := (fun (s : (List Int) × (List Int)) (u : UC × UC × UC × UC) => ([some (eC script, .fro), some (eI count, .fro), some ((eL eI) s.2, .deep), some ((eL eI) s.1, .deep), u.2.2.2.c, u.1.c, u.2.1.c, u.2.2.1.c] : Ev.En))) (UC.no, UC.no, UC.no, UC.no) h3 rfl rfl (fun k s2 u2 => (at_n (i := 4) rfl rfl rfl)) ?_ ?_
  · intro k s2 u2
    refine b_bind (p_mod (v_int (v_nmF (i := 4) rfl)) (v_lenL (en := eI) (v_nmB (i := 2) rfl)) rfl) fun rem h4 => ?_
    refine b_asg h4 (at_n (i := 5) rfl rfl rfl) rfl ?_
    refine b_bind (p_ixL (en := eI) (v_nmB (i := 2) rfl) (v_nmF (i := 5) rfl) rfl) fun x1 h5 => ?_
    refine b_asg h5 (at_nM (i := 6) rfl rfl (nmI _)) rfl ?_
    refine b_ifB (E := (fun (s : (List Int) × (List Int)) (u : UC) => ([some (eC script, .fro), some (eI count, .fro), some ((eL eI) s.2, .deep), some ((eL eI) s.1, .deep), some (eI k, .fro), some (eI rem, .fro), some (eI x1, .fro), u.c] : Ev.En))) (t_B (v_geI (v_nmF (i := 6) rfl) (v_cI (i := 1000000000000000000)) rfl)) ?_ ?_ ?_
    · refine b_app (en := eI) (xs := s2.1) (x := (x1 % 1000)) rfl (v_mod (v_int (v_nmF (i := 6) rfl)) (v_cI (i := 1000)) rfl (by decide)) nmI fun draws1 => ?_
      refine b_set (en := eI) rfl (v_div (v_nmF (i := 6) rfl) (v_cI (i := 1000)) rfl ⟨by decide, by decide⟩) (v_nmF (i := 5) rfl) rfl nmI fun cells1 => ?_
      exact b_nil ⟨u2.2.2.1, rfl⟩
    · refine b_bind (r_of (en := eI) (v_mod (v_int (v_add (v_add (v_mul (v_nmF (i := 6) rfl) (v_cI (i := 48271)) rfl (cmR (by decide))) (v_mul (v_nmF (i := 4) rfl) (v_cI (i := 69621)) rfl (cmR (by decide))) rfl) (v_cI (i := 11)) rfl)) (v_cI (i := 2147483647)) rfl (by decide))) fun mixed h6 => ?_
      refine b_asg h6 (at_n (i := 7) rfl rfl rfl) rfl ?_
      refine b_bind (p_mul (v_nmF (i := 4) rfl) (v_nmF (i := 4) rfl) rfl) fun mul h7 => ?_
      refine b_bind (r_of (en := eI) (v_mod (v_int (v_add (v_add (v_mul (v_nmF (i := 7) rfl) (v_cI (i := 16807)) rfl (cmR (by decide))) (v_div (v_nmF (i := 6) rfl) (v_cI (i := 7)) rfl ⟨by decide, by decide⟩) rfl) (v_mul h7 (v_cI (i := 40014)) rfl (cmR (by decide))) rfl)) (v_cI (i := 2147483563)) rfl (by decide))) fun mixed1 h8 => ?_
      refine b_asg h8 (at_n (i := 7) rfl rfl rfl) rfl ?_
      refine b_bind (p_mul (v_nmF (i := 7) rfl) (v_add (v_add (v_div (v_nmF (i := 7) rfl) (v_cI (i := 1024)) rfl ⟨by decide, by decide⟩) (v_nmF (i := 4) rfl) rfl) (v_cI (i := 1)) rfl) rfl) fun mul1 h9 => ?_
      refine b_bind (r_of (en := eI) (v_mod (v_int (v_add h9 (v_nmF (i := 6) rfl) rfl)) (v_cI (i := 2147483629)) rfl (by decide))) fun mixed2 h10 => ?_
      refine b_asg h10 (at_n (i := 7) rfl rfl rfl) rfl ?_
      refine b_app (en := eI) (xs := s2.1) (x := ((mixed2 / 37) % 1000)) rfl (v_mod (v_int (v_div (v_nmF (i := 7) rfl) (v_cI (i := 37)) rfl ⟨by decide, by decide⟩)) (v_cI (i := 1000)) rfl (by decide)) nmI fun draws2 => ?_
      exact b_nil ⟨(UC.fro _), rfl⟩
    intro s3 u3
    exact b_nil ⟨((UC.fro _), (UC.fro _), u3, (UC.fro _)), rfl⟩
  intro s4 u4
  exact b_retM (v_mvD (i := 3) rfl) rfl (fun f hf => ⟨rfl, hf⟩) (.inl rfl)
theorem kb_law_same (n : Nat) (rec_ : Ev.D → Ev.D → Option Bool) (hrec : ∀ (told : Ev.D) (due : Ev.D) r, rec_ told due = some r → SPn fns (n + 0) 3 [eD told, eD due] (eB r) .dp) (told : Ev.D) (due : Ev.D) : ∀ r, Lc.sb_law_same rec_ told due = some r → SPn fns (n + 1) 3 [eD told, eD due] (eB r) .dp := by
  refine f_def (n := n + 0) (fn := f_law_same) rfl rfl rfl ?_
  show BX _ b_law_same [some (eD told, .fro), some (eD due, .fro), none] _ _
  refine b_bind (p_cmpD (v_nmF (i := 1) rfl) v_cN rfl) fun c h => ?_
  refine b_ifX (t_B h) ?_ ?_
  · refine b_bind (p_cmpD (v_nmF (i := 0) rfl) v_cN rfl) fun c1 h1 => ?_
    exact b_ret (d := eB c1) h1 (nmB _) ⟨rfl, rfl⟩
  refine b_bind (p_isiD (v_nmF (i := 1) rfl)) fun c2 h2 => ?_
  refine b_bindT (rt_or (t_B h2) (rt_bind (p_isiD (v_nmF (i := 0) rfl)) fun c3 h3 => (rt_of (t_B h3)))) fun c4 h4 => ?_
  refine b_ifX h4 ?_ ?_
  · refine b_bind (p_isiD (v_nmF (i := 1) rfl)) fun c5 h5 => ?_
    refine b_bind (r_and h5 (r_bind (p_isiD (v_nmF (i := 0) rfl)) fun c6 h6 => (r_bind (r_and h6 (r_bind (p_cmpD (v_nmF (i := 0) rfl) (v_nmF (i := 1) rfl) rfl) fun c7 h7 => (r_of (en := eB) h7))) fun c8 h8 => (r_of (en := eB) h8)))) fun c9 h9 => ?_
    exact b_ret (d := eB c9) h9 (nmB _) ⟨rfl, rfl⟩
  refine b_bind (p_isiD (v_nmF (i := 1) rfl)) fun c10 h10 => ?_
  refine b_ifX (t_B h10) ?_ ?_
  · refine b_bind (p_isiD (v_nmF (i := 0) rfl)) fun c11 h11 => ?_
    refine b_bind (r_and h11 (r_bind (p_cmpD (v_nmF (i := 0) rfl) (v_nmF (i := 1) rfl) rfl) fun c12 h12 => (r_of (en := eB) h12))) fun c13 h13 => ?_
    exact b_ret (d := eB c13) h13 (nmB _) ⟨rfl, rfl⟩
  refine b_bind (p_isiD (v_nmF (i := 1) rfl)) fun c14 h14 => ?_
  refine b_ifX (t_B h14) ?_ ?_
  · refine b_bind (p_isiD (v_nmF (i := 0) rfl)) fun c15 h15 => ?_
    refine b_bind (r_and h15 (r_bind (p_cmpD (v_nmF (i := 0) rfl) (v_nmF (i := 1) rfl) rfl) fun c16 h16 => (r_of (en := eB) h16))) fun c17 h17 => ?_
    exact b_ret (d := eB c17) h17 (nmB _) ⟨rfl, rfl⟩
  refine b_bind (p_isiD (v_nmF (i := 1) rfl)) fun c18 h18 => ?_
  refine b_bindT (rt_and (t_B h18) (rt_bind (p_isiD (v_nmF (i := 0) rfl)) fun c19 h19 => (rt_of (t_not (t_B h19))))) fun c20 h20 => ?_
  refine b_bindT (rt_or h20 (rt_bind (p_isiD (v_nmF (i := 1) rfl)) fun c21 h21 => (rt_bindT (rt_and (t_B h21) (rt_bind (p_isiD (v_nmF (i := 0) rfl)) fun c22 h22 => (rt_of (t_not (t_B h22))))) fun c23 h23 => (rt_of h23)))) fun c24 h24 => ?_
  refine b_ifX h24 ?_ ?_
  · exact b_ret (d := eB false) (v_cB (i := false)) (nmB _) ⟨rfl, rfl⟩
  refine b_bind (p_isiD (v_nmF (i := 1) rfl)) fun c25 h25 => ?_
  refine b_ifX (t_B h25) ?_ ?_
  · refine b_bind (p_isiD (v_nmF (i := 0) rfl)) fun c26 h26 => ?_
    refine b_bind (r_and h26 (r_bind (p_none (a := (.call 4 (.cons (.nm 0) (.cons (.nm 1) .nil)))) (f := eB) (c1 := .dp)) fun r1 h27 => (r_of (en := eB) h27))) fun c27 h28 => ?_
    exact b_ret (d := eB c27) h28 (nmB _) ⟨rfl, rfl⟩
  refine b_bind (p_lenD (v_nmF (i := 0) rfl)) fun len h29 => ?_
  refine b_bind (p_lenD (v_nmF (i := 1) rfl)) fun len1 h30 => ?_
  refine b_ifX (t_B (v_cmp h29 h30 rfl (cmp_ne (e := eI) eqI (by decide) len len1))) ?_ ?_
  · exact b_ret (d := eB false) (v_cB (i := false)) (nmB _) ⟨rfl, rfl⟩
  refine b_bind (p_lenD (v_nmF (i := 1) rfl)) fun len2 h31 => ?_
  refine b_bindI (still := false) (i_rg1 h31) fun xs1 h32 => ?_
  refine b_for (en := eI) (E := (fun (s : Unit) (u : UC) => ([some (eD told, .fro), some (eD due, .fro), u.c] : Ev.En))) UC.no h32 rfl rfl (fun at_ s1 u1 => (at_n (i := 2) rfl rfl rfl)) ?_ ?_
  · intro at_ s1 u1
    refine b_bind (p_ixD (v_nmF (i := 0) rfl) (v_nmF (i := 2) rfl) rfl) fun x1 h33 => ?_
    refine b_bind (p_ixD (v_nmF (i := 1) rfl) (v_nmF (i := 2) rfl) rfl) fun x2 h34 => ?_
    refine b_bind (p_call (f := 3) (em := eB) (c1 := .dp) (vl_cons h33 (vl_cons h34 vl_nil rfl) rfl) rfl (fun r hr => hrec x1 x2 r hr) (.inl rfl)) fun r2 h35 => ?_
    refine b_ifX (t_not (t_B h35)) ?_ ?_
    · exact b_ret (d := eB false) (v_cB (i := false)) (nmB _) ⟨_, rfl, ⟨rfl, rfl⟩⟩
    exact b_nil ⟨(), (UC.fro _), rfl, rfl⟩
  intro s2 u2
  exact b_ret (d := eB true) (v_cB (i := true)) (nmB _) ⟨rfl, rfl⟩
theorem k_law_same (n : Nat) : ∀ (k : Nat) (told : Ev.D) (due : Ev.D) r, Lc.s_law_same k told due = some r → SPn fns (n + k + 0) 3 [eD told, eD due] (eB r) .dp
  | 0, _, _, _, h => nomatch h
  | k + 1, told, due, r, h => kb_law_same (n + k) (Lc.s_law_same k) (k_law_same n k) told due r h
def s_law_readings_of (fields : Int) (entries : List Int) : Option (List (List Int)) :=
  (some [[]]).bind fun readings =>
  (rngO 0 fields).bind fun xs1 =>
  (foldO (fun (turn : Int) (s1 : List (List Int)) =>
  (some []).bind fun longer =>
  (foldO (fun (reading : List Int) (s2 : List (List Int)) =>
  ((some entries).bind fun xs => (lcM (fun (entry : Int) => some true) (fun (entry : Int) => (catO reading [entry]).bind fun cat => some cat) xs).bind szO).bind fun l =>
  (catO s2 l).bind fun cat1 =>
  some cat1) s1 longer).bind fun (s3 : List (List Int)) =>
  some s3) xs1 readings).bind fun (s4 : List (List Int)) =>
  some s4
theorem k_law_readings_of (n : Nat) (fields : Int) (entries : List Int) : ∀ r, s_law_readings_of fields entries = some r → SPn fns (n + 1) 5 [eI fields, (eL eI) entries] ((eL (eT eI)) r) .nb := by
  refine f_def (n := n + 0) (fn := f_law_readings_of) rfl rfl rfl ?_
  show BX _ b_law_readings_of [some (eI fields, .fro), some ((eL eI) entries, .fro), none, none, none, none, none] _ _
  refine b_bind (r_of (en := (eL (eT eI))) (v_lst (vl_cons (v_tup vl_nil (Nat.le_of_ble_eq_true rfl)) vl_nil rfl) (nms_cons ((nmT nmI) _) nms_nil) (Nat.le_of_ble_eq_true rfl))) fun readings h => ?_
  refine b_asg h (at_n (i := 2) rfl rfl rfl) rfl ?_
  refine b_bindI (still := false) (i_rg1 (v_nmF (i := 0) rfl)) fun xs1 h1 => ?_
  refine b_forG (en := eI) (E := (fun (s : List (List Int)) (u : UC × UC × UC) => ([some (eI fields, .fro), some ((eL eI) entries, .fro), some ((eL (eT eI)) s, .fro), u.2.2.c, u.1.c, u.2.1.c, none] : Ev.En))) (UC.no, UC.no, UC.no) h1 rfl rfl (fun turn s1 u1 => (at_n (i := 3) rfl rfl rfl)) ?_ ?_
  · intro turn s1 u1
    refine b_bind (r_of (en := (eL (eT eI))) (v_lst vl_nil nms_nil (Nat.le_of_ble_eq_true rfl))) fun longer h2 => ?_
    refine b_asg h2 (at_n (i := 4) rfl rfl rfl) rfl ?_
    refine b_forG (en := (eT eI)) (E := (fun (s : List (List Int)) (u : UC) => ([some (eI fields, .fro), some ((eL eI) entries, .fro), some ((eL (eT eI)) s1, .fro), some (eI turn, .fro), some ((eL (eT eI)) s, .fro), u.c, none] : Ev.En))) u1.2.1 (i_L (en := (eT eI)) (v_nmF (i := 2) rfl) rfl) rfl rfl (fun reading s2 u2 => (at_n (i := 5) rfl rfl rfl)) ?_ ?_
    · intro reading s2 u2
      refine b_bind (p_lc (en := eI) (em := (eT eI)) (c2 := .dp) (ri_of (en := eI) (i_L (en := eI) (v_nmF (i := 1) rfl) rfl)) (own_cons (i := 6) (un_no rfl) own_nil) rfl (nmT nmI) (fun entry => (at_n (i := 6) rfl rfl rfl)) (fun _ => ⟨rfl, rfl⟩) (fun _ => rfl) rfl (fun entry => rc_nil) (fun entry => (r_bind (p_catT (en := eI) (v_nmF (i := 5) rfl) (v_tup (vl_cons (v_nmF (i := 6) rfl) vl_nil rfl) (Nat.le_of_ble_eq_true rfl)) rfl nmI) fun cat h3 => (r_of (en := (eT eI)) h3)))) fun l h4 => ?_
      refine b_bind (p_catL (en := (eT eI)) (v_nmF (i := 4) rfl) h4 rfl (nmT nmI)) fun cat1 h5 => ?_
      refine b_asg h5 (at_n (i := 4) rfl rfl rfl) rfl ?_
      exact b_nil ⟨(UC.fro _), rfl⟩
    intro s3 u3
    refine b_asg (v_nmF (i := 4) rfl) (at_n (i := 2) rfl rfl rfl) rfl ?_
    exact b_nil ⟨((UC.fro _), u3, (UC.fro _)), rfl⟩
  intro s4 u4
  exact b_retM (v_nmF (i := 2) rfl) rfl (fun f hf => ⟨rfl, (Cl.nb' hf rfl)⟩) (.inr ⟨rfl, nb_deep⟩)
def s_law_tree_of (rows : List DI) : Option DI :=
  (some []).bind fun made =>
  (rngO 0 (rows.length : Int)).bind fun xs1 =>
  (foldO (fun (back : Int) (s1 : List (Int × DI)) =>
  (some (((rows.length : Int) - 1) - back)).bind fun at_ =>
  (atI rows at_).bind fun x1 =>
  (setKO s1 at_ x1).bind fun made1 =>
  (atI rows at_).bind fun x2 =>
  (ixX x2 0).bind fun x3 =>
  (Ev.cmpS .Eq (eX x3) (eS (PySem.Str.ofString "test"))).bind fun c =>
  (if c = true then (atI rows at_).bind fun x4 =>
  (ixX x4 1).bind fun x5 =>
  (atI rows at_).bind fun x6 =>
  (ixX x6 2).bind fun x7 =>
  (tupX x7).bind fun ts =>
  ((some ts).bind fun xs => (lcM (fun (end_ : DI) => some true) (fun (end_ : DI) => (intX end_).bind fun i => (getO i made1).bind fun x8 => some x8) xs).bind szO).bind fun l =>
  (setKO made1 at_ (⟨(eP3 eS eX (eT eX)) ((PySem.Str.ofString "test"), x5, l), (nmP3 nmS nmX (nmT nmX)) _⟩ : DI)).bind fun made2 =>
  some made2 else some made1).bind fun (s2 : List (Int × DI)) =>
  some s2) xs1 made).bind fun (s3 : List (Int × DI)) =>
  (getO 0 s3).bind fun x9 =>
  some x9
theorem k_law_tree_of (n : Nat) (rows : List DI) : ∀ r, s_law_tree_of rows = some r → SPn fns (n + 1) 6 [(eL eX) rows] (eX r) .dp := by
  refine f_def (n := n + 0) (fn := f_law_tree_of) rfl rfl rfl ?_
  show BX _ b_law_tree_of [some ((eL eX) rows, .fro), none, none, none, none] _ _
  refine b_bind (r_of (en := (eK eI eX)) v_dic) fun made h => ?_
  refine b_asg h (at_nK (i := 1) rfl rfl) rfl ?_
  refine b_bindI (still := false) (i_rg1 (v_lenL (en := eX) (v_nmF (i := 0) rfl))) fun xs1 h1 => ?_
  refine b_forG (en := eI) (E := (fun (s : List (Int × DI)) (u : UC × UC) => ([some ((eL eX) rows, .fro), some ((eK eI eX) s, .deep), u.2.c, u.1.c, none] : Ev.En))) (UC.no, UC.no) h1 rfl rfl (fun back s1 u1 => (at_n (i := 2) rfl rfl rfl)) ?_ ?_
  · intro back s1 u1
    refine b_bind (r_of (en := eI) (v_sub (v_sub (v_lenL (en := eX) (v_nmF (i := 0) rfl)) (v_cI (i := 1)) rfl) (v_nmF (i := 2) rfl) rfl)) fun at_ h2 => ?_
    refine b_asg h2 (at_n (i := 3) rfl rfl rfl) rfl ?_
    refine b_bind (p_ixL (en := eX) (v_nmF (i := 0) rfl) (v_nmF (i := 3) rfl) rfl) fun x1 h3 => ?_
    refine b_setK (i := 1) (en := eX) (kvs := s1) (x := x1) (j := at_) rfl h3 (v_nmF (i := 3) rfl) rfl nmX fun made1 => ?_
    refine b_bind (p_ixL (en := eX) (v_nmF (i := 0) rfl) (v_nmF (i := 3) rfl) rfl) fun x2 h4 => ?_
    refine b_bind (p_ixX h4 (v_cI (i := 0)) rfl) fun x3 h5 => ?_
    refine b_bind (p_cmpD h5 (v_cS (i := PySem.Str.ofString "test")) rfl) fun c h6 => ?_
    refine b_ifB (E := (fun (s : List (Int × DI)) (u : Unit) => ([some ((eL eX) rows, .fro), some ((eK eI eX) s, .deep), some (eI back, .fro), some (eI at_, .fro), none] : Ev.En))) (t_B h6) ?_ ?_ ?_
    · refine b_bind (p_ixL (en := eX) (v_nmF (i := 0) rfl) (v_nmF (i := 3) rfl) rfl) fun x4 h7 => ?_
      refine b_bind (p_ixX h7 (v_cI (i := 1)) rfl) fun x5 h8 => ?_
      refine b_bind (p_ixL (en := eX) (v_nmF (i := 0) rfl) (v_nmF (i := 3) rfl) rfl) fun x6 h9 => ?_
      refine b_bind (p_ixX h9 (v_cI (i := 2)) rfl) fun x7 h10 => ?_
      refine b_bind (p_toT h10) fun ts h11 => ?_
      refine b_bind (p_lc (en := eX) (em := eX) (c2 := .an) (ri_of (en := eX) (i_T (en := eX) h11 rfl)) (own_cons (i := 4) (un_no rfl) own_nil) rfl nmX (fun end_ => (at_n (i := 4) rfl rfl rfl)) (fun _ => ⟨rfl, rfl⟩) (fun _ => rfl) rfl (fun end_ => rc_nil) (fun end_ => (r_bind (p_toI (v_nmF (i := 4) rfl)) fun i h12 => (r_bind (p_ixK (em := eX) (v_nmB (i := 1) rfl) h12 rfl) fun x8 h13 => (r_of (en := eX) h13))))) fun l h14 => ?_
      refine b_setK (i := 1) (en := eX) (kvs := made1) (x := (⟨(eP3 eS eX (eT eX)) ((PySem.Str.ofString "test"), x5, l), (nmP3 nmS nmX (nmT nmX)) _⟩ : DI)) (j := at_) rfl (v_tup (vl_cons (v_cS (i := PySem.Str.ofString "test")) (vl_cons h8 (vl_cons (v_tupleL (en := eX) h14 nmX) vl_nil rfl) rfl) rfl) (Nat.le_of_ble_eq_true rfl)) (v_nmF (i := 3) rfl) rfl nmX fun made2 => ?_
      exact b_nil ⟨(), rfl⟩
    · exact b_nil ⟨(), rfl⟩
    intro s2 u2
    exact b_nil ⟨((UC.fro _), (UC.fro _)), rfl⟩
  intro s3 u3
  refine b_bind (p_ixK (em := eX) (v_nmB (i := 1) rfl) (v_cI (i := 0)) rfl) fun x9 h15 => ?_
  exact b_ret (d := eX x9) h15 (nmX _) ⟨rfl, rfl⟩
def s_law_listed (rows : List DI) : Option (List DI) :=
  (some []).bind fun nodes =>
  (some []).bind fun ends =>
  (some ([(0, (-1))])).bind fun stack =>
  (rngO 0 1000).bind fun xs1 =>
  (foldO (fun (turn : Int) (s1 : (List (Int × Int)) × (List (List Int)) × (List Int)) =>
  (if (decide (0 < (s1.1.length : Int))) = true then (popO s1.1).bind fun q =>
  (fun top stack1 => (if (decide (0 ≤ top.2)) = true then (atI s1.2.1 top.2).bind fun x1 =>
  (catO x1 ([(s1.2.2.length : Int)])).bind fun cat =>
  (setO s1.2.1 top.2 cat).bind fun ends1 =>
  some ends1 else some s1.2.1).bind fun (s2 : List (List Int)) =>
  (atI rows top.1).bind fun x2 =>
  (ixX x2 0).bind fun x3 =>
  (Ev.cmpS .Eq (eX x3) (eS (PySem.Str.ofString "test"))).bind fun c =>
  (if c = true then (atI rows top.1).bind fun x4 =>
  (ixX x4 2).bind fun x5 =>
  (tupX x5).bind fun ts =>
  ((some ts.reverse).bind fun xs => (lcM (fun (end_ : DI) => some true) (fun (end_ : DI) => (intX end_).bind fun i => some (i, (s1.2.2.length : Int))) xs).bind szO).bind fun l =>
  (catO stack1 l).bind fun cat1 =>
  some cat1 else some stack1).bind fun (s3 : List (Int × Int)) =>
  (appO s1.2.2 top.1).bind fun nodes1 =>
  (appO s2 []).bind fun ends2 =>
  some (s3, ends2, nodes1)) q.1 q.2 else some (s1.1, s1.2.1, s1.2.2)).bind fun (s4 : (List (Int × Int)) × (List (List Int)) × (List Int)) =>
  some (s4.1, s4.2.1, s4.2.2)) xs1 (stack, ends, nodes)).bind fun (s5 : (List (Int × Int)) × (List (List Int)) × (List Int)) =>
  (some []).bind fun listed =>
  (rngO 0 (s5.2.2.length : Int)).bind fun xs2 =>
  (foldO (fun (k : Int) (s6 : List DI) =>
  (atI s5.2.2 k).bind fun x6 =>
  (atI rows x6).bind fun x7 =>
  (ixX x7 0).bind fun x8 =>
  (Ev.cmpS .Eq (eX x8) (eS (PySem.Str.ofString "test"))).bind fun c1 =>
  (if c1 = true then (atI s5.2.2 k).bind fun x9 =>
  (atI rows x9).bind fun x10 =>
  (ixX x10 1).bind fun x11 =>
  (atI s5.2.1 k).bind fun x12 =>
  (appO s6 (⟨(eP3 eS eX (eT eI)) ((PySem.Str.ofString "test"), x11, x12), (nmP3 nmS nmX (nmT nmI)) _⟩ : DI)).bind fun listed1 =>
  some listed1 else (atI s5.2.2 k).bind fun x13 =>
  (atI rows x13).bind fun x14 =>
  (appO s6 x14).bind fun listed2 =>
  some listed2).bind fun (s7 : List DI) =>
  some s7) xs2 listed).bind fun (s8 : List DI) =>
  some s8
theorem k_law_listed (n : Nat) (rows : List DI) : ∀ r, s_law_listed rows = some r → SPn fns (n + 1) 7 [(eL eX) rows] ((eL eX) r) .dp := by
  refine f_def (n := n + 0) (fn := f_law_listed) rfl rfl rfl ?_
  show BX _ b_law_listed [some ((eL eX) rows, .fro), none, none, none, none, none, none, none, none, none] _ _
  refine b_bind (r_of (en := (eL eI)) (v_lst vl_nil nms_nil (Nat.le_of_ble_eq_true rfl))) fun nodes h => ?_
  refine b_asg h (at_nK (i := 1) rfl rfl) rfl ?_
  refine b_bind (r_of (en := (eL (eT eI))) (v_lst vl_nil nms_nil (Nat.le_of_ble_eq_true rfl))) fun ends h1 => ?_
  refine b_asg h1 (at_nK (i := 2) rfl rfl) rfl ?_
  refine b_bind (r_of (en := (eL (eP2 eI eI))) (v_lst (vl_cons (v_tup (vl_cons (v_cI (i := 0)) (vl_cons (v_neg (v_cI (i := 1))) vl_nil rfl) rfl) (Nat.le_of_ble_eq_true rfl)) vl_nil rfl) (nms_cons ((nmP2 nmI nmI) _) nms_nil) (Nat.le_of_ble_eq_true rfl))) fun stack h2 => ?_
  refine b_asg h2 (at_nK (i := 3) rfl rfl) rfl ?_
  refine b_bindI (still := false) (i_rg1 (v_cI (i := 1000))) fun xs1 h3 => ?_
  refine b_forG (en := eI) (E := (fun (s : (List (Int × Int)) × (List (List Int)) × (List Int)) (u : UC × UC × UC) => ([some ((eL eX) rows, .fro), some ((eL eI) s.2.2, .deep), some ((eL (eT eI)) s.2.1, .deep), some ((eL (eP2 eI eI)) s.1, .deep), u.2.2.c, u.1.c, u.2.1.c, none, none, none] : Ev.En))) (UC.no, UC.no, UC.no) h3 rfl rfl (fun turn s1 u1 => (at_n (i := 4) rfl rfl rfl)) ?_ ?_
  · intro turn s1 u1
    refine b_ifB (E := (fun (s : (List (Int × Int)) × (List (List Int)) × (List Int)) (u : UC × UC) => ([some ((eL eX) rows, .fro), some ((eL eI) s.2.2, .deep), some ((eL (eT eI)) s.2.1, .deep), some ((eL (eP2 eI eI)) s.1, .deep), some (eI turn, .fro), u.1.c, u.2.c, none, none, none] : Ev.En))) (t_B (v_gtI (v_lenL (en := (eP2 eI eI)) (v_nmB (i := 3) rfl)) (v_cI (i := 0)) rfl)) ?_ ?_ ?_
    · refine b_pop (i := 3) (en := (eP2 eI eI)) rfl fun top stack1 h4 => ?_
      refine b_asg h4 (at_tp rfl (ats_cons (at_n (i := 5) rfl rfl rfl) (ats_cons (at_n (i := 6) rfl rfl rfl) ats_nil))) rfl ?_
      refine b_ifB (E := (fun (s : List (List Int)) (u : Unit) => ([some ((eL eX) rows, .fro), some ((eL eI) s1.2.2, .deep), some ((eL (eT eI)) s, .deep), some ((eL (eP2 eI eI)) stack1, .deep), some (eI turn, .fro), some (eI top.1, .fro), some (eI top.2, .fro), none, none, none] : Ev.En))) (t_B (v_geI (v_nmF (i := 6) rfl) (v_cI (i := 0)) rfl)) ?_ ?_ ?_
      · refine b_bind (p_ixL (en := (eT eI)) (v_nmB (i := 2) rfl) (v_nmF (i := 6) rfl) rfl) fun x1 h5 => ?_
        refine b_bind (p_catT (en := eI) h5 (v_tup (vl_cons (v_lenL (en := eI) (v_nmB (i := 1) rfl)) vl_nil rfl) (Nat.le_of_ble_eq_true rfl)) rfl nmI) fun cat h6 => ?_
        refine b_set (en := (eT eI)) rfl h6 (v_nmF (i := 6) rfl) rfl (nmT nmI) fun ends1 => ?_
        exact b_nil ⟨(), rfl⟩
      · exact b_nil ⟨(), rfl⟩
      intro s2 u2
      refine b_bind (p_ixL (en := eX) (v_nmF (i := 0) rfl) (v_nmF (i := 5) rfl) rfl) fun x2 h7 => ?_
      refine b_bind (p_ixX h7 (v_cI (i := 0)) rfl) fun x3 h8 => ?_
      refine b_bind (p_cmpD h8 (v_cS (i := PySem.Str.ofString "test")) rfl) fun c h9 => ?_
      refine b_ifB (E := (fun (s : List (Int × Int)) (u : Unit) => ([some ((eL eX) rows, .fro), some ((eL eI) s1.2.2, .deep), some ((eL (eT eI)) s2, .deep), some ((eL (eP2 eI eI)) s, .deep), some (eI turn, .fro), some (eI top.1, .fro), some (eI top.2, .fro), none, none, none] : Ev.En))) (t_B h9) ?_ ?_ ?_
      · refine b_bind (p_ixL (en := eX) (v_nmF (i := 0) rfl) (v_nmF (i := 5) rfl) rfl) fun x4 h10 => ?_
        refine b_bind (p_ixX h10 (v_cI (i := 2)) rfl) fun x5 h11 => ?_
        refine b_bind (p_toT h11) fun ts h12 => ?_
        refine b_bind (p_lc (en := eX) (em := (eP2 eI eI)) (c2 := .nb) (ri_of (en := eX) (i_T (en := eX) (v_revT (en := eX) h12) rfl)) (own_cons (i := 9) (un_no rfl) own_nil) rfl (nmP2 nmI nmI) (fun end_ => (at_n (i := 9) rfl rfl rfl)) (fun _ => ⟨rfl, rfl⟩) (fun _ => rfl) rfl (fun end_ => rc_nil) (fun end_ => (r_bind (p_toI (v_nmF (i := 9) rfl)) fun i h13 => (r_of (en := (eP2 eI eI)) (v_tup (vl_cons h13 (vl_cons (v_lenL (en := eI) (v_nmB (i := 1) rfl)) vl_nil rfl) rfl) (Nat.le_of_ble_eq_true rfl)))))) fun l h14 => ?_
        refine b_bind (p_catL (en := (eP2 eI eI)) (v_nmB (i := 3) rfl) h14 rfl (nmP2 nmI nmI)) fun cat1 h15 => ?_
        refine b_asg h15 (at_nK (i := 3) rfl rfl) rfl ?_
        exact b_nil ⟨(), rfl⟩
      · exact b_nil ⟨(), rfl⟩
      intro s3 u3
      refine b_app (en := eI) (xs := s1.2.2) (x := top.1) rfl (v_nmF (i := 5) rfl) nmI fun nodes1 => ?_
      refine b_app (en := (eT eI)) (xs := s2) (x := []) rfl (v_tup vl_nil (Nat.le_of_ble_eq_true rfl)) (nmT nmI) fun ends2 => ?_
      exact b_nil ⟨((UC.fro _), (UC.fro _)), rfl⟩
    · exact b_nil ⟨(u1.1, u1.2.1), rfl⟩
    intro s4 u4
    exact b_nil ⟨(u4.1, u4.2, (UC.fro _)), rfl⟩
  intro s5 u5
  refine b_bind (r_of (en := (eL eX)) (v_lst vl_nil nms_nil (Nat.le_of_ble_eq_true rfl))) fun listed h16 => ?_
  refine b_asg h16 (at_nK (i := 7) rfl rfl) rfl ?_
  refine b_bindI (still := false) (i_rg1 (v_lenL (en := eI) (v_nmB (i := 1) rfl))) fun xs2 h17 => ?_
  refine b_forG (en := eI) (E := (fun (s : List DI) (u : UC) => ([some ((eL eX) rows, .fro), some ((eL eI) s5.2.2, .deep), some ((eL (eT eI)) s5.2.1, .deep), some ((eL (eP2 eI eI)) s5.1, .deep), u5.2.2.c, u5.1.c, u5.2.1.c, some ((eL eX) s, .deep), u.c, none] : Ev.En))) UC.no h17 rfl rfl (fun k s6 u6 => (at_n (i := 8) rfl rfl rfl)) ?_ ?_
  · intro k s6 u6
    refine b_bind (p_ixL (en := eI) (v_nmB (i := 1) rfl) (v_nmF (i := 8) rfl) rfl) fun x6 h18 => ?_
    refine b_bind (p_ixL (en := eX) (v_nmF (i := 0) rfl) h18 rfl) fun x7 h19 => ?_
    refine b_bind (p_ixX h19 (v_cI (i := 0)) rfl) fun x8 h20 => ?_
    refine b_bind (p_cmpD h20 (v_cS (i := PySem.Str.ofString "test")) rfl) fun c1 h21 => ?_
    refine b_ifB (E := (fun (s : List DI) (u : Unit) => ([some ((eL eX) rows, .fro), some ((eL eI) s5.2.2, .deep), some ((eL (eT eI)) s5.2.1, .deep), some ((eL (eP2 eI eI)) s5.1, .deep), u5.2.2.c, u5.1.c, u5.2.1.c, some ((eL eX) s, .deep), some (eI k, .fro), none] : Ev.En))) (t_B h21) ?_ ?_ ?_
    · refine b_bind (p_ixL (en := eI) (v_nmB (i := 1) rfl) (v_nmF (i := 8) rfl) rfl) fun x9 h22 => ?_
      refine b_bind (p_ixL (en := eX) (v_nmF (i := 0) rfl) h22 rfl) fun x10 h23 => ?_
      refine b_bind (p_ixX h23 (v_cI (i := 1)) rfl) fun x11 h24 => ?_
      refine b_bind (p_ixL (en := (eT eI)) (v_nmB (i := 2) rfl) (v_nmF (i := 8) rfl) rfl) fun x12 h25 => ?_
      refine b_app (en := eX) (xs := s6) (x := (⟨(eP3 eS eX (eT eI)) ((PySem.Str.ofString "test"), x11, x12), (nmP3 nmS nmX (nmT nmI)) _⟩ : DI)) rfl (v_tup (vl_cons (v_cS (i := PySem.Str.ofString "test")) (vl_cons h24 (vl_cons h25 vl_nil rfl) rfl) rfl) (Nat.le_of_ble_eq_true rfl)) nmX fun listed1 => ?_
      exact b_nil ⟨(), rfl⟩
    · refine b_bind (p_ixL (en := eI) (v_nmB (i := 1) rfl) (v_nmF (i := 8) rfl) rfl) fun x13 h26 => ?_
      refine b_bind (p_ixL (en := eX) (v_nmF (i := 0) rfl) h26 rfl) fun x14 h27 => ?_
      refine b_app (en := eX) (xs := s6) (x := x14) rfl h27 nmX fun listed2 => ?_
      exact b_nil ⟨(), rfl⟩
    intro s7 u7
    exact b_nil ⟨(UC.fro _), rfl⟩
  intro s8 u8
  exact b_retM (v_mvD (i := 7) rfl) rfl (fun f hf => ⟨rfl, hf⟩) (.inl rfl)
def s_law_run (rows : List DI) (reading : List Int) : Option (DI × Int) :=
  (rngO 0 (rows.length : Int)).bind fun xs1 =>
  (foldO (fun (turn : Int) (s1 : Int × Int) =>
  (atI rows s1.1).bind fun x1 =>
  (ixX x1 0).bind fun x2 =>
  (Ev.cmpS .Eq (eX x2) (eS (PySem.Str.ofString "test"))).bind fun c =>
  (if c = true then (atI rows s1.1).bind fun x3 =>
  (ixX x3 2).bind fun x4 =>
  (atI rows s1.1).bind fun x5 =>
  (ixX x5 1).bind fun x6 =>
  (intX x6).bind fun i =>
  (atI reading i).bind fun x7 =>
  (ixX x4 x7).bind fun x8 =>
  (intX x8).bind fun i1 =>
  (some (s1.2 + 1)).bind fun tests =>
  some (i1, tests) else some (s1.1, s1.2)).bind fun (s2 : Int × Int) =>
  some (s2.1, s2.2)) xs1 (0, 0)).bind fun (s3 : Int × Int) =>
  (atI rows s3.1).bind fun x9 =>
  (ixX x9 0).bind fun x10 =>
  (Ev.cmpS .Eq (eX x10) (eS (PySem.Str.ofString "tell"))).bind fun c1 =>
  if c1 = true then (atI rows s3.1).bind fun x11 =>
  (ixX x11 1).bind fun x12 =>
  some (x12, s3.2) else
  some ((⟨eI (-1), nmI _⟩ : DI), s3.2)
theorem k_law_run (n : Nat) (rows : List DI) (reading : List Int) : ∀ r, s_law_run rows reading = some r → SPn fns (n + 1) 8 [(eL eX) rows, (eT eI) reading] ((eP2 eX eI) r) .dp := by
  refine f_def (n := n + 0) (fn := f_law_run) rfl rfl rfl ?_
  show BX _ b_law_run [some ((eL eX) rows, .fro), some ((eT eI) reading, .fro), none, none, none] _ _
  refine b_asg (v_cI (i := 0)) (at_n (i := 2) rfl rfl rfl) rfl ?_
  refine b_asg (v_cI (i := 0)) (at_n (i := 3) rfl rfl rfl) rfl ?_
  refine b_bindI (still := false) (i_rg1 (v_lenL (en := eX) (v_nmF (i := 0) rfl))) fun xs1 h => ?_
  refine b_forG (en := eI) (E := (fun (s : Int × Int) (u : UC) => ([some ((eL eX) rows, .fro), some ((eT eI) reading, .fro), some (eI s.1, .fro), some (eI s.2, .fro), u.c] : Ev.En))) UC.no h rfl rfl (fun turn s1 u1 => (at_n (i := 4) rfl rfl rfl)) ?_ ?_
  · intro turn s1 u1
    refine b_bind (p_ixL (en := eX) (v_nmF (i := 0) rfl) (v_nmF (i := 2) rfl) rfl) fun x1 h1 => ?_
    refine b_bind (p_ixX h1 (v_cI (i := 0)) rfl) fun x2 h2 => ?_
    refine b_bind (p_cmpD h2 (v_cS (i := PySem.Str.ofString "test")) rfl) fun c h3 => ?_
    refine b_ifB (E := (fun (s : Int × Int) (u : Unit) => ([some ((eL eX) rows, .fro), some ((eT eI) reading, .fro), some (eI s.1, .fro), some (eI s.2, .fro), some (eI turn, .fro)] : Ev.En))) (t_B h3) ?_ ?_ ?_
    · refine b_bind (p_ixL (en := eX) (v_nmF (i := 0) rfl) (v_nmF (i := 2) rfl) rfl) fun x3 h4 => ?_
      refine b_bind (p_ixX h4 (v_cI (i := 2)) rfl) fun x4 h5 => ?_
      refine b_bind (p_ixL (en := eX) (v_nmF (i := 0) rfl) (v_nmF (i := 2) rfl) rfl) fun x5 h6 => ?_
      refine b_bind (p_ixX h6 (v_cI (i := 1)) rfl) fun x6 h7 => ?_
      refine b_bind (p_toI h7) fun i h8 => ?_
      refine b_bind (p_ixT (en := eI) (v_nmF (i := 1) rfl) h8 rfl) fun x7 h9 => ?_
      refine b_bind (p_ixX h5 h9 rfl) fun x8 h10 => ?_
      refine b_bind (p_toI h10) fun i1 h11 => ?_
      refine b_asg h11 (at_n (i := 2) rfl rfl rfl) rfl ?_
      refine b_bind (r_of (en := eI) (v_add (v_nmF (i := 3) rfl) (v_cI (i := 1)) rfl)) fun tests h12 => ?_
      refine b_asg h12 (at_n (i := 3) rfl rfl rfl) rfl ?_
      exact b_nil ⟨(), rfl⟩
    · exact b_nil ⟨(), rfl⟩
    intro s2 u2
    exact b_nil ⟨(UC.fro _), rfl⟩
  intro s3 u3
  refine b_bind (p_ixL (en := eX) (v_nmF (i := 0) rfl) (v_nmF (i := 2) rfl) rfl) fun x9 h13 => ?_
  refine b_bind (p_ixX h13 (v_cI (i := 0)) rfl) fun x10 h14 => ?_
  refine b_bind (p_cmpD h14 (v_cS (i := PySem.Str.ofString "tell")) rfl) fun c1 h15 => ?_
  refine b_ifX (t_B h15) ?_ ?_
  · refine b_bind (p_ixL (en := eX) (v_nmF (i := 0) rfl) (v_nmF (i := 2) rfl) rfl) fun x11 h16 => ?_
    refine b_bind (p_ixX h16 (v_cI (i := 1)) rfl) fun x12 h17 => ?_
    exact b_ret (d := (eP2 eX eI) (x12, s3.2)) (v_tup (vl_cons h17 (vl_cons (v_nmF (i := 3) rfl) vl_nil rfl) rfl) (Nat.le_of_ble_eq_true rfl)) ((nmP2 nmX nmI) _) ⟨rfl, rfl⟩
  exact b_ret (d := (eP2 eX eI) ((⟨eI (-1), nmI _⟩ : DI), s3.2)) (v_tup (vl_cons (v_neg (v_cI (i := 1))) (vl_cons (v_nmF (i := 3) rfl) vl_nil rfl) rfl) (Nat.le_of_ble_eq_true rfl)) ((nmP2 nmX nmI) _) ⟨rfl, rfl⟩
def s_law_drawn_rows (draws : List Int) (many : Int) (fields : Int) (deep : Int) (chain : Bool) : Option (List DI) :=
  (some ([(⟨Ev.D.tup [], rfl⟩ : DI)])).bind fun rows =>
  (some [0]).bind fun levels =>
  (some [true]).bind fun live =>
  (rngO 0 80).bind fun xs1 =>
  (foldO (fun (k : Int) (s1 : (List DI) × (List Int) × (List Bool)) =>
  (if (decide (k < (s1.1.length : Int))) = true then (atI draws (10 + (k % 24))).bind fun x1 =>
  (divO x1 (1 + (k / 24))).bind fun quo =>
  (atI s1.2.2 k).bind fun x2 =>
  (if x2 = true then (atI s1.2.1 k).bind fun x3 => some ((decide (x3 < deep)) && (decide (((s1.1.length : Int) + many) ≤ 70))) else some false).bind fun c =>
  (if (c && ((decide (k = 0)) || (chain || (decide (0 < (quo % 3)))))) = true then (modO (quo / 3) fields).bind fun rem =>
  ((rngO (s1.1.length : Int) ((s1.1.length : Int) + many)).bind szO).bind fun rng =>
  (setO s1.1 k (⟨(eP3 eS eI (eT eI)) ((PySem.Str.ofString "test"), rem, rng), (nmP3 nmS nmI (nmT nmI)) _⟩ : DI)).bind fun rows1 =>
  (repO ([(⟨Ev.D.tup [], rfl⟩ : DI)]) many).bind fun rep =>
  (catO rows1 rep).bind fun cat =>
  (atI s1.2.1 k).bind fun x4 =>
  (repO ([(x4 + 1)]) many).bind fun rep1 =>
  (catO s1.2.1 rep1).bind fun cat1 =>
  ((rngO 0 many).bind fun xs => (lcM (fun (worth : Int) => some true) (fun (worth : Int) => (if (!chain) = true then some true else (modO (quo / 7) many).bind fun rem1 => some (decide (worth = rem1))).bind fun c1 => some c1) xs).bind szO).bind fun l =>
  (catO s1.2.2 l).bind fun cat2 =>
  some (cat, cat1, cat2) else (if (decide ((quo % 4) = 0)) = true then (setO s1.1 k (⟨(eT eS) ([(PySem.Str.ofString "never")]), (nmT nmS) _⟩ : DI)).bind fun rows2 =>
  some rows2 else (setO s1.1 k (⟨(eP2 eS eI) ((PySem.Str.ofString "tell"), (((quo * 7) + k) % 1000)), (nmP2 nmS nmI) _⟩ : DI)).bind fun rows3 =>
  some rows3).bind fun (s2 : List DI) =>
  some (s2, s1.2.1, s1.2.2)).bind fun (s3 : (List DI) × (List Int) × (List Bool)) =>
  some (s3.1, s3.2.1, s3.2.2) else some (s1.1, s1.2.1, s1.2.2)).bind fun (s4 : (List DI) × (List Int) × (List Bool)) =>
  some (s4.1, s4.2.1, s4.2.2)) xs1 (rows, levels, live)).bind fun (s5 : (List DI) × (List Int) × (List Bool)) =>
  some s5.1
theorem k_law_drawn_rows (n : Nat) (draws : List Int) (many : Int) (fields : Int) (deep : Int) (chain : Bool) : ∀ r, s_law_drawn_rows draws many fields deep chain = some r → SPn fns (n + 1) 9 [(eL eI) draws, eI many, eI fields, eI deep, eB chain] ((eL eX) r) .dp := by
  refine f_def (n := n + 0) (fn := f_law_drawn_rows) rfl rfl rfl ?_
  show BX _ b_law_drawn_rows [some ((eL eI) draws, .fro), some (eI many, .fro), some (eI fields, .fro), some (eI deep, .fro), some (eB chain, .fro), none, none, none, none, none, none, none] _ _
  refine b_bind (r_of (en := (eL eX)) (v_lst (vl_cons (v_tup vl_nil (Nat.le_of_ble_eq_true rfl)) vl_nil rfl) (nms_cons (nmX _) nms_nil) (Nat.le_of_ble_eq_true rfl))) fun rows h => ?_
  refine b_asg h (at_nK (i := 5) rfl rfl) rfl ?_
  refine b_bind (r_of (en := (eL eI)) (v_lst (vl_cons (v_cI (i := 0)) vl_nil rfl) (nms_cons (nmI _) nms_nil) (Nat.le_of_ble_eq_true rfl))) fun levels h1 => ?_
  refine b_asg h1 (at_n (i := 6) rfl rfl rfl) rfl ?_
  refine b_bind (r_of (en := (eL eB)) (v_lst (vl_cons (v_cB (i := true)) vl_nil rfl) (nms_cons (nmB _) nms_nil) (Nat.le_of_ble_eq_true rfl))) fun live h2 => ?_
  refine b_asg h2 (at_n (i := 7) rfl rfl rfl) rfl ?_
  refine b_bindI (still := false) (i_rg1 (v_cI (i := 80))) fun xs1 h3 => ?_
  refine b_forG (en := eI) (E := (fun (s : (List DI) × (List Int) × (List Bool)) (u : UC × UC × UC) => ([some ((eL eI) draws, .fro), some (eI many, .fro), some (eI fields, .fro), some (eI deep, .fro), some (eB chain, .fro), some ((eL eX) s.1, .deep), some ((eL eI) s.2.1, .fro), some ((eL eB) s.2.2, .fro), u.2.2.c, u.1.c, u.2.1.c, none] : Ev.En))) (UC.no, UC.no, UC.no) h3 rfl rfl (fun k s1 u1 => (at_n (i := 8) rfl rfl rfl)) ?_ ?_
  · intro k s1 u1
    refine b_ifB (E := (fun (s : (List DI) × (List Int) × (List Bool)) (u : UC × UC) => ([some ((eL eI) draws, .fro), some (eI many, .fro), some (eI fields, .fro), some (eI deep, .fro), some (eB chain, .fro), some ((eL eX) s.1, .deep), some ((eL eI) s.2.1, .fro), some ((eL eB) s.2.2, .fro), some (eI k, .fro), u.1.c, u.2.c, none] : Ev.En))) (t_B (v_ltI (v_nmF (i := 8) rfl) (v_lenL (en := eX) (v_nmB (i := 5) rfl)) rfl)) ?_ ?_ ?_
    · refine b_bind (p_ixL (en := eI) (v_nmF (i := 0) rfl) (v_add (v_cI (i := 10)) (v_mod (v_int (v_nmF (i := 8) rfl)) (v_cI (i := 24)) rfl (by decide)) rfl) rfl) fun x1 h4 => ?_
      refine b_bind (p_div (v_int h4) (v_add (v_cI (i := 1)) (v_div (v_nmF (i := 8) rfl) (v_cI (i := 24)) rfl ⟨by decide, by decide⟩) rfl) rfl) fun quo h5 => ?_
      refine b_asg h5 (at_n (i := 9) rfl rfl rfl) rfl ?_
      refine b_bind (p_ixL (en := eB) (v_nmF (i := 7) rfl) (v_nmF (i := 8) rfl) rfl) fun x2 h6 => ?_
      refine b_bind (r_and h6 (r_bind (p_ixL (en := eI) (v_nmF (i := 6) rfl) (v_nmF (i := 8) rfl) rfl) fun x3 h7 => (r_of (en := eB) (v_and (v_ltI h7 (v_nmF (i := 3) rfl) rfl) (v_leI (v_add (v_lenL (en := eX) (v_nmB (i := 5) rfl)) (v_nmF (i := 1) rfl) rfl) (v_cI (i := 70)) rfl))))) fun c h8 => ?_
      refine b_asg h8 (at_n (i := 10) rfl rfl rfl) rfl ?_
      refine b_ifB (E := (fun (s : (List DI) × (List Int) × (List Bool)) (u : Unit) => ([some ((eL eI) draws, .fro), some (eI many, .fro), some (eI fields, .fro), some (eI deep, .fro), some (eB chain, .fro), some ((eL eX) s.1, .deep), some ((eL eI) s.2.1, .fro), some ((eL eB) s.2.2, .fro), some (eI k, .fro), some (eI quo, .fro), some (eB c, .fro), none] : Ev.En))) (t_and (t_B (v_nmF (i := 10) rfl)) fun _ => (t_or (t_B (v_cmp (v_nmF (i := 8) rfl) (v_cI (i := 0)) rfl (cmp_eq (e := eI) eqI (by decide) k 0))) fun _ => (t_or (t_B (v_nmF (i := 4) rfl)) fun _ => (t_B (v_gtI (v_mod (v_int (v_nmF (i := 9) rfl)) (v_cI (i := 3)) rfl (by decide)) (v_cI (i := 0)) rfl))))) ?_ ?_ ?_
      · refine b_bind (p_mod (v_int (v_div (v_nmF (i := 9) rfl) (v_cI (i := 3)) rfl ⟨by decide, by decide⟩)) (v_nmF (i := 2) rfl) rfl) fun rem h9 => ?_
        refine b_bind (p_trng (i_rg2 (v_lenL (en := eX) (v_nmB (i := 5) rfl)) (v_add (v_lenL (en := eX) (v_nmB (i := 5) rfl)) (v_nmF (i := 1) rfl) rfl))) fun rng h10 => ?_
        refine b_set (en := eX) rfl (v_tup (vl_cons (v_cS (i := PySem.Str.ofString "test")) (vl_cons h9 (vl_cons h10 vl_nil rfl) rfl) rfl) (Nat.le_of_ble_eq_true rfl)) (v_nmF (i := 8) rfl) rfl nmX fun rows1 => ?_
        refine b_bind (p_repL (en := eX) (v_lst (vl_cons (v_tup vl_nil (Nat.le_of_ble_eq_true rfl)) vl_nil rfl) (nms_cons (nmX _) nms_nil) (Nat.le_of_ble_eq_true rfl)) (v_nmF (i := 1) rfl) rfl nmX) fun rep h11 => ?_
        refine b_bind (p_catL (en := eX) (v_nmB (i := 5) rfl) h11 rfl nmX) fun cat h12 => ?_
        refine b_asg h12 (at_nK (i := 5) rfl rfl) rfl ?_
        refine b_bind (p_ixL (en := eI) (v_nmF (i := 6) rfl) (v_nmF (i := 8) rfl) rfl) fun x4 h13 => ?_
        refine b_bind (p_repL (en := eI) (v_lst (vl_cons (v_add h13 (v_cI (i := 1)) rfl) vl_nil rfl) (nms_cons (nmI _) nms_nil) (Nat.le_of_ble_eq_true rfl)) (v_nmF (i := 1) rfl) rfl nmI) fun rep1 h14 => ?_
        refine b_bind (p_catL (en := eI) (v_nmF (i := 6) rfl) h14 rfl nmI) fun cat1 h15 => ?_
        refine b_asg h15 (at_n (i := 6) rfl rfl rfl) rfl ?_
        refine b_bind (p_lc (en := eI) (em := eB) (c2 := .dp) (i_rg1 (v_nmF (i := 1) rfl)) (own_cons (i := 11) (un_no rfl) own_nil) rfl nmB (fun worth => (at_n (i := 11) rfl rfl rfl)) (fun _ => ⟨rfl, rfl⟩) (fun _ => rfl) rfl (fun worth => rc_nil) (fun worth => (r_bind (r_or (v_not (t_B (v_nmF (i := 4) rfl))) (r_bind (p_mod (v_int (v_div (v_nmF (i := 9) rfl) (v_cI (i := 7)) rfl ⟨by decide, by decide⟩)) (v_nmF (i := 1) rfl) rfl) fun rem1 h16 => (r_of (en := eB) (v_cmp (v_nmF (i := 11) rfl) h16 rfl (cmp_eq (e := eI) eqI (by decide) worth rem1))))) fun c1 h17 => (r_of (en := eB) h17)))) fun l h18 => ?_
        refine b_bind (p_catL (en := eB) (v_nmF (i := 7) rfl) h18 rfl nmB) fun cat2 h19 => ?_
        refine b_asg h19 (at_n (i := 7) rfl rfl rfl) rfl ?_
        exact b_nil ⟨(), rfl⟩
      · refine b_ifB (E := (fun (s : List DI) (u : Unit) => ([some ((eL eI) draws, .fro), some (eI many, .fro), some (eI fields, .fro), some (eI deep, .fro), some (eB chain, .fro), some ((eL eX) s, .deep), some ((eL eI) s1.2.1, .fro), some ((eL eB) s1.2.2, .fro), some (eI k, .fro), some (eI quo, .fro), some (eB c, .fro), none] : Ev.En))) (t_B (v_cmp (v_mod (v_int (v_nmF (i := 9) rfl)) (v_cI (i := 4)) rfl (by decide)) (v_cI (i := 0)) rfl (cmp_eq (e := eI) eqI (by decide) (quo % 4) 0))) ?_ ?_ ?_
        · refine b_set (en := eX) rfl (v_tup (vl_cons (v_cS (i := PySem.Str.ofString "never")) vl_nil rfl) (Nat.le_of_ble_eq_true rfl)) (v_nmF (i := 8) rfl) rfl nmX fun rows2 => ?_
          exact b_nil ⟨(), rfl⟩
        · refine b_set (en := eX) rfl (v_tup (vl_cons (v_cS (i := PySem.Str.ofString "tell")) (vl_cons (v_mod (v_int (v_add (v_mul (v_nmF (i := 9) rfl) (v_cI (i := 7)) rfl (cmR (by decide))) (v_nmF (i := 8) rfl) rfl)) (v_cI (i := 1000)) rfl (by decide)) vl_nil rfl) rfl) (Nat.le_of_ble_eq_true rfl)) (v_nmF (i := 8) rfl) rfl nmX fun rows3 => ?_
          exact b_nil ⟨(), rfl⟩
        intro s2 u2
        exact b_nil ⟨(), rfl⟩
      intro s3 u3
      exact b_nil ⟨((UC.fro _), (UC.fro _)), rfl⟩
    · exact b_nil ⟨(u1.1, u1.2.1), rfl⟩
    intro s4 u4
    exact b_nil ⟨(u4.1, u4.2, (UC.fro _)), rfl⟩
  intro s5 u5
  exact b_retM (v_mvD (i := 5) rfl) rfl (fun f hf => ⟨rfl, hf⟩) (.inl rfl)
def s_law_hand_rows (draws : List Int) (many : Int) (fields : Int) (count : Int) : Option (List DI) :=
  (some []).bind fun rows =>
  (rngO 0 count).bind fun xs1 =>
  (foldO (fun (k : Int) (s1 : List DI) =>
  (atI draws (40 + (k % 30))).bind fun x1 =>
  (if ((decide (k < (count - 1))) && ((decide (k = 0)) || (decide (0 < (x1 % 5))))) = true then (some (if ((count - 1) - k) < 5 then ((count - 1) - k) else 5)).bind fun room =>
  ((rngO 0 many).bind fun xs => (lcM (fun (worth : Int) => some true) (fun (worth : Int) => (atI ([5, 7, 11, 17]) worth).bind fun x2 => (divO x1 x2).bind fun quo => (modO quo room).bind fun rem => some ((k + 1) + rem)) xs).bind szO).bind fun l =>
  (modO (x1 / 13) fields).bind fun rem1 =>
  (appO s1 (⟨(eP3 eS eI (eT eI)) ((PySem.Str.ofString "test"), rem1, l), (nmP3 nmS nmI (nmT nmI)) _⟩ : DI)).bind fun rows1 =>
  some rows1 else (if (decide ((x1 % 3) = 0)) = true then (appO s1 (⟨(eT eS) ([(PySem.Str.ofString "never")]), (nmT nmS) _⟩ : DI)).bind fun rows2 =>
  some rows2 else (appO s1 (⟨(eP2 eS eI) ((PySem.Str.ofString "tell"), (((x1 * 3) + k) % 1000)), (nmP2 nmS nmI) _⟩ : DI)).bind fun rows3 =>
  some rows3).bind fun (s2 : List DI) =>
  some s2).bind fun (s3 : List DI) =>
  some s3) xs1 rows).bind fun (s4 : List DI) =>
  some s4
theorem k_law_hand_rows (n : Nat) (draws : List Int) (many : Int) (fields : Int) (count : Int) : ∀ r, s_law_hand_rows draws many fields count = some r → SPn fns (n + 1) 10 [(eL eI) draws, eI many, eI fields, eI count] ((eL eX) r) .dp := by
  refine f_def (n := n + 0) (fn := f_law_hand_rows) rfl rfl rfl ?_
  show BX _ b_law_hand_rows [some ((eL eI) draws, .fro), some (eI many, .fro), some (eI fields, .fro), some (eI count, .fro), none, none, none, none, none, none] _ _
  refine b_bind (r_of (en := (eL eX)) (v_lst vl_nil nms_nil (Nat.le_of_ble_eq_true rfl))) fun rows h => ?_
  refine b_asg h (at_nK (i := 4) rfl rfl) rfl ?_
  refine b_bindI (still := false) (i_rg1 (v_nmF (i := 3) rfl)) fun xs1 h1 => ?_
  refine b_forG (en := eI) (E := (fun (s : List DI) (u : UC × UC × UC × UC) => ([some ((eL eI) draws, .fro), some (eI many, .fro), some (eI fields, .fro), some (eI count, .fro), some ((eL eX) s, .deep), u.2.2.2.c, u.1.c, u.2.1.c, u.2.2.1.c, none] : Ev.En))) (UC.no, UC.no, UC.no, UC.no) h1 rfl rfl (fun k s1 u1 => (at_n (i := 5) rfl rfl rfl)) ?_ ?_
  · intro k s1 u1
    refine b_bind (p_ixL (en := eI) (v_nmF (i := 0) rfl) (v_add (v_cI (i := 40)) (v_mod (v_int (v_nmF (i := 5) rfl)) (v_cI (i := 30)) rfl (by decide)) rfl) rfl) fun x1 h2 => ?_
    refine b_asg (v_int h2) (at_n (i := 6) rfl rfl rfl) rfl ?_
    refine b_ifB (E := (fun (s : List DI) (u : UC × UC) => ([some ((eL eI) draws, .fro), some (eI many, .fro), some (eI fields, .fro), some (eI count, .fro), some ((eL eX) s, .deep), some (eI k, .fro), some (eI x1, .fro), u.1.c, u.2.c, none] : Ev.En))) (t_and (t_B (v_ltI (v_nmF (i := 5) rfl) (v_sub (v_nmF (i := 3) rfl) (v_cI (i := 1)) rfl) rfl)) fun _ => (t_or (t_B (v_cmp (v_nmF (i := 5) rfl) (v_cI (i := 0)) rfl (cmp_eq (e := eI) eqI (by decide) k 0))) fun _ => (t_B (v_gtI (v_mod (v_int (v_nmF (i := 6) rfl)) (v_cI (i := 5)) rfl (by decide)) (v_cI (i := 0)) rfl)))) ?_ ?_ ?_
    · refine b_bind (r_of (en := eI) (v_min (v_cI (i := 5)) (v_sub (v_sub (v_nmF (i := 3) rfl) (v_cI (i := 1)) rfl) (v_nmF (i := 5) rfl) rfl) rfl)) fun room h3 => ?_
      refine b_asg h3 (at_n (i := 7) rfl rfl rfl) rfl ?_
      refine b_bind (p_lc (en := eI) (em := eI) (c2 := .dp) (i_rg1 (v_nmF (i := 1) rfl)) (own_cons (i := 9) (un_no rfl) own_nil) rfl nmI (fun worth => (at_n (i := 9) rfl rfl rfl)) (fun _ => ⟨rfl, rfl⟩) (fun _ => rfl) rfl (fun worth => rc_nil) (fun worth => (r_bind (p_ixT (en := eI) (v_tup (vl_cons (v_cI (i := 5)) (vl_cons (v_cI (i := 7)) (vl_cons (v_cI (i := 11)) (vl_cons (v_cI (i := 17)) vl_nil rfl) rfl) rfl) rfl) (Nat.le_of_ble_eq_true rfl)) (v_nmF (i := 9) rfl) rfl) fun x2 h4 => (r_bind (p_div (v_nmF (i := 6) rfl) h4 rfl) fun quo h5 => (r_bind (p_mod (v_int h5) (v_nmF (i := 7) rfl) rfl) fun rem h6 => (r_of (en := eI) (v_add (v_add (v_nmF (i := 5) rfl) (v_cI (i := 1)) rfl) h6 rfl))))))) fun l h7 => ?_
      refine b_asg h7 (at_n (i := 8) rfl rfl rfl) rfl ?_
      refine b_bind (p_mod (v_int (v_div (v_nmF (i := 6) rfl) (v_cI (i := 13)) rfl ⟨by decide, by decide⟩)) (v_nmF (i := 2) rfl) rfl) fun rem1 h8 => ?_
      refine b_app (en := eX) (xs := s1) (x := (⟨(eP3 eS eI (eT eI)) ((PySem.Str.ofString "test"), rem1, l), (nmP3 nmS nmI (nmT nmI)) _⟩ : DI)) rfl (v_tup (vl_cons (v_cS (i := PySem.Str.ofString "test")) (vl_cons h8 (vl_cons (v_tupleL (en := eI) (v_nmF (i := 8) rfl) nmI) vl_nil rfl) rfl) rfl) (Nat.le_of_ble_eq_true rfl)) nmX fun rows1 => ?_
      exact b_nil ⟨((UC.fro _), (UC.fro _)), rfl⟩
    · refine b_ifB (E := (fun (s : List DI) (u : Unit) => ([some ((eL eI) draws, .fro), some (eI many, .fro), some (eI fields, .fro), some (eI count, .fro), some ((eL eX) s, .deep), some (eI k, .fro), some (eI x1, .fro), u1.2.1.c, u1.2.2.1.c, none] : Ev.En))) (t_B (v_cmp (v_mod (v_int (v_nmF (i := 6) rfl)) (v_cI (i := 3)) rfl (by decide)) (v_cI (i := 0)) rfl (cmp_eq (e := eI) eqI (by decide) (x1 % 3) 0))) ?_ ?_ ?_
      · refine b_app (en := eX) (xs := s1) (x := (⟨(eT eS) ([(PySem.Str.ofString "never")]), (nmT nmS) _⟩ : DI)) rfl (v_tup (vl_cons (v_cS (i := PySem.Str.ofString "never")) vl_nil rfl) (Nat.le_of_ble_eq_true rfl)) nmX fun rows2 => ?_
        exact b_nil ⟨(), rfl⟩
      · refine b_app (en := eX) (xs := s1) (x := (⟨(eP2 eS eI) ((PySem.Str.ofString "tell"), (((x1 * 3) + k) % 1000)), (nmP2 nmS nmI) _⟩ : DI)) rfl (v_tup (vl_cons (v_cS (i := PySem.Str.ofString "tell")) (vl_cons (v_mod (v_int (v_add (v_mul (v_nmF (i := 6) rfl) (v_cI (i := 3)) rfl (cmR (by decide))) (v_nmF (i := 5) rfl) rfl)) (v_cI (i := 1000)) rfl (by decide)) vl_nil rfl) rfl) (Nat.le_of_ble_eq_true rfl)) nmX fun rows3 => ?_
        exact b_nil ⟨(), rfl⟩
      intro s2 u2
      exact b_nil ⟨(u1.2.1, u1.2.2.1), rfl⟩
    intro s3 u3
    exact b_nil ⟨((UC.fro _), u3.1, u3.2, (UC.fro _)), rfl⟩
  intro s4 u4
  exact b_retM (v_mvD (i := 4) rfl) rfl (fun f hf => ⟨rfl, hf⟩) (.inl rfl)
def s_law_size (rows : List DI) : Option Int :=
  (some []).bind fun sizes =>
  (rngO 0 (rows.length : Int)).bind fun xs1 =>
  (foldO (fun (back : Int) (s1 : List (Int × Int)) =>
  (some (((rows.length : Int) - 1) - back)).bind fun at_ =>
  (setKO s1 at_ 1).bind fun sizes1 =>
  (atI rows at_).bind fun x1 =>
  (ixX x1 0).bind fun x2 =>
  (Ev.cmpS .Eq (eX x2) (eS (PySem.Str.ofString "test"))).bind fun c =>
  (if c = true then (atI rows at_).bind fun x3 =>
  (ixX x3 2).bind fun x4 =>
  (tupX x4).bind fun ts =>
  ((some ts).bind fun xs => (lcM (fun (end_ : DI) => some true) (fun (end_ : DI) => (intX end_).bind fun i => (getO i sizes1).bind fun x5 => some x5) xs).bind szO).bind fun l =>
  (setKO sizes1 at_ (1 + l.sum)).bind fun sizes2 =>
  some sizes2 else some sizes1).bind fun (s2 : List (Int × Int)) =>
  some s2) xs1 sizes).bind fun (s3 : List (Int × Int)) =>
  (getO 0 s3).bind fun x6 =>
  some x6
theorem k_law_size (n : Nat) (rows : List DI) : ∀ r, s_law_size rows = some r → SPn fns (n + 1) 11 [(eL eX) rows] (eI r) .dp := by
  refine f_def (n := n + 0) (fn := f_law_size) rfl rfl rfl ?_
  show BX _ b_law_size [some ((eL eX) rows, .fro), none, none, none, none] _ _
  refine b_bind (r_of (en := (eK eI eI)) v_dic) fun sizes h => ?_
  refine b_asg h (at_nK (i := 1) rfl rfl) rfl ?_
  refine b_bindI (still := false) (i_rg1 (v_lenL (en := eX) (v_nmF (i := 0) rfl))) fun xs1 h1 => ?_
  refine b_forG (en := eI) (E := (fun (s : List (Int × Int)) (u : UC × UC) => ([some ((eL eX) rows, .fro), some ((eK eI eI) s, .deep), u.2.c, u.1.c, none] : Ev.En))) (UC.no, UC.no) h1 rfl rfl (fun back s1 u1 => (at_n (i := 2) rfl rfl rfl)) ?_ ?_
  · intro back s1 u1
    refine b_bind (r_of (en := eI) (v_sub (v_sub (v_lenL (en := eX) (v_nmF (i := 0) rfl)) (v_cI (i := 1)) rfl) (v_nmF (i := 2) rfl) rfl)) fun at_ h2 => ?_
    refine b_asg h2 (at_n (i := 3) rfl rfl rfl) rfl ?_
    refine b_setK (i := 1) (en := eI) (kvs := s1) (x := 1) (j := at_) rfl (v_cI (i := 1)) (v_nmF (i := 3) rfl) rfl nmI fun sizes1 => ?_
    refine b_bind (p_ixL (en := eX) (v_nmF (i := 0) rfl) (v_nmF (i := 3) rfl) rfl) fun x1 h3 => ?_
    refine b_bind (p_ixX h3 (v_cI (i := 0)) rfl) fun x2 h4 => ?_
    refine b_bind (p_cmpD h4 (v_cS (i := PySem.Str.ofString "test")) rfl) fun c h5 => ?_
    refine b_ifB (E := (fun (s : List (Int × Int)) (u : Unit) => ([some ((eL eX) rows, .fro), some ((eK eI eI) s, .deep), some (eI back, .fro), some (eI at_, .fro), none] : Ev.En))) (t_B h5) ?_ ?_ ?_
    · refine b_bind (p_ixL (en := eX) (v_nmF (i := 0) rfl) (v_nmF (i := 3) rfl) rfl) fun x3 h6 => ?_
      refine b_bind (p_ixX h6 (v_cI (i := 2)) rfl) fun x4 h7 => ?_
      refine b_bind (p_toT h7) fun ts h8 => ?_
      refine b_bind (p_lc (en := eX) (em := eI) (c2 := .an) (ri_of (en := eX) (i_T (en := eX) h8 rfl)) (own_cons (i := 4) (un_no rfl) own_nil) rfl nmI (fun end_ => (at_n (i := 4) rfl rfl rfl)) (fun _ => ⟨rfl, rfl⟩) (fun _ => rfl) rfl (fun end_ => rc_nil) (fun end_ => (r_bind (p_toI (v_nmF (i := 4) rfl)) fun i h9 => (r_bind (p_ixK (em := eI) (v_nmB (i := 1) rfl) h9 rfl) fun x5 h10 => (r_of (en := eI) h10))))) fun l h11 => ?_
      refine b_setK (i := 1) (en := eI) (kvs := sizes1) (x := (1 + l.sum)) (j := at_) rfl (v_add (v_cI (i := 1)) (v_sum h11) rfl) (v_nmF (i := 3) rfl) rfl nmI fun sizes2 => ?_
      exact b_nil ⟨(), rfl⟩
    · exact b_nil ⟨(), rfl⟩
    intro s2 u2
    exact b_nil ⟨((UC.fro _), (UC.fro _)), rfl⟩
  intro s3 u3
  refine b_bind (p_ixK (em := eI) (v_nmB (i := 1) rfl) (v_cI (i := 0)) rfl) fun x6 h12 => ?_
  exact b_ret (d := eI x6) h12 (nmI _) ⟨rfl, rfl⟩
def s_law_moved (rows : List DI) (first : Int) (stretch : Int) : Option (List DI) :=
  (some []).bind fun moved =>
  (foldO (fun (row : DI) (s1 : List DI) =>
  (ixX row 0).bind fun x1 =>
  (Ev.cmpS .Eq (eX x1) (eS (PySem.Str.ofString "test"))).bind fun c =>
  (if c = true then (ixX row 1).bind fun x2 =>
  (intX x2).bind fun i =>
  (mulO stretch i).bind fun mul =>
  (ixX row 2).bind fun x3 =>
  (appO s1 (⟨(eP3 eS eI eX) ((PySem.Str.ofString "test"), (first + mul), x3), (nmP3 nmS nmI nmX) _⟩ : DI)).bind fun moved1 =>
  some moved1 else (appO s1 row).bind fun moved2 =>
  some moved2).bind fun (s2 : List DI) =>
  some s2) rows moved).bind fun (s3 : List DI) =>
  some s3
theorem k_law_moved (n : Nat) (rows : List DI) (first : Int) (stretch : Int) : ∀ r, s_law_moved rows first stretch = some r → SPn fns (n + 1) 12 [(eL eX) rows, eI first, eI stretch] ((eL eX) r) .dp := by
  refine f_def (n := n + 0) (fn := f_law_moved) rfl rfl rfl ?_
  show BX _ b_law_moved [some ((eL eX) rows, .fro), some (eI first, .fro), some (eI stretch, .fro), none, none] _ _
  refine b_bind (r_of (en := (eL eX)) (v_lst vl_nil nms_nil (Nat.le_of_ble_eq_true rfl))) fun moved h => ?_
  refine b_asg h (at_nK (i := 3) rfl rfl) rfl ?_
  refine b_forG (en := eX) (E := (fun (s : List DI) (u : UC) => ([some ((eL eX) rows, .fro), some (eI first, .fro), some (eI stretch, .fro), some ((eL eX) s, .deep), u.c] : Ev.En))) UC.no (i_L (en := eX) (v_nmF (i := 0) rfl) rfl) rfl rfl (fun row s1 u1 => (at_n (i := 4) rfl rfl rfl)) ?_ ?_
  · intro row s1 u1
    refine b_bind (p_ixX (v_nmF (i := 4) rfl) (v_cI (i := 0)) rfl) fun x1 h1 => ?_
    refine b_bind (p_cmpD h1 (v_cS (i := PySem.Str.ofString "test")) rfl) fun c h2 => ?_
    refine b_ifB (E := (fun (s : List DI) (u : Unit) => ([some ((eL eX) rows, .fro), some (eI first, .fro), some (eI stretch, .fro), some ((eL eX) s, .deep), some (eX row, .fro)] : Ev.En))) (t_B h2) ?_ ?_ ?_
    · refine b_bind (p_ixX (v_nmF (i := 4) rfl) (v_cI (i := 1)) rfl) fun x2 h3 => ?_
      refine b_bind (p_toI h3) fun i h4 => ?_
      refine b_bind (p_mul (v_nmF (i := 2) rfl) h4 rfl) fun mul h5 => ?_
      refine b_bind (p_ixX (v_nmF (i := 4) rfl) (v_cI (i := 2)) rfl) fun x3 h6 => ?_
      refine b_app (en := eX) (xs := s1) (x := (⟨(eP3 eS eI eX) ((PySem.Str.ofString "test"), (first + mul), x3), (nmP3 nmS nmI nmX) _⟩ : DI)) rfl (v_tup (vl_cons (v_cS (i := PySem.Str.ofString "test")) (vl_cons (v_add (v_nmF (i := 1) rfl) h5 rfl) (vl_cons h6 vl_nil rfl) rfl) rfl) (Nat.le_of_ble_eq_true rfl)) nmX fun moved1 => ?_
      exact b_nil ⟨(), rfl⟩
    · refine b_app (en := eX) (xs := s1) (x := row) rfl (v_nmF (i := 4) rfl) nmX fun moved2 => ?_
      exact b_nil ⟨(), rfl⟩
    intro s2 u2
    exact b_nil ⟨(UC.fro _), rfl⟩
  intro s3 u3
  exact b_retM (v_mvD (i := 3) rfl) rfl (fun f hf => ⟨rfl, hf⟩) (.inl rfl)
def s_law_wide (reading : List Int) (first : Int) (stretch : Int) : Option (List Int) :=
  (mulO stretch (reading.length : Int)).bind fun mul =>
  (repO [1] (first + mul)).bind fun rep =>
  (rngO 0 (reading.length : Int)).bind fun xs1 =>
  (foldO (fun (k : Int) (s1 : List Int) =>
  (atI reading k).bind fun x1 =>
  (mulO stretch k).bind fun mul1 =>
  (setO s1 (first + mul1) x1).bind fun wide =>
  some wide) xs1 rep).bind fun (s2 : List Int) =>
  some s2
theorem k_law_wide (n : Nat) (reading : List Int) (first : Int) (stretch : Int) : ∀ r, s_law_wide reading first stretch = some r → SPn fns (n + 1) 13 [(eT eI) reading, eI first, eI stretch] ((eT eI) r) .dp := by
  refine f_def (n := n + 0) (fn := f_law_wide) rfl rfl rfl ?_
  show BX _ b_law_wide [some ((eT eI) reading, .fro), some (eI first, .fro), some (eI stretch, .fro), none, none] _ _
  refine b_bind (p_mul (v_nmF (i := 2) rfl) (v_lenT (en := eI) (v_nmF (i := 0) rfl)) rfl) fun mul h => ?_
  refine b_bind (p_repL (en := eI) (v_lst (vl_cons (v_cI (i := 1)) vl_nil rfl) (nms_cons (nmI _) nms_nil) (Nat.le_of_ble_eq_true rfl)) (v_add (v_nmF (i := 1) rfl) h rfl) rfl nmI) fun rep h1 => ?_
  refine b_asg h1 (at_nK (i := 3) rfl rfl) rfl ?_
  refine b_bindI (still := false) (i_rg1 (v_lenT (en := eI) (v_nmF (i := 0) rfl))) fun xs1 h2 => ?_
  refine b_forG (en := eI) (E := (fun (s : List Int) (u : UC) => ([some ((eT eI) reading, .fro), some (eI first, .fro), some (eI stretch, .fro), some ((eL eI) s, .deep), u.c] : Ev.En))) UC.no h2 rfl rfl (fun k s1 u1 => (at_n (i := 4) rfl rfl rfl)) ?_ ?_
  · intro k s1 u1
    refine b_bind (p_ixT (en := eI) (v_nmF (i := 0) rfl) (v_nmF (i := 4) rfl) rfl) fun x1 h3 => ?_
    refine b_bind (p_mul (v_nmF (i := 2) rfl) (v_nmF (i := 4) rfl) rfl) fun mul1 h4 => ?_
    refine b_set (en := eI) rfl h3 (v_add (v_nmF (i := 1) rfl) h4 rfl) rfl nmI fun wide => ?_
    exact b_nil ⟨(UC.fro _), rfl⟩
  intro s2 u2
  exact b_ret (d := (eT eI) s2) (v_tupleL (en := eI) (v_nmB (i := 3) rfl) nmI) ((nmT nmI) _) ⟨rfl, rfl⟩
def s_law (script : List Int) : Option Bool :=
  (Lc.s_law_draws script 70).bind fun r1 =>
  (atI r1 1).bind fun x1 =>
  (some (2 + (x1 % 3))).bind fun many =>
  (atI r1 2).bind fun x2 =>
  (atI ([5, 3, 2]) (many - 2)).bind fun x3 =>
  (modO x2 x3).bind fun rem =>
  (some (1 + rem)).bind fun fields =>
  (atI r1 5).bind fun x4 =>
  (some (x4 % 6)).bind fun first =>
  (atI r1 6).bind fun x5 =>
  (if (decide ((x5 % 2) = 1)) = true then (atI r1 6).bind fun x6 =>
  (some (1 + ((x6 / 2) % 24))).bind fun stretch =>
  some stretch else some 1).bind fun (s1 : Int) =>
  (atI r1 0).bind fun x7 =>
  (some (x7 % 3)).bind fun kind =>
  (atI r1 3).bind fun x8 =>
  (s_law_drawn_rows r1 many fields (x8 % 9) (decide (kind = 1))).bind fun r2 =>
  (atI r1 4).bind fun x9 =>
  (s_law_hand_rows r1 many fields (1 + (x9 % 7))).bind fun r3 =>
  (if (decide (kind = 2)) = true then (s_law_size r3).bind fun r4 => some (decide (r4 ≤ 300)) else some false).bind fun c =>
  (if c = true then some r3 else some r2).bind fun (s2 : List DI) =>
  (s_law_moved s2 first s1).bind fun r5 =>
  (atI r1 4).bind fun x10 =>
  (s_law_hand_rows r1 many fields (1 + (x10 % 30))).bind fun r6 =>
  (s_law_moved r6 first s1).bind fun r7 =>
  (s_law_tree_of r5).bind fun r8 =>
  (s_law_listed r5).bind fun r9 =>
  (s_rows_of r8).bind fun r10 =>
  (Lc.s_law_same 6 ((eL eX) r10) ((eL eX) r9)).bind fun r11 =>
  if (!r11) = true then some false else
  (appO r10 (⟨(eT eS) ([(PySem.Str.ofString "never")]), (nmT nmS) _⟩ : DI)).bind fun told =>
  (setO told 0 (⟨(eP2 eS eI) ((PySem.Str.ofString "tell"), 1000), (nmP2 nmS nmI) _⟩ : DI)).bind fun told1 =>
  (s_rows_of r8).bind fun r12 =>
  (Lc.s_law_same 6 ((eL eX) r12) ((eL eX) r9)).bind fun r13 =>
  if (!r13) = true then some false else
  ((rngO 0 many).bind szO).bind fun rng =>
  (s_law_readings_of fields rng).bind fun r14 =>
  (loopM (fun (reading : List Int) (s3 : Unit) =>
  (s_law_wide reading first s1).bind fun r15 =>
  (s_law_run r5 r15).bind fun r16 =>
  (s_law_run r7 r15).bind fun r17 =>
  (s_run_rows r9 r15).bind fun r18 =>
  (Lc.s_law_same 6 ((eP2 eX eI) r18) ((eP2 eX eI) r16)).bind fun r19 =>
  (if (!r19) = true then some true else (s_run_rows_2 r9 r15).bind fun r20 => (Lc.s_law_same 6 ((eP2 eX eI) r20) ((eP2 eX eI) r16)).bind fun r21 => some (!r21)).bind fun c1 =>
  if c1 = true then some (Lo.ex false) else
  (s_run_rows r7 r15).bind fun r22 =>
  (Lc.s_law_same 6 ((eP2 eX eI) r22) ((eP2 eX eI) r17)).bind fun r23 =>
  (if (!r23) = true then some true else (s_run_rows_2 r7 r15).bind fun r24 => (Lc.s_law_same 6 ((eP2 eX eI) r24) ((eP2 eX eI) r17)).bind fun r25 => some (!r25)).bind fun c2 =>
  if c2 = true then some (Lo.ex false) else
  some (Lo.nx ())) r14 ()).bind (J.go fun (s4 : Unit) =>
  (Lc.s_law_same 6 ((eL eX) r7) ((eL eX) r7)).bind fun r26 =>
  some r26)
theorem k_law (n : Nat) (script : List Int) : ∀ r, s_law script = some r → SPn fns (n + 7) 14 [eC script] (eB r) .dp := by
  refine f_def (n := n + 6) (fn := f_law) rfl rfl rfl ?_
  show BX _ b_law [some (eC script, .fro), none, none, none, none, none, none, none, none, none, none, none, none, none, none, none, none, none] _ _
  refine b_bind (p_call (f := 2) (em := (eL eI)) (c1 := .dp) (vl_cons (v_nmF (i := 0) rfl) (vl_cons (v_cI (i := 70)) vl_nil rfl) rfl) rfl (fun r hr => k_law_draws (n + 5) script 70 r hr) (.inl rfl)) fun r1 h => ?_
  refine b_asg h (at_n (i := 1) rfl rfl rfl) rfl ?_
  refine b_bind (p_ixL (en := eI) (v_nmF (i := 1) rfl) (v_cI (i := 1)) rfl) fun x1 h1 => ?_
  refine b_bind (r_of (en := eI) (v_add (v_cI (i := 2)) (v_mod (v_int h1) (v_cI (i := 3)) rfl (by decide)) rfl)) fun many h2 => ?_
  refine b_asg h2 (at_n (i := 2) rfl rfl rfl) rfl ?_
  refine b_bind (p_ixL (en := eI) (v_nmF (i := 1) rfl) (v_cI (i := 2)) rfl) fun x2 h3 => ?_
  refine b_bind (p_ixT (en := eI) (v_tup (vl_cons (v_cI (i := 5)) (vl_cons (v_cI (i := 3)) (vl_cons (v_cI (i := 2)) vl_nil rfl) rfl) rfl) (Nat.le_of_ble_eq_true rfl)) (v_sub (v_nmF (i := 2) rfl) (v_cI (i := 2)) rfl) rfl) fun x3 h4 => ?_
  refine b_bind (p_mod (v_int h3) h4 rfl) fun rem h5 => ?_
  refine b_bind (r_of (en := eI) (v_add (v_cI (i := 1)) h5 rfl)) fun fields h6 => ?_
  refine b_asg h6 (at_n (i := 3) rfl rfl rfl) rfl ?_
  refine b_bind (p_ixL (en := eI) (v_nmF (i := 1) rfl) (v_cI (i := 5)) rfl) fun x4 h7 => ?_
  refine b_bind (r_of (en := eI) (v_mod (v_int h7) (v_cI (i := 6)) rfl (by decide))) fun first h8 => ?_
  refine b_asg h8 (at_n (i := 4) rfl rfl rfl) rfl ?_
  refine b_asg (v_cI (i := 1)) (at_n (i := 5) rfl rfl rfl) rfl ?_
  refine b_bind (p_ixL (en := eI) (v_nmF (i := 1) rfl) (v_cI (i := 6)) rfl) fun x5 h9 => ?_
  refine b_ifB (E := (fun (s : Int) (u : Unit) => ([some (eC script, .fro), some ((eL eI) r1, .fro), some (eI many, .fro), some (eI fields, .fro), some (eI first, .fro), some (eI s, .fro), none, none, none, none, none, none, none, none, none, none, none, none] : Ev.En))) (t_B (v_cmp (v_mod (v_int h9) (v_cI (i := 2)) rfl (by decide)) (v_cI (i := 1)) rfl (cmp_eq (e := eI) eqI (by decide) (x5 % 2) 1))) ?_ ?_ ?_
  · refine b_bind (p_ixL (en := eI) (v_nmF (i := 1) rfl) (v_cI (i := 6)) rfl) fun x6 h10 => ?_
    refine b_bind (r_of (en := eI) (v_add (v_cI (i := 1)) (v_mod (v_div (v_int h10) (v_cI (i := 2)) rfl ⟨by decide, by decide⟩) (v_cI (i := 24)) rfl (by decide)) rfl)) fun stretch h11 => ?_
    refine b_asg h11 (at_n (i := 5) rfl rfl rfl) rfl ?_
    exact b_nil ⟨(), rfl⟩
  · exact b_nil ⟨(), rfl⟩
  intro s1 u1
  refine b_bind (p_ixL (en := eI) (v_nmF (i := 1) rfl) (v_cI (i := 0)) rfl) fun x7 h12 => ?_
  refine b_bind (r_of (en := eI) (v_mod (v_int h12) (v_cI (i := 3)) rfl (by decide))) fun kind h13 => ?_
  refine b_asg h13 (at_n (i := 6) rfl rfl rfl) rfl ?_
  refine b_bind (p_ixL (en := eI) (v_nmF (i := 1) rfl) (v_cI (i := 3)) rfl) fun x8 h14 => ?_
  refine b_bind (p_call (f := 9) (em := (eL eX)) (c1 := .dp) (vl_cons (v_nmF (i := 1) rfl) (vl_cons (v_nmF (i := 2) rfl) (vl_cons (v_nmF (i := 3) rfl) (vl_cons (v_mod (v_int h14) (v_cI (i := 9)) rfl (by decide)) (vl_cons (v_cmp (v_nmF (i := 6) rfl) (v_cI (i := 1)) rfl (cmp_eq (e := eI) eqI (by decide) kind 1)) vl_nil rfl) rfl) rfl) rfl) rfl) rfl (fun r hr => k_law_drawn_rows (n + 5) r1 many fields (x8 % 9) (decide (kind = 1)) r hr) (.inl rfl)) fun r2 h15 => ?_
  refine b_asg h15 (at_n (i := 7) rfl rfl rfl) rfl ?_
  refine b_bind (p_ixL (en := eI) (v_nmF (i := 1) rfl) (v_cI (i := 4)) rfl) fun x9 h16 => ?_
  refine b_bind (p_call (f := 10) (em := (eL eX)) (c1 := .dp) (vl_cons (v_nmF (i := 1) rfl) (vl_cons (v_nmF (i := 2) rfl) (vl_cons (v_nmF (i := 3) rfl) (vl_cons (v_add (v_cI (i := 1)) (v_mod (v_int h16) (v_cI (i := 7)) rfl (by decide)) rfl) vl_nil rfl) rfl) rfl) rfl) rfl (fun r hr => k_law_hand_rows (n + 5) r1 many fields (1 + (x9 % 7)) r hr) (.inl rfl)) fun r3 h17 => ?_
  refine b_asg h17 (at_n (i := 8) rfl rfl rfl) rfl ?_
  refine b_bindT (rt_and (t_B (v_cmp (v_nmF (i := 6) rfl) (v_cI (i := 2)) rfl (cmp_eq (e := eI) eqI (by decide) kind 2))) (rt_bind (p_call (f := 11) (em := eI) (c1 := .dp) (vl_cons (v_nmF (i := 8) rfl) vl_nil rfl) rfl (fun r hr => k_law_size (n + 5) r3 r hr) (.inl rfl)) fun r4 h18 => (rt_of (t_B (v_leI h18 (v_cI (i := 300)) rfl))))) fun c h19 => ?_
  refine b_ifB (E := (fun (s : List DI) (u : Unit) => ([some (eC script, .fro), some ((eL eI) r1, .fro), some (eI many, .fro), some (eI fields, .fro), some (eI first, .fro), some (eI s1, .fro), some (eI kind, .fro), some ((eL eX) s, .fro), some ((eL eX) r3, .fro), none, none, none, none, none, none, none, none, none] : Ev.En))) h19 ?_ ?_ ?_
  · refine b_asg (v_nmF (i := 8) rfl) (at_n (i := 7) rfl rfl rfl) rfl ?_
    exact b_nil ⟨(), rfl⟩
  · exact b_nil ⟨(), rfl⟩
  intro s2 u2
  refine b_bind (p_call (f := 12) (em := (eL eX)) (c1 := .dp) (vl_cons (v_nmF (i := 7) rfl) (vl_cons (v_nmF (i := 4) rfl) (vl_cons (v_nmF (i := 5) rfl) vl_nil rfl) rfl) rfl) rfl (fun r hr => k_law_moved (n + 5) s2 first s1 r hr) (.inl rfl)) fun r5 h20 => ?_
  refine b_asg h20 (at_n (i := 7) rfl rfl rfl) rfl ?_
  refine b_bind (p_ixL (en := eI) (v_nmF (i := 1) rfl) (v_cI (i := 4)) rfl) fun x10 h21 => ?_
  refine b_bind (p_call (f := 10) (em := (eL eX)) (c1 := .dp) (vl_cons (v_nmF (i := 1) rfl) (vl_cons (v_nmF (i := 2) rfl) (vl_cons (v_nmF (i := 3) rfl) (vl_cons (v_add (v_cI (i := 1)) (v_mod (v_int h21) (v_cI (i := 30)) rfl (by decide)) rfl) vl_nil rfl) rfl) rfl) rfl) rfl (fun r hr => k_law_hand_rows (n + 5) r1 many fields (1 + (x10 % 30)) r hr) (.inl rfl)) fun r6 h22 => ?_
  refine b_bind (p_call (f := 12) (em := (eL eX)) (c1 := .dp) (vl_cons h22 (vl_cons (v_nmF (i := 4) rfl) (vl_cons (v_nmF (i := 5) rfl) vl_nil rfl) rfl) rfl) rfl (fun r hr => k_law_moved (n + 5) r6 first s1 r hr) (.inl rfl)) fun r7 h23 => ?_
  refine b_asg h23 (at_n (i := 9) rfl rfl rfl) rfl ?_
  refine b_bind (p_call (f := 6) (em := eX) (c1 := .dp) (vl_cons (v_nmF (i := 7) rfl) vl_nil rfl) rfl (fun r hr => k_law_tree_of (n + 5) r5 r hr) (.inl rfl)) fun r8 h24 => ?_
  refine b_asg h24 (at_n (i := 10) rfl rfl rfl) rfl ?_
  refine b_bind (p_call (f := 7) (em := (eL eX)) (c1 := .dp) (vl_cons (v_nmF (i := 7) rfl) vl_nil rfl) rfl (fun r hr => k_law_listed (n + 5) r5 r hr) (.inl rfl)) fun r9 h25 => ?_
  refine b_asg h25 (at_n (i := 11) rfl rfl rfl) rfl ?_
  refine b_bind (p_call (f := 0) (em := (eL eX)) (c1 := .dp) (vl_cons (v_nmF (i := 10) rfl) vl_nil rfl) rfl (fun r hr => k_rows_of (n + 5) r8 r hr) (.inl rfl)) fun r10 h26 => ?_
  refine b_asg h26 (at_nK (i := 12) rfl rfl) rfl ?_
  refine b_bind (p_call (f := 3) (em := eB) (c1 := .dp) (vl_cons (v_nmB (i := 12) rfl) (vl_cons (v_nmF (i := 11) rfl) vl_nil rfl) rfl) rfl (fun r hr => k_law_same (n + 0) 6 ((eL eX) r10) ((eL eX) r9) r hr) (.inr (.inl rfl))) fun r11 h27 => ?_
  refine b_ifX (t_not (t_B h27)) ?_ ?_
  · exact b_ret (d := eB false) (v_cB (i := false)) (nmB _) ⟨rfl, rfl⟩
  refine b_app (en := eX) (xs := r10) (x := (⟨(eT eS) ([(PySem.Str.ofString "never")]), (nmT nmS) _⟩ : DI)) rfl (v_tup (vl_cons (v_cS (i := PySem.Str.ofString "never")) vl_nil rfl) (Nat.le_of_ble_eq_true rfl)) nmX fun told => ?_
  refine b_set (en := eX) rfl (v_tup (vl_cons (v_cS (i := PySem.Str.ofString "tell")) (vl_cons (v_cI (i := 1000)) vl_nil rfl) rfl) (Nat.le_of_ble_eq_true rfl)) (v_cI (i := 0)) rfl nmX fun told1 => ?_
  refine b_bind (p_call (f := 0) (em := (eL eX)) (c1 := .dp) (vl_cons (v_nmF (i := 10) rfl) vl_nil rfl) rfl (fun r hr => k_rows_of (n + 5) r8 r hr) (.inl rfl)) fun r12 h28 => ?_
  refine b_bind (p_call (f := 3) (em := eB) (c1 := .dp) (vl_cons h28 (vl_cons (v_nmF (i := 11) rfl) vl_nil rfl) rfl) rfl (fun r hr => k_law_same (n + 0) 6 ((eL eX) r12) ((eL eX) r9) r hr) (.inl rfl)) fun r13 h29 => ?_
  refine b_ifX (t_not (t_B h29)) ?_ ?_
  · exact b_ret (d := eB false) (v_cB (i := false)) (nmB _) ⟨rfl, rfl⟩
  refine b_asg (v_listL (en := eX) (v_nmF (i := 9) rfl) nmX) (at_n (i := 13) rfl rfl rfl) rfl ?_
  refine b_bind (p_lrng (i_rg1 (v_nmF (i := 2) rfl))) fun rng h30 => ?_
  refine b_bind (p_call (f := 5) (em := (eL (eT eI))) (c1 := .nb) (vl_cons (v_nmF (i := 3) rfl) (vl_cons h30 vl_nil rfl) rfl) rfl (fun r hr => k_law_readings_of (n + 5) fields rng r hr) (.inl rfl)) fun r14 h31 => ?_
  refine b_for (en := (eT eI)) (E := (fun (s : Unit) (u : UC × UC × UC × UC) => ([some (eC script, .fro), some ((eL eI) r1, .fro), some (eI many, .fro), some (eI fields, .fro), some (eI first, .fro), some (eI s1, .fro), some (eI kind, .fro), some ((eL eX) r5, .fro), some ((eL eX) r3, .fro), some ((eL eX) r7, .fro), some (eX r8, .fro), some ((eL eX) r9, .fro), some ((eL eX) told1, .deep), some ((eL eX) r7, .fro), u.2.2.2.c, u.1.c, u.2.1.c, u.2.2.1.c] : Ev.En))) (UC.no, UC.no, UC.no, UC.no) (i_L (en := (eT eI)) h31 rfl) rfl rfl (fun reading s3 u3 => (at_n (i := 14) rfl rfl rfl)) ?_ ?_
  · intro reading s3 u3
    refine b_bind (p_call (f := 13) (em := (eT eI)) (c1 := .dp) (vl_cons (v_nmF (i := 14) rfl) (vl_cons (v_nmF (i := 4) rfl) (vl_cons (v_nmF (i := 5) rfl) vl_nil rfl) rfl) rfl) rfl (fun r hr => k_law_wide (n + 5) reading first s1 r hr) (.inl rfl)) fun r15 h32 => ?_
    refine b_asg h32 (at_n (i := 15) rfl rfl rfl) rfl ?_
    refine b_bind (p_call (f := 8) (em := (eP2 eX eI)) (c1 := .dp) (vl_cons (v_nmF (i := 7) rfl) (vl_cons (v_nmF (i := 15) rfl) vl_nil rfl) rfl) rfl (fun r hr => k_law_run (n + 5) r5 r15 r hr) (.inl rfl)) fun r16 h33 => ?_
    refine b_asg h33 (at_n (i := 16) rfl rfl rfl) rfl ?_
    refine b_bind (p_call (f := 8) (em := (eP2 eX eI)) (c1 := .dp) (vl_cons (v_nmF (i := 9) rfl) (vl_cons (v_nmF (i := 15) rfl) vl_nil rfl) rfl) rfl (fun r hr => k_law_run (n + 5) r7 r15 r hr) (.inl rfl)) fun r17 h34 => ?_
    refine b_asg h34 (at_n (i := 17) rfl rfl rfl) rfl ?_
    refine b_bind (p_call (f := 1) (em := (eP2 eX eI)) (c1 := .dp) (vl_cons (v_listL (en := eX) (v_nmF (i := 11) rfl) nmX) (vl_cons (v_nmF (i := 15) rfl) vl_nil rfl) rfl) rfl (fun r hr => k_run_rows (n + 5) r9 r15 r hr) (.inl rfl)) fun r18 h35 => ?_
    refine b_bind (p_call (f := 3) (em := eB) (c1 := .dp) (vl_cons h35 (vl_cons (v_nmF (i := 16) rfl) vl_nil rfl) rfl) rfl (fun r hr => k_law_same (n + 0) 6 ((eP2 eX eI) r18) ((eP2 eX eI) r16) r hr) (.inl rfl)) fun r19 h36 => ?_
    refine b_bindT (rt_or (t_not (t_B h36)) (rt_bind (p_call (f := 1) (em := (eP2 eX eI)) (c1 := .dp) (vl_cons (v_tupleL (en := eX) (v_nmF (i := 11) rfl) nmX) (vl_cons (v_nmF (i := 15) rfl) vl_nil rfl) rfl) rfl (fun r hr => k_run_rows_2 (n + 5) r9 r15 r hr) (.inl rfl)) fun r20 h37 => (rt_bind (p_call (f := 3) (em := eB) (c1 := .dp) (vl_cons h37 (vl_cons (v_nmF (i := 16) rfl) vl_nil rfl) rfl) rfl (fun r hr => k_law_same (n + 0) 6 ((eP2 eX eI) r20) ((eP2 eX eI) r16) r hr) (.inl rfl)) fun r21 h38 => (rt_of (t_not (t_B h38)))))) fun c1 h39 => ?_
    refine b_ifX h39 ?_ ?_
    · exact b_ret (d := eB false) (v_cB (i := false)) (nmB _) ⟨_, rfl, ⟨rfl, rfl⟩⟩
    refine b_bind (p_call (f := 1) (em := (eP2 eX eI)) (c1 := .dp) (vl_cons (v_nmF (i := 13) rfl) (vl_cons (v_nmF (i := 15) rfl) vl_nil rfl) rfl) rfl (fun r hr => k_run_rows (n + 5) r7 r15 r hr) (.inl rfl)) fun r22 h40 => ?_
    refine b_bind (p_call (f := 3) (em := eB) (c1 := .dp) (vl_cons h40 (vl_cons (v_nmF (i := 17) rfl) vl_nil rfl) rfl) rfl (fun r hr => k_law_same (n + 0) 6 ((eP2 eX eI) r22) ((eP2 eX eI) r17) r hr) (.inl rfl)) fun r23 h41 => ?_
    refine b_bindT (rt_or (t_not (t_B h41)) (rt_bind (p_call (f := 1) (em := (eP2 eX eI)) (c1 := .dp) (vl_cons (v_tupleL (en := eX) (v_nmF (i := 9) rfl) nmX) (vl_cons (v_nmF (i := 15) rfl) vl_nil rfl) rfl) rfl (fun r hr => k_run_rows_2 (n + 5) r7 r15 r hr) (.inl rfl)) fun r24 h42 => (rt_bind (p_call (f := 3) (em := eB) (c1 := .dp) (vl_cons h42 (vl_cons (v_nmF (i := 17) rfl) vl_nil rfl) rfl) rfl (fun r hr => k_law_same (n + 0) 6 ((eP2 eX eI) r24) ((eP2 eX eI) r17) r hr) (.inl rfl)) fun r25 h43 => (rt_of (t_not (t_B h43)))))) fun c2 h44 => ?_
    refine b_ifX h44 ?_ ?_
    · exact b_ret (d := eB false) (v_cB (i := false)) (nmB _) ⟨_, rfl, ⟨rfl, rfl⟩⟩
    exact b_nil ⟨(), ((UC.fro _), (UC.fro _), (UC.fro _), (UC.fro _)), rfl, rfl⟩
  intro s4 u4
  refine b_bind (p_call (f := 3) (em := eB) (c1 := .dp) (vl_cons (v_nmF (i := 13) rfl) (vl_cons (v_nmF (i := 9) rfl) vl_nil rfl) rfl) rfl (fun r hr => k_law_same (n + 0) 6 ((eL eX) r7) ((eL eX) r7) r hr) (.inl rfl)) fun r26 h45 => ?_
  exact b_ret (d := eB r26) h45 (nmB _) ⟨rfl, rfl⟩
end
end K45

namespace K45
noncomputable section
open PySem L2 Ev Rf Lc
/-! rows as data -/
inductive Row where
  | test (f : Int) (es : List Nat) | never | tell (w : Int)
def iX (i : Int) : DI := ⟨eI i, nmI i⟩
def tX (es : List Nat) : DI := ⟨eT eI (es.map Int.ofNat), nmT nmI _⟩
def nX : DI := ⟨Ev.D.tup [], rfl⟩
def Row.x : Row → DI
  | .test f es => ⟨eP3 eS eI (eT eI) (Str.ofString "test", f, es.map Int.ofNat), nmP3 nmS nmI (nmT nmI) _⟩
  | .never => ⟨eT eS [Str.ofString "never"], nmT nmS _⟩
  | .tell w => ⟨eP2 eS eI (Str.ofString "tell", w), nmP2 nmS nmI _⟩
def Row.isT : Row → Bool
  | .test _ _ => true
  | _ => false
def Row.isL : Row → Bool
  | .tell _ => true
  | _ => false
theorem s1 : decide (Str.ofString "never" = Str.ofString "test") = false := by decide +kernel
theorem s2 : decide (Str.ofString "tell" = Str.ofString "test") = false := by decide +kernel
theorem s3 : decide (Str.ofString "never" = Str.ofString "tell") = false := by decide +kernel
theorem s4 : decide (Str.ofString "test" = Str.ofString "tell") = false := by decide +kernel
theorem at0 {α : Type} {x : α} {xs : List α} : atI (x :: xs) 0 = some x := atI_nat (j := 0) rfl
theorem at1' {α : Type} {x y : α} {xs : List α} : atI (x :: y :: xs) 1 = some y := atI_nat (j := 1) rfl
theorem at2' {α : Type} {x y z : α} {xs : List α} : atI (x :: y :: z :: xs) 2 = some z := atI_nat (j := 2) rfl
theorem ixX_of {x : DI} {k : Int} {y : DI} (h : ixD x.1 k = some y.1) : ixX x k = some y := by
  unfold ixX
  rw [h, obs, mkX_of y.2]
theorem ix0 (f : Int) (es : List Nat) : ixX (Row.test f es).x 0 = some ⟨eS (Str.ofString "test"), nmS _⟩ := ixX_of at0
theorem ix0n : ixX Row.never.x 0 = some ⟨eS (Str.ofString "never"), nmS _⟩ := ixX_of at0
theorem ix0t (w : Int) : ixX (Row.tell w).x 0 = some ⟨eS (Str.ofString "tell"), nmS _⟩ := ixX_of at0
theorem ix1 (f : Int) (es : List Nat) : ixX (Row.test f es).x 1 = some (iX f) := ixX_of at1'
theorem ix1t (w : Int) : ixX (Row.tell w).x 1 = some (iX w) := ixX_of at1'
theorem ix2 (f : Int) (es : List Nat) : ixX (Row.test f es).x 2 = some (tX es) := ixX_of at2'
theorem int_iX (i : Int) : intX (iX i) = some i := rfl
theorem tup_tX (es : List Nat) : tupX (tX es) = some (es.map fun (e : Nat) => iX (e : Int)) := by
  show mkXs ((es.map Int.ofNat).map eI) = _
  have : ((es.map Int.ofNat).map eI) = (es.map fun (e : Nat) => iX (e : Int)).map eX := by
    rw [List.map_map, List.map_map]; rfl
  rw [this, mkXs_map]
theorem tagT {β : Type} (r : Row) (k : Bool → Option β) : ((ixX r.x 0).bind fun x1 => (Ev.cmpS .Eq (eX x1) (eS (PySem.Str.ofString "test"))).bind k) = k r.isT := by
  cases r with
  | test f es => rw [ix0, obs]; exact (congrArg (Option.bind · k) (show Ev.cmpS .Eq (eX ⟨eS (Str.ofString "test"), nmS _⟩) (eS (PySem.Str.ofString "test")) = some true from (eqS_str _ _).trans (by simp))).trans obs
  | never => rw [ix0n, obs]; exact (congrArg (Option.bind · k) (show Ev.cmpS .Eq (eX ⟨eS (Str.ofString "never"), nmS _⟩) (eS (PySem.Str.ofString "test")) = some false from (eqS_str _ _).trans (congrArg some s1))).trans obs
  | tell w => rw [ix0t, obs]; exact (congrArg (Option.bind · k) (show Ev.cmpS .Eq (eX ⟨eS (Str.ofString "tell"), nmS _⟩) (eS (PySem.Str.ofString "test")) = some false from (eqS_str _ _).trans (congrArg some s2))).trans obs
theorem tagL {β : Type} (r : Row) (k : Bool → Option β) : ((ixX r.x 0).bind fun x1 => (Ev.cmpS .Eq (eX x1) (eS (PySem.Str.ofString "tell"))).bind k) = k r.isL := by
  cases r with
  | test f es => rw [ix0, obs]; exact (congrArg (Option.bind · k) (show Ev.cmpS .Eq (eX ⟨eS (Str.ofString "test"), nmS _⟩) (eS (PySem.Str.ofString "tell")) = some false from (eqS_str _ _).trans (congrArg some s4))).trans obs
  | never => rw [ix0n, obs]; exact (congrArg (Option.bind · k) (show Ev.cmpS .Eq (eX ⟨eS (Str.ofString "never"), nmS _⟩) (eS (PySem.Str.ofString "tell")) = some false from (eqS_str _ _).trans (congrArg some s3))).trans obs
  | tell w => rw [ix0t, obs]; exact (congrArg (Option.bind · k) (show Ev.cmpS .Eq (eX ⟨eS (Str.ofString "tell"), nmS _⟩) (eS (PySem.Str.ofString "tell")) = some true from (eqS_str _ _).trans (by simp))).trans obs
/-! rows whose ends have higher numbers -/
def ends (rs : List Row) (k : Nat) : List Nat := match rs[k]? with
  | some (.test _ es) => es
  | _ => []
structure Good (many : Nat) (rs : List Row) : Prop where
  pos : 0 < rs.length
  len : ∀ (k : Nat) (f : Int) (es : List Nat), rs[k]? = some (Row.test f es) → es.length = many
  up : ∀ (k : Nat), ∀ e ∈ ends rs k, k < e ∧ e < rs.length
def szA (rs : List Row) : Nat → Nat → Nat
  | 0, _ => 0
  | n + 1, k => 1 + ((ends rs k).map (szA rs n)).sum
def trA (rs : List Row) : Nat → Nat → DI
  | 0, _ => nX
  | n + 1, k => match rs[k]? with
    | some (.test f es) => ⟨eP3 eS eX (eT eX) (Str.ofString "test", iX f, es.map (trA rs n)), nmP3 nmS nmX (nmT nmX) _⟩
    | some r => r.x
    | none => nX
theorem szA_st {many : Nat} {rs : List Row} (g : Good many rs) : ∀ (n m k : Nat), rs.length ≤ n + k → rs.length ≤ m + k → k < rs.length → szA rs n k = szA rs m k
  | 0, _, k, h, _, hk => by omega
  | _ + 1, 0, k, _, h, hk => by omega
  | n + 1, m + 1, k, h1, h2, hk => by
    unfold szA
    congr 2
    refine List.map_congr_left fun e he => ?_
    obtain ⟨h3, h4⟩ := g.up k e he
    exact szA_st g n m e (by omega) (by omega) h4
theorem trA_st {many : Nat} {rs : List Row} (g : Good many rs) : ∀ (n m k : Nat), rs.length ≤ n + k → rs.length ≤ m + k → k < rs.length → trA rs n k = trA rs m k
  | 0, _, k, h, _, hk => by omega
  | _ + 1, 0, k, _, h, hk => by omega
  | n + 1, m + 1, k, h1, h2, hk => by
    unfold trA
    cases q : rs[k]? with
    | none => rfl
    | some r => cases r with
      | never => rfl
      | tell w => rfl
      | test f es =>
        have : es.map (trA rs n) = es.map (trA rs m) := List.map_congr_left fun e he => by
          obtain ⟨h3, h4⟩ := g.up k e (by unfold ends; rw [q]; exact he)
          exact trA_st g n m e (by omega) (by omega) h4
        simp only [this]
def sz (rs : List Row) (k : Nat) : Nat := szA rs rs.length k
def tr (rs : List Row) (k : Nat) : DI := trA rs rs.length k
theorem sz_eq {many : Nat} {rs : List Row} (g : Good many rs) {k : Nat} (hk : k < rs.length) : sz rs k = 1 + ((ends rs k).map (sz rs)).sum := by
  have h : sz rs k = szA rs (rs.length + 1) k := szA_st g _ _ k (by omega) (by omega) hk
  rw [h]
  rfl
theorem tr_test {many : Nat} {rs : List Row} (g : Good many rs) {k : Nat} {f : Int} {es : List Nat} (h : rs[k]? = some (.test f es)) : tr rs k = ⟨eP3 eS eX (eT eX) (Str.ofString "test", iX f, es.map (tr rs)), nmP3 nmS nmX (nmT nmX) _⟩ := by
  have hk : k < rs.length := (List.getElem?_eq_some_iff.mp h).1
  have e : tr rs k = trA rs (rs.length + 1) k := trA_st g _ _ k (by omega) (by omega) hk
  rw [e]
  unfold trA
  rw [h]
  rfl
theorem tr_leaf {many : Nat} {rs : List Row} (g : Good many rs) {k : Nat} {r : Row} (h : rs[k]? = some r) (hr : r.isT = false) : tr rs k = r.x := by
  have hk : k < rs.length := (List.getElem?_eq_some_iff.mp h).1
  have e : tr rs k = trA rs (rs.length + 1) k := trA_st g _ _ k (by omega) (by omega) hk
  rw [e]
  unfold trA
  rw [h]
  cases r with
  | test f es => cases hr
  | never => rfl
  | tell w => rfl
theorem atR {rs : List Row} {k : Nat} {r : Row} (h : rs[k]? = some r) : atI (rs.map Row.x) (k : Int) = some r.x := by
  refine atI_nat ?_
  rw [List.getElem?_map, h]
  rfl
/-! dicts -/
theorem get_put {α : Type} (k : Int) (v : α) : ∀ s : List (Int × α), getO k (putL k v s) = some v
  | [] => by simp [putL, getO]
  | (i, w) :: r => by
    unfold putL
    by_cases h : i = k
    · simp [h, getO]
    · simp [h, getO, get_put k v r]
theorem get_put_ne {α : Type} {k j : Int} (v : α) (hj : j ≠ k) : ∀ s : List (Int × α), getO j (putL k v s) = getO j s
  | [] => by simp [putL, getO, Ne.symm hj]
  | (i, w) :: r => by
    unfold putL
    by_cases h : i = k
    · subst h; simp [getO, Ne.symm hj]
    · simp only [h, if_false, getO, get_put_ne v hj r]
theorem put_len {α : Type} (k : Int) (v : α) : ∀ s : List (Int × α), (putL k v s).length ≤ s.length + 1
  | [] => by simp [putL]
  | (i, w) :: r => by
    unfold putL
    have := put_len k v r
    by_cases h : i = k <;> simp [h] <;> omega
/-- the size that the law reckons -/
theorem size_ok {many : Nat} {rs : List Row} (g : Good many rs) (hl : rs.length ≤ 1000) (hm : many ≤ 4) : s_law_size (rs.map Row.x) = some ((sz rs 0 : Nat) : Int) := by
  unfold s_law_size
  rw [obs, List.length_map, rngO_n (by omega), obs]
  refine W.iff.mp (W.bind (foldO_rng (fun i (s : List (Int × Int)) => s.length ≤ 2 * i ∧ ∀ j : Nat, rs.length ≤ j + i → j < rs.length → getO (j : Int) s = some ((sz rs j : Nat) : Int)) ?_ ⟨Nat.zero_le _, fun j h1 h2 => by omega⟩) fun s hs => ?_)
  · rintro i s hi ⟨h1, h2⟩
    have ha : ((rs.length : Int) - 1 - (i : Int)) = ((rs.length - 1 - i : Nat) : Int) := by omega
    rw [obs, ha]
    generalize hk : rs.length - 1 - i = k
    have hkl : k < rs.length := by omega
    obtain ⟨r, hr⟩ : ∃ r, rs[k]? = some r := ⟨_, List.getElem?_eq_getElem hkl⟩
    rw [setKO_of (by omega), obs, atR hr, obs, tagT]
    have l1 := put_len (k : Int) (1 : Int) s
    cases r with
    | test f es =>
      have he : ends rs k = es := by unfold ends; rw [hr]
      rw [if_pos (show (Row.test f es).isT = true from rfl), obs, ix2, obs, tup_tX, obs, obs]
      rw [lcM_eqm (g := fun x : DI => match intX x with
        | some i => (((sz rs i.toNat : Nat)) : Int)
        | none => 0) (fun x hx => by
          obtain ⟨e, he', rfl⟩ := List.mem_map.mp hx
          rw [int_iX, obs]
          obtain ⟨u1, u2⟩ := g.up k e (by rw [he]; exact he')
          rw [get_put_ne _ (by omega), h2 e (by omega) u2, obs]
          rfl) (by rw [List.length_map, g.len k f es hr]; omega), obs, setKO_of (by omega), obs]
      have l2 := put_len (k : Int) (1 + (((es.map fun (e : Nat) => iX (e : Int)).map fun x : DI => match intX x with
        | some i => (((sz rs i.toNat : Nat)) : Int)
        | none => 0).sum)) (putL (k : Int) 1 s)
      refine ⟨_, rfl, by omega, fun j h3 h4 => ?_⟩
      by_cases hj : j = k
      · subst hj
        rw [get_put, sz_eq g hkl, he]
        congr 1
        rw [List.map_map]
        have : (es.map ((fun x : DI => match intX x with
          | some i => (((sz rs i.toNat : Nat)) : Int)
          | none => 0) ∘ fun (e : Nat) => iX (e : Int))) = (es.map (sz rs)).map Int.ofNat := by
          rw [List.map_map]; rfl
        rw [this]
        have sm : ∀ l : List Nat, (l.map Int.ofNat).sum = ((l.sum : Nat) : Int) := fun l => by
          induction l with
          | nil => rfl
          | cons x l ih => simp [ih]
        rw [sm]; omega
      · rw [get_put_ne _ (by omega), get_put_ne _ (by omega)]
        exact h2 j (by omega) h4
    | never =>
      refine ⟨_, rfl, by omega, fun j h3 h4 => ?_⟩
      by_cases hj : j = k
      · subst hj
        rw [get_put, sz_eq g hkl]
        simp [ends, hr]
      · rw [get_put_ne _ (by omega)]
        exact h2 j (by omega) h4
    | tell w =>
      refine ⟨_, rfl, by omega, fun j h3 h4 => ?_⟩
      by_cases hj : j = k
      · subst hj
        rw [get_put, sz_eq g hkl]
        simp [ends, hr]
      · rw [get_put_ne _ (by omega)]
        exact h2 j (by omega) h4
  · have := hs.2 0 (by omega) g.pos
    exact ⟨_, by rw [show (0 : Int) = ((0 : Nat) : Int) from rfl, this, obs], rfl⟩
/-- the tree of rows -/
theorem tree_ok {many : Nat} {rs : List Row} (g : Good many rs) (hl : rs.length ≤ 1000) (hm : many ≤ 4) : s_law_tree_of (rs.map Row.x) = some (tr rs 0) := by
  unfold s_law_tree_of
  rw [obs, List.length_map, rngO_n (by omega), obs]
  refine W.iff.mp (W.bind (foldO_rng (fun i (s : List (Int × DI)) => s.length ≤ 2 * i ∧ ∀ j : Nat, rs.length ≤ j + i → j < rs.length → getO (j : Int) s = some (tr rs j)) ?_ ⟨Nat.zero_le _, fun j h1 h2 => by omega⟩) fun s hs => ?_)
  · rintro i s hi ⟨h1, h2⟩
    have ha : ((rs.length : Int) - 1 - (i : Int)) = ((rs.length - 1 - i : Nat) : Int) := by omega
    rw [obs, ha]
    generalize hk : rs.length - 1 - i = k
    have hkl : k < rs.length := by omega
    obtain ⟨r, hr⟩ : ∃ r, rs[k]? = some r := ⟨_, List.getElem?_eq_getElem hkl⟩
    rw [atR hr, obs, setKO_of (by omega), obs, obs, tagT]
    have l1 := put_len (k : Int) r.x s
    cases r with
    | test f es =>
      have he : ends rs k = es := by unfold ends; rw [hr]
      rw [if_pos (show (Row.test f es).isT = true from rfl), obs, ix1, obs, obs, ix2, obs, tup_tX, obs, obs]
      rw [lcM_eqm (g := fun x : DI => match intX x with
        | some i => tr rs i.toNat
        | none => nX) (fun x hx => by
          obtain ⟨e, he', rfl⟩ := List.mem_map.mp hx
          rw [int_iX, obs]
          obtain ⟨u1, u2⟩ := g.up k e (by rw [he]; exact he')
          rw [get_put_ne _ (by omega), h2 e (by omega) u2, obs]
          rfl) (by rw [List.length_map, g.len k f es hr]; omega), obs, setKO_of (by omega), obs, obs]
      rw [List.map_map]
      refine ⟨_, rfl, by have := put_len (k : Int) (⟨eP3 eS eX (eT eX) (Str.ofString "test", iX f, es.map (tr rs)), nmP3 nmS nmX (nmT nmX) _⟩ : DI) (putL (k : Int) (Row.test f es).x s); exact Nat.le_trans this (by omega), fun j h3 h4 => ?_⟩
      by_cases hj : j = k
      · subst hj
        rw [get_put, tr_test g hr]
        rfl
      · rw [get_put_ne _ (by omega), get_put_ne _ (by omega)]
        exact h2 j (by omega) h4
    | never =>
      refine ⟨_, rfl, by omega, fun j h3 h4 => ?_⟩
      by_cases hj : j = k
      · subst hj
        rw [get_put, tr_leaf g hr rfl]
      · rw [get_put_ne _ (by omega)]
        exact h2 j (by omega) h4
    | tell w =>
      refine ⟨_, rfl, by omega, fun j h3 h4 => ?_⟩
      by_cases hj : j = k
      · subst hj
        rw [get_put, tr_leaf g hr rfl]
      · rw [get_put_ne _ (by omega)]
        exact h2 j (by omega) h4
  · have := hs.2 0 (by omega) g.pos
    exact ⟨_, by rw [show (0 : Int) = ((0 : Nat) : Int) from rfl, this, obs], rfl⟩
end
end K45

namespace K45
noncomputable section
open PySem L2 Ev Rf Lc
/-! the walk of the tree, by rows -/
structure St where
  stack : List (Nat × Int)
  nodes : List Nat
  es : List (List Nat)
def putE (es : List (List Nat)) (ab : Int) (n : Nat) : List (List Nat) := if 0 ≤ ab then es.set ab.toNat (es.getD ab.toNat [] ++ [n]) else es
def push (rs : List Row) (a n : Nat) : List (Nat × Int) := (ends rs a).reverse.map fun e => (e, (n : Int))
def stp (rs : List Row) (s : St) : St := match s.stack.getLast? with
  | none => s
  | some (a, ab) => ⟨s.stack.dropLast ++ push rs a s.nodes.length, s.nodes ++ [a], putE s.es ab s.nodes.length ++ [[]]⟩
def tot (rs : List Row) (l : List (Nat × Int)) : Nat := (l.map fun p => sz rs p.1).sum
structure Inv (rs : List Row) (T : Nat) (s : St) : Prop where
  v : ∀ p ∈ s.stack, p.1 < rs.length ∧ (p.2 = -1 ∨ (0 ≤ p.2 ∧ p.2 < s.nodes.length))
  el : s.es.length = s.nodes.length
  nl : ∀ a ∈ s.nodes, a < rs.length
  T : s.nodes.length + tot rs s.stack = T
  mt : ∀ i, i < s.nodes.length → ((s.es.getD i []).map fun j => s.nodes.getD j 0) ++ ((s.stack.reverse.filter fun p => decide (p.2 = (i : Int))).map (·.1)) = ends rs (s.nodes.getD i 0)
  eb : ∀ i, i < s.nodes.length → ∀ j ∈ s.es.getD i [], j < s.nodes.length
  hd : s.nodes = [] → s.stack = [(0, -1)]
  h0 : s.nodes ≠ [] → s.nodes.getD 0 0 = 0
theorem stp_snoc {rs : List Row} {s : St} {st : List (Nat × Int)} {a : Nat} {ab : Int} (h : s.stack = st ++ [(a, ab)]) : stp rs s = ⟨st ++ push rs a s.nodes.length, s.nodes ++ [a], putE s.es ab s.nodes.length ++ [[]]⟩ := by
  unfold stp
  rw [h]
  simp
theorem stp_nil {rs : List Row} {s : St} (h : s.stack = []) : stp rs s = s := by
  unfold stp
  rw [h]
  rfl
theorem getD_app_l {α : Type} {xs ys : List α} {i : Nat} {d : α} (h : i < xs.length) : (xs ++ ys).getD i d = xs.getD i d := by
  simp [List.getD_eq_getElem?_getD, List.getElem?_append_left h]
theorem getD_app_e {α : Type} {xs : List α} {y d : α} : (xs ++ [y]).getD xs.length d = y := by
  simp [List.getD_eq_getElem?_getD]
theorem putE_len (es : List (List Nat)) (ab : Int) (n : Nat) : (putE es ab n).length = es.length := by
  unfold putE
  split <;> simp
theorem putE_get {es : List (List Nat)} {ab : Int} {n i : Nat} (h : 0 ≤ ab → ab.toNat < es.length) : (putE es ab n).getD i [] = if ab = (i : Int) then es.getD i [] ++ [n] else es.getD i [] := by
  unfold putE
  by_cases h0 : 0 ≤ ab
  · rw [if_pos h0]
    by_cases h1 : ab = (i : Int)
    · subst h1
      have := h h0
      simp only [Int.toNat_natCast] at this ⊢
      simp [List.getD_eq_getElem?_getD, List.getElem?_set, this]
    · rw [if_neg h1]
      have : ab.toNat ≠ i := by omega
      simp [List.getD_eq_getElem?_getD, List.getElem?_set, this]
  · rw [if_neg h0, if_neg (by omega)]
theorem tot_app (rs : List Row) (l m : List (Nat × Int)) : tot rs (l ++ m) = tot rs l + tot rs m := by simp [tot]
theorem sum_rev (l : List Nat) : l.reverse.sum = l.sum := by
  induction l with
  | nil => rfl
  | cons x l ih => rw [List.reverse_cons, List.sum_append, ih]; simp; omega
theorem tot_push (rs : List Row) (a n : Nat) : tot rs (push rs a n) = ((ends rs a).map (sz rs)).sum := by
  unfold tot push
  have : ((ends rs a).reverse.map fun e => (e, (n : Int))).map (fun p => sz rs p.1) = ((ends rs a).map (sz rs)).reverse := by
    rw [List.map_map, ← List.map_reverse]; rfl
  rw [this, sum_rev]
theorem inv_step {many : Nat} {rs : List Row} (g : Good many rs) {T : Nat} {s : St} (I : Inv rs T s) {st : List (Nat × Int)} {a : Nat} {ab : Int} (h : s.stack = st ++ [(a, ab)]) : Inv rs T (stp rs s) := by
  have hv := I.v (a, ab) (by rw [h]; simp)
  have hst : ∀ p ∈ st, p.1 < rs.length ∧ (p.2 = -1 ∨ (0 ≤ p.2 ∧ p.2 < s.nodes.length)) := fun p hp => I.v p (by rw [h]; simp [hp])
  have hab : 0 ≤ ab → ab.toNat < s.es.length := fun z => by
    rw [I.el]
    rcases hv.2 with w | w
    · have : ab = -1 := w
      omega
    · have := w.2
      simp only at this
      omega
  rw [stp_snoc h]
  refine ⟨fun p hp => ?_, by simp [putE_len, I.el], fun b hb => ?_, ?_, fun i hi => ?_, fun i hi j hj => ?_, fun z => ?_, fun _ => ?_⟩
  · simp only [List.length_append, List.length_singleton]
    rcases List.mem_append.mp hp with hp | hp
    · refine ⟨(hst p hp).1, (hst p hp).2.imp id fun z => ⟨z.1, by omega⟩⟩
    · unfold push at hp
      obtain ⟨e, he, rfl⟩ := List.mem_map.mp hp
      exact ⟨(g.up a e (List.mem_reverse.mp he)).2, .inr ⟨by simp only; omega, by simp only; omega⟩⟩
  · rcases List.mem_append.mp hb with hb | hb
    · exact I.nl b hb
    · rw [List.mem_singleton.mp hb]; exact hv.1
  · have hT := I.T
    rw [h, tot_app] at hT
    have e1 : tot rs [(a, ab)] = sz rs a := by simp [tot]
    have e2 : sz rs a = 1 + ((ends rs a).map (sz rs)).sum := sz_eq g hv.1
    rw [e1, e2] at hT
    simp only [tot_app, tot_push, List.length_append, List.length_singleton]
    omega
  · simp only [List.length_append, List.length_singleton] at hi
    have rv : (st ++ push rs a s.nodes.length).reverse = (ends rs a).map (fun e => (e, (s.nodes.length : Int))) ++ st.reverse := by
      rw [List.reverse_append]
      unfold push
      rw [← List.map_reverse, List.reverse_reverse]
    simp only [rv, List.filter_append, List.map_append]
    by_cases hN : i < s.nodes.length
    · have f1 : ((ends rs a).map (fun e => (e, (s.nodes.length : Int)))).filter (fun p => decide (p.2 = (i : Int))) = [] := by
        rw [List.filter_eq_nil_iff]
        intro p hp
        obtain ⟨e, _, rfl⟩ := List.mem_map.mp hp
        simp only [decide_eq_true_eq]
        omega
      rw [f1, List.map_nil, List.nil_append, getD_app_l (by rw [putE_len, I.el]; exact hN), getD_app_l hN, putE_get hab]
      have old := I.mt i hN
      rw [h, List.reverse_append, List.reverse_singleton, List.singleton_append] at old
      have mp : ∀ l : List Nat, (∀ j ∈ l, j < s.nodes.length) → (l.map fun j => (s.nodes ++ [a]).getD j 0) = l.map fun j => s.nodes.getD j 0 := fun l hl => List.map_congr_left fun j hj => getD_app_l (hl j hj)
      by_cases hi' : ab = (i : Int)
      · rw [if_pos hi', List.map_append, mp _ (I.eb i hN), List.append_assoc]
        rw [List.filter_cons_of_pos (by simpa using hi'), List.map_cons] at old
        rw [← old]
        simp
      · rw [if_neg hi', mp _ (I.eb i hN)]
        rw [List.filter_cons_of_neg (by simpa using hi')] at old
        exact old
    · have hi2 : i = s.nodes.length := by omega
      subst hi2
      have f1 : ((ends rs a).map (fun e => (e, (s.nodes.length : Int)))).filter (fun p => decide (p.2 = (s.nodes.length : Int))) = (ends rs a).map (fun e => (e, (s.nodes.length : Int))) := by
        rw [List.filter_eq_self]
        intro p hp
        obtain ⟨e, _, rfl⟩ := List.mem_map.mp hp
        simp
      have f2 : st.reverse.filter (fun p => decide (p.2 = (s.nodes.length : Int))) = [] := by
        rw [List.filter_eq_nil_iff]
        intro p hp
        have := (hst p (List.mem_reverse.mp hp)).2
        simp only [decide_eq_true_eq]
        omega
      rw [f1, f2, getD_app_e]
      have : (putE s.es ab s.nodes.length ++ [[]]).getD s.nodes.length [] = [] := by
        have e2 : s.nodes.length = (putE s.es ab s.nodes.length).length := by rw [putE_len, I.el]
        conv => lhs; arg 2; rw [e2]
        exact getD_app_e
      rw [this]
      simp
      exact (List.map_congr_left (fun _ _ => rfl)).trans (List.map_id _)
  · simp only [List.length_append, List.length_singleton] at hi ⊢
    by_cases hN : i < s.nodes.length
    · simp only at hj
      rw [getD_app_l (by rw [putE_len, I.el]; exact hN), putE_get hab] at hj
      split at hj
      · rcases List.mem_append.mp hj with hj | hj
        · have := I.eb i hN j hj; omega
        · have := List.mem_singleton.mp hj; omega
      · have := I.eb i hN j hj; omega
    · have hi2 : i = s.nodes.length := by omega
      subst hi2
      have : (putE s.es ab s.nodes.length ++ [[]]).getD s.nodes.length [] = [] := by
        have e2 : s.nodes.length = (putE s.es ab s.nodes.length).length := by rw [putE_len, I.el]
        conv => lhs; arg 2; rw [e2]
        exact getD_app_e
      simp only at hj
      rw [this] at hj
      cases hj
  · simp at z
  · by_cases hn : s.nodes = []
    · have := I.hd hn
      rw [this] at h
      have h2 := congrArg List.getLast? h
      simp at h2
      simp only [hn, List.nil_append]
      rw [← h2.1]
      rfl
    · have hl : 0 < s.nodes.length := List.length_pos_iff.mpr hn
      simp only
      rw [getD_app_l hl]
      exact I.h0 hn
def s0 : St := ⟨[(0, -1)], [], []⟩
theorem inv0 {many : Nat} {rs : List Row} (g : Good many rs) : Inv rs (sz rs 0) s0 :=
  ⟨fun p hp => by rw [List.mem_singleton.mp hp]; exact ⟨g.pos, .inl rfl⟩, rfl, (fun _ h => nomatch h), by simp [s0, tot], fun i hi => absurd hi (by simp [s0]), fun i hi => absurd hi (by simp [s0]), fun _ => rfl, fun z => absurd rfl z⟩
def itr (rs : List Row) : Nat → St → St
  | 0, s => s
  | n + 1, s => itr rs n (stp rs s)
theorem itr_nil {rs : List Row} : ∀ (n : Nat) {s : St}, s.stack = [] → itr rs n s = s
  | 0, s, _ => rfl
  | n + 1, s, h => by
    unfold itr
    rw [stp_nil h]
    exact itr_nil n h
theorem itr_succ {rs : List Row} : ∀ (n : Nat) {s : St}, itr rs (n + 1) s = stp rs (itr rs n s)
  | 0, s => rfl
  | n + 1, s => by
    show itr rs (n + 1) (stp rs s) = _
    rw [itr_succ n]
    rfl
theorem snoc_or {α : Type} (l : List α) : l = [] ∨ ∃ m x, l = m ++ [x] := by
  rcases List.eq_nil_or_concat l with h | ⟨m, x, h⟩
  · exact .inl h
  · exact .inr ⟨m, x, by rw [h, List.concat_eq_append]⟩
theorem inv_stp {many : Nat} {rs : List Row} (g : Good many rs) {T : Nat} {s : St} (I : Inv rs T s) : Inv rs T (stp rs s) := by
  rcases snoc_or s.stack with h | ⟨st, ⟨a, ab⟩, h⟩
  · rw [stp_nil h]; exact I
  · exact inv_step g I h
theorem inv_itr {many : Nat} {rs : List Row} (g : Good many rs) {T : Nat} : ∀ (n : Nat) {s : St}, Inv rs T s → Inv rs T (itr rs n s)
  | 0, s, I => I
  | n + 1, s, I => inv_itr g n (inv_stp g I)
theorem sz_pos {many : Nat} {rs : List Row} (g : Good many rs) {k : Nat} (hk : k < rs.length) : 1 ≤ sz rs k := by rw [sz_eq g hk]; omega
theorem tot_len {many : Nat} {rs : List Row} (g : Good many rs) : ∀ (l : List (Nat × Int)), (∀ p ∈ l, p.1 < rs.length) → l.length ≤ tot rs l
  | [], _ => Nat.zero_le _
  | p :: l, h => by
    have h1 := tot_len g l fun q hq => h q (List.mem_cons_of_mem _ hq)
    have h2 := sz_pos g (h p List.mem_cons_self)
    have h3 : tot rs (p :: l) = sz rs p.1 + tot rs l := by simp [tot]
    rw [h3, List.length_cons]
    omega
/-- behind so many turns nothing is left -/
theorem itr_end {many : Nat} {rs : List Row} (g : Good many rs) {T : Nat} : ∀ (n : Nat) {s : St}, Inv rs T s → tot rs s.stack ≤ n → (itr rs n s).stack = []
  | 0, s, I, h => by
    have := tot_len g s.stack fun p hp => (I.v p hp).1
    exact List.length_eq_zero_iff.mp (by show s.stack.length = 0; omega)
  | n + 1, s, I, h => by
    rcases snoc_or s.stack with hs | ⟨st, ⟨a, ab⟩, hs⟩
    · rw [itr_nil _ hs]; exact hs
    · refine itr_end g n (inv_stp g I) ?_
      have h1 := I.T
      have h2 := (inv_stp g I).T
      have h3 : (stp rs s).nodes.length = s.nodes.length + 1 := by rw [stp_snoc hs]; simp
      omega
/-! the law's list -/
def eStack (l : List (Nat × Int)) : List (Int × Int) := l.map fun p => ((p.1 : Int), p.2)
def eEs (l : List (List Nat)) : List (List Int) := l.map fun x => x.map Int.ofNat
def eNo (l : List Nat) : List Int := l.map Int.ofNat
def lrow (rs : List Row) (s : St) (i : Nat) : Row := match rs[s.nodes.getD i 0]? with
  | some (.test f _) => .test f (s.es.getD i [])
  | some r => r
  | none => .never
def lrows (rs : List Row) (s : St) : List Row := (List.range s.nodes.length).map (lrow rs s)
theorem es_atI {s : St} {ab : Int} (h0 : 0 ≤ ab) (h : ab < s.es.length) : atI (eEs s.es) ab = some ((s.es.getD ab.toNat []).map Int.ofNat) := by
  have hk : ab.toNat < s.es.length := by omega
  have : atI (eEs s.es) ((ab.toNat : Nat) : Int) = some ((s.es.getD ab.toNat []).map Int.ofNat) := by
    refine atI_nat ?_
    unfold eEs
    rw [List.getElem?_map, List.getElem?_eq_getElem hk]
    simp [List.getD_eq_getElem?_getD, hk]
  rwa [Int.toNat_of_nonneg h0] at this
theorem es_len {many : Nat} {rs : List Row} (g : Good many rs) {T : Nat} {s : St} (I : Inv rs T s) {i : Nat} (hi : i < s.nodes.length) : (s.es.getD i []).length ≤ many := by
  have h := congrArg List.length (I.mt i hi)
  rw [List.length_append, List.length_map, List.length_map] at h
  have : (ends rs (s.nodes.getD i 0)).length ≤ many := by
    unfold ends
    split
    · rename_i q; exact Nat.le_of_eq (g.len _ _ _ q)
    · exact Nat.zero_le _
  omega
theorem ends_len {many : Nat} {rs : List Row} (g : Good many rs) (a : Nat) : (ends rs a).length ≤ many := by
  unfold ends
  split
  · rename_i q; exact Nat.le_of_eq (g.len _ _ _ q)
  · exact Nat.zero_le _
theorem listed_ok {many : Nat} {rs : List Row} (g : Good many rs) (hm : many ≤ 4) (hT : sz rs 0 ≤ 1000) (hl : rs.length ≤ 1000) : s_law_listed (rs.map Row.x) = some ((lrows rs (itr rs 1000 s0)).map Row.x) := by
  unfold s_law_listed
  rw [obs, obs, obs, show (1000 : Int) = ((1000 : Nat) : Int) from rfl, rngO_n (by omega), obs]
  refine W.iff.mp (W.bind (foldO_rng (fun i (t : List (Int × Int) × List (List Int) × List Int) => t = (eStack (itr rs i s0).stack, eEs (itr rs i s0).es, eNo (itr rs i s0).nodes)) ?_ rfl) fun t ht => ?_)
  · rintro i t hi rfl
    have I := inv_itr g i (inv0 g)
    rw [itr_succ]
    generalize itr rs i s0 = s at I ⊢
    have lenN : s.nodes.length ≤ 1000 := by have := I.T; omega
    have lenS : s.stack.length ≤ 1000 := by have := I.T; have := tot_len g s.stack fun p hp => (I.v p hp).1; omega
    rcases snoc_or s.stack with hs | ⟨st, ⟨a, ab⟩, hs⟩
    · rw [stp_nil hs]
      have e0 : eStack s.stack = [] := by rw [hs]; rfl
      simp only [e0]
      rw [if_neg (by decide), obs]
      exact ⟨_, rfl, rfl⟩
    · have hv := I.v (a, ab) (by rw [hs]; simp)
      obtain ⟨r, hr⟩ : ∃ r, rs[a]? = some r := ⟨_, List.getElem?_eq_getElem hv.1⟩
      have e0 : eStack s.stack = eStack st ++ [((a : Int), ab)] := by rw [hs]; simp [eStack]
      have nl : ((eNo s.nodes).length : Int) = (s.nodes.length : Int) := by simp [eNo]
      simp only [e0, nl]
      rw [if_pos (by simp), popO_of, obs]
      simp only
      rw [stp_snoc hs]
      have E1 : W (if decide (0 ≤ ab) = true then (atI (eEs s.es) ab).bind fun x1 => (catO x1 [(s.nodes.length : Int)]).bind fun cat => (setO (eEs s.es) ab cat).bind fun ends1 => some ends1 else some (eEs s.es)) (· = eEs (putE s.es ab s.nodes.length)) := by
        by_cases h0 : 0 ≤ ab
        · have h1 : ab < s.es.length := by
            rcases hv.2 with w | w
            · simp only at w; omega
            · rw [I.el]; exact w.2
          rw [if_pos (by simpa using h0), es_atI h0 h1, obs]
          have hh := es_len g I (i := ab.toNat) (by rw [← I.el]; omega)
          rw [catO_of (by rw [List.length_map, List.length_singleton]; omega), obs, setO_of h0 (by simpa [eEs] using h1), obs]
          refine ⟨_, rfl, ?_⟩
          unfold putE
          rw [if_pos h0]
          simp [eEs, List.map_set]
        · rw [if_neg (by simpa using h0)]
          refine ⟨_, rfl, ?_⟩
          unfold putE
          rw [if_neg h0]
      rw [W.iff.mp E1, obs, atR hr, obs, tagT]
      have stl : st.length ≤ 1000 := by rw [hs] at lenS; simp at lenS; omega
      have E2 : W (if r.isT = true then (some r.x).bind fun x4 => (ixX x4 2).bind fun x5 => (tupX x5).bind fun ts => ((some ts.reverse).bind fun xs => (lcM (fun (end_ : DI) => some true) (fun (end_ : DI) => (intX end_).bind fun i => some (i, (s.nodes.length : Int))) xs).bind szO).bind fun l => (catO (eStack st) l).bind fun cat1 => some cat1 else some (eStack st)) (· = eStack (st ++ push rs a s.nodes.length)) := by
        cases r with
        | test f es =>
          have he : ends rs a = es := by unfold ends; rw [hr]
          rw [if_pos (show (Row.test f es).isT = true from rfl), obs, ix2, obs, tup_tX, obs, obs]
          rw [lcM_eqm (g := fun x : DI => match intX x with
            | some i => (i, (s.nodes.length : Int))
            | none => (0, 0)) (fun x hx => by
              obtain ⟨e, he', rfl⟩ := List.mem_map.mp (List.mem_reverse.mp hx)
              rw [int_iX, obs]) (by rw [List.length_reverse, List.length_map, g.len a f es hr]; omega), obs]
          rw [catO_of (by simp [eStack, g.len a f es hr]; omega), obs]
          refine ⟨_, rfl, ?_⟩
          unfold push eStack
          rw [he, List.map_append, ← List.map_reverse, List.map_map, List.map_map]
          rfl
        | never =>
          rw [if_neg (by decide)]
          exact ⟨_, rfl, by simp [push, ends, hr]⟩
        | tell w =>
          rw [if_neg (show ¬ (Row.tell w).isT = true from Bool.false_ne_true)]
          exact ⟨_, rfl, by simp [push, ends, hr]⟩
      rw [W.iff.mp E2, obs, appO_of (by simp [eNo]; omega), obs, appO_of (by simp [eEs, putE_len, I.el]; omega), obs, obs]
      refine ⟨_, rfl, ?_⟩
      simp [eEs, eNo]
  · subst ht
    have I := inv_itr g 1000 (inv0 g)
    have he : (itr rs 1000 s0).stack = [] := itr_end g 1000 (inv0 g) (by have := (inv0 g).T; simp only [s0, List.length_nil] at this ⊢; omega)
    generalize itr rs 1000 s0 = s at I he ⊢
    have lenN : s.nodes.length ≤ 1000 := by have := I.T; omega
    have nl : ((eNo s.nodes).length : Int) = ((s.nodes.length : Nat) : Int) := by simp [eNo]
    simp only [nl]
    rw [obs, rngO_n (by omega), obs]
    refine W.bind (foldO_rng (fun i (t : List DI) => t = ((List.range i).map (lrow rs s)).map Row.x) ?_ rfl) fun t ht => ⟨_, rfl, ht⟩
    rintro i t hi rfl
    have hn : atI (eNo s.nodes) (i : Int) = some ((s.nodes.getD i 0 : Nat) : Int) := by
      refine atI_nat ?_
      unfold eNo
      rw [List.getElem?_map, List.getElem?_eq_getElem hi]
      simp [List.getD_eq_getElem?_getD, hi]
    have hlt : s.nodes.getD i 0 < rs.length := I.nl _ (by
      rw [List.getD_eq_getElem?_getD, List.getElem?_eq_getElem hi]
      exact List.getElem_mem hi)
    obtain ⟨r, hr⟩ : ∃ r, rs[s.nodes.getD i 0]? = some r := ⟨_, List.getElem?_eq_getElem hlt⟩
    rw [hn, obs, atR hr, obs, tagT]
    have fin : ∀ r', lrow rs s i = r' → ((List.range (i + 1)).map (lrow rs s)).map Row.x = ((List.range i).map (lrow rs s)).map Row.x ++ [r'.x] := fun r' h => by
      rw [List.range_succ, List.map_append, List.map_append, List.map_singleton, List.map_singleton, h]
    cases r with
    | test f es =>
      rw [if_pos (show (Row.test f es).isT = true from rfl), obs, atR hr, obs, ix1, obs, es_atI (by omega) (by rw [I.el]; omega), obs, appO_of (by simp; omega), obs, obs]
      refine ⟨_, rfl, ?_⟩
      rw [fin (.test f (s.es.getD i [])) (by unfold lrow; rw [hr])]
      rfl
    | never =>
      rw [if_neg (show ¬ (Row.never).isT = true from Bool.false_ne_true), obs, atR hr, obs, appO_of (by simp; omega), obs, obs]
      exact ⟨_, rfl, by rw [fin .never (by unfold lrow; rw [hr])]⟩
    | tell w =>
      rw [if_neg (show ¬ (Row.tell w).isT = true from Bool.false_ne_true), obs, atR hr, obs, appO_of (by simp; omega), obs, obs]
      exact ⟨_, rfl, by rw [fin (.tell w) (by unfold lrow; rw [hr])]⟩
end
end K45

namespace K45
noncomputable section
open PySem L2 Ev Rf Lc
/-! rows_of -/
theorem tr_0 {many : Nat} {rs : List Row} (g : Good many rs) {a : Nat} {r : Row} (h : rs[a]? = some r) {β : Type} (k : Bool → Option β) : ((ixX (tr rs a) 0).bind fun x1 => (Ev.cmpS .Eq (eX x1) (eS (PySem.Str.ofString "test"))).bind k) = k r.isT := by
  cases r with
  | test f es =>
    rw [tr_test g h, show ixX (⟨eP3 eS eX (eT eX) (Str.ofString "test", iX f, es.map (tr rs)), nmP3 nmS nmX (nmT nmX) _⟩ : DI) 0 = some ⟨eS (Str.ofString "test"), nmS _⟩ from ixX_of at0, obs]
    exact (congrArg (Option.bind · k) (show Ev.cmpS .Eq (eX ⟨eS (Str.ofString "test"), nmS _⟩) (eS (PySem.Str.ofString "test")) = some true from (eqS_str _ _).trans (by simp))).trans obs
  | never => rw [tr_leaf g h rfl]; exact tagT _ k
  | tell w => rw [tr_leaf g h rfl]; exact tagT _ k
theorem tr_1 {many : Nat} {rs : List Row} (g : Good many rs) {a : Nat} {f : Int} {es : List Nat} (h : rs[a]? = some (.test f es)) : ixX (tr rs a) 1 = some (iX f) := by
  rw [tr_test g h]
  exact ixX_of at1'
theorem tr_2 {many : Nat} {rs : List Row} (g : Good many rs) {a : Nat} {f : Int} {es : List Nat} (h : rs[a]? = some (.test f es)) : ((ixX (tr rs a) 2).bind tupX) = some (es.map (tr rs)) := by
  rw [tr_test g h, show ixX (⟨eP3 eS eX (eT eX) (Str.ofString "test", iX f, es.map (tr rs)), nmP3 nmS nmX (nmT nmX) _⟩ : DI) 2 = some ⟨eT eX (es.map (tr rs)), nmT nmX _⟩ from ixX_of at2', obs]
  exact mkXs_map
def pStack (rs : List Row) (l : List (Nat × Int)) : List (DI × Int) := l.map fun p => (tr rs p.1, p.2)
def enc (rs : List Row) (s : St) : List (DI × Int) × List DI × List (List Int) := (pStack rs s.stack, s.nodes.map (tr rs), eEs s.es)
theorem app_at {es : List (List Nat)} {ab : Int} {n : Nat} (h0 : 0 ≤ ab) (h : ab < es.length) (hl : (es.getD ab.toNat []).length < 1000) : appAtO (eEs es ++ [[]]) ab (n : Int) = some (eEs (putE es ab n) ++ [[]]) := by
  have hk : ab.toNat < es.length := by omega
  have e1 : (eEs es ++ [[]]).length = es.length + 1 := by simp [eEs]
  have hix : ixN (eEs es ++ [[]]).length ab = some ab.toNat := by
    have := ixN_n (n := (eEs es ++ [[]]).length) (k := ab.toNat) (by rw [e1]; omega)
    rwa [Int.toNat_of_nonneg h0] at this
  have hg : (eEs es ++ [[]])[ab.toNat]? = some ((es.getD ab.toNat []).map Int.ofNat) := by
    rw [List.getElem?_append_left (by simp [eEs]; omega)]
    unfold eEs
    rw [List.getElem?_map, List.getElem?_eq_getElem hk]
    simp [List.getD_eq_getElem?_getD, hk]
  unfold appAtO
  rw [hix]
  simp only [hg]
  rw [if_pos (by rw [List.length_map]; omega)]
  unfold putE
  rw [if_pos h0, List.set_append_left _ _ (by simp [eEs]; omega)]
  congr 2
  unfold eEs
  rw [List.map_set]
  simp
theorem push_fold (n : Int) : ∀ (ts : List DI) (st : List (DI × Int)), ts.length + st.length ≤ 100000 → foldO (fun (branch : DI) (s4 : List (DI × Int)) => (appO s4 (branch, n)).bind fun stack2 => some stack2) ts st = some (st ++ ts.map fun b => (b, n))
  | [], st, _ => by simp [foldO]
  | t :: ts, st, h => by
    unfold foldO
    rw [List.length_cons] at h
    rw [appO_of (by omega), obs, obs, push_fold n ts _ (by simp; omega)]
    simp
theorem rows_of_ok {many : Nat} {rs : List Row} (g : Good many rs) (hm : many ≤ 4) (hT : sz rs 0 ≤ 1000) (hl : rs.length ≤ 1000) : s_rows_of (tr rs 0) = some ((lrows rs (itr rs 1000 s0)).map Row.x) := by
  unfold s_rows_of
  rw [obs, obs, obs]
  refine (congrArg (Option.bind · _) (whU_of (n := 1001) (j := J.nx (enc rs (itr rs 1000 s0))) ?_)).trans ?_
  · have main : ∀ (n : Nat) (s : St), Inv rs (sz rs 0) s → tot rs s.stack ≤ n → whF' (fun (s1 : (List (DI × Int)) × (List DI) × (List (List Int))) => some (!s1.1.isEmpty)) (fun (s2 : (List (DI × Int)) × (List DI) × (List (List Int))) =>
        (popO s2.1).bind fun q =>
        (fun top stack1 => (some (s2.2.1.length : Int)).bind fun number =>
        (appO s2.2.1 top.1).bind fun nodes1 =>
        (appO s2.2.2 []).bind fun ends1 =>
        (if (decide (0 ≤ top.2)) = true then (appAtO ends1 top.2 number).bind fun ends2 =>
        some ends2 else some ends1).bind fun (s3 : List (List Int)) =>
        (ixX top.1 0).bind fun x1 =>
        (Ev.cmpS .Eq (eX x1) (eS (PySem.Str.ofString "test"))).bind fun c =>
        (if c = true then (ixX top.1 2).bind fun x2 =>
        (tupX x2).bind fun ts =>
        (foldO (fun (branch : DI) (s4 : List (DI × Int)) =>
        (appO s4 (branch, number)).bind fun stack2 =>
        some stack2) ts.reverse stack1).bind fun (s5 : List (DI × Int)) =>
        some s5 else some stack1).bind fun (s6 : List (DI × Int)) =>
        some (Lo.nx (s6, nodes1, s3) : Lo ((List (DI × Int)) × (List DI) × (List (List Int))) (List DI))) q.1 q.2) (n + 1) (enc rs s) = some (J.nx (enc rs (itr rs n s))) := fun n => by
      induction n with
      | zero =>
        intro s I h
        have h0 : s.stack = [] := by
          have := tot_len g s.stack fun p hp => (I.v p hp).1
          exact List.length_eq_zero_iff.mp (by omega)
        unfold whF'
        have : (enc rs s).1 = [] := by show pStack rs s.stack = []; rw [h0]; rfl
        rw [this, obs]
        exact if_neg (by decide)
      | succ n ih =>
        intro s I h
        rcases snoc_or s.stack with hs | ⟨st, ⟨a, ab⟩, hs⟩
        · rw [itr_nil _ hs]
          unfold whF'
          have : (enc rs s).1 = [] := by show pStack rs s.stack = []; rw [hs]; rfl
          rw [this, obs]
          exact if_neg (by decide)
        · have lenN : s.nodes.length ≤ 1000 := by have := I.T; omega
          have lenS : s.stack.length ≤ 1000 := by have := I.T; have := tot_len g s.stack fun p hp => (I.v p hp).1; omega
          have hv := I.v (a, ab) (by rw [hs]; simp)
          have stl : st.length ≤ 1000 := by rw [hs] at lenS; simp at lenS; omega
          obtain ⟨r, hr⟩ : ∃ r, rs[a]? = some r := ⟨_, List.getElem?_eq_getElem hv.1⟩
          have e0 : (enc rs s).1 = pStack rs st ++ [(tr rs a, ab)] := by show pStack rs s.stack = _; rw [hs]; simp [pStack]
          have e1 : (enc rs s).2.1 = s.nodes.map (tr rs) := rfl
          have e2 : (enc rs s).2.2 = eEs s.es := rfl
          unfold whF'
          rw [e0, e1, e2, obs, if_pos (by simp), popO_of, obs]
          simp only
          rw [obs, appO_of (by simp; omega), obs, appO_of (by simp [eEs, I.el]; omega), obs]
          rw [List.length_map]
          have E1 : W (if decide (0 ≤ ab) = true then (appAtO (eEs s.es ++ [[]]) ab (s.nodes.length : Int)).bind fun ends2 => some ends2 else some (eEs s.es ++ [[]])) (· = eEs (putE s.es ab s.nodes.length) ++ [[]]) := by
            by_cases h0 : 0 ≤ ab
            · have h1 : ab < s.es.length := by
                rcases hv.2 with w | w
                · simp only at w; omega
                · rw [I.el]; exact w.2
              rw [if_pos (by simpa using h0), app_at h0 h1 (by have := es_len g I (i := ab.toNat) (by rw [← I.el]; omega); omega), obs]
              exact ⟨_, rfl, rfl⟩
            · rw [if_neg (by simpa using h0)]
              refine ⟨_, rfl, ?_⟩
              unfold putE
              rw [if_neg h0]
          rw [W.iff.mp E1, obs, tr_0 g hr]
          have E2 : W (if r.isT = true then (ixX (tr rs a) 2).bind fun x2 => (tupX x2).bind fun ts => (foldO (fun (branch : DI) (s4 : List (DI × Int)) => (appO s4 (branch, (s.nodes.length : Int))).bind fun stack2 => some stack2) ts.reverse (pStack rs st)).bind fun (s5 : List (DI × Int)) => some s5 else some (pStack rs st)) (· = pStack rs (st ++ push rs a s.nodes.length)) := by
            cases r with
            | test f es =>
              have he : ends rs a = es := by unfold ends; rw [hr]
              have t2 := tr_2 g hr
              rw [if_pos (show (Row.test f es).isT = true from rfl)]
              cases q : ixX (tr rs a) 2 with
              | none => rw [q] at t2; cases t2
              | some y =>
                rw [q, obs] at t2
                rw [obs, t2, obs, push_fold _ _ _ (by simp [pStack, g.len a f es hr]; omega), obs]
                refine ⟨_, rfl, ?_⟩
                unfold push pStack
                rw [he, List.map_append, ← List.map_reverse, List.map_map, List.map_map]
                rfl
            | never =>
              rw [if_neg (show ¬ (Row.never).isT = true from Bool.false_ne_true)]
              exact ⟨_, rfl, by simp [push, ends, hr]⟩
            | tell w =>
              rw [if_neg (show ¬ (Row.tell w).isT = true from Bool.false_ne_true)]
              exact ⟨_, rfl, by simp [push, ends, hr]⟩
          rw [W.iff.mp E2, obs]
          have st' : stp rs s = ⟨st ++ push rs a s.nodes.length, s.nodes ++ [a], putE s.es ab s.nodes.length ++ [[]]⟩ := stp_snoc hs
          have := ih (stp rs s) (inv_stp g I) (by
            have h1 := I.T
            have h2 := (inv_stp g I).T
            have h3 : (stp rs s).nodes.length = s.nodes.length + 1 := by rw [st']; simp
            omega)
          rw [obs]
          show whF' _ _ (n + 1) _ = some (J.nx (enc rs (itr rs n (stp rs s))))
          rw [← this]
          congr 1
          rw [st']
          simp [enc, eEs]
    exact main 1000 s0 (inv0 g) (by have := (inv0 g).T; simp only [s0, List.length_nil] at this ⊢; omega)
  · have I := inv_itr g 1000 (inv0 g)
    have he : (itr rs 1000 s0).stack = [] := itr_end g 1000 (inv0 g) (by have := (inv0 g).T; simp only [s0, List.length_nil] at this ⊢; omega)
    generalize itr rs 1000 s0 = s at I he ⊢
    have lenN : s.nodes.length ≤ 1000 := by have := I.T; omega
    rw [obs]
    show ((some []).bind fun rows => (foldO _ ((s.nodes.map (tr rs)).zip (eEs s.es)) rows).bind fun (s10 : List DI) => some s10) = _
    rw [obs]
    have len : ((s.nodes.map (tr rs)).zip (eEs s.es)).length = s.nodes.length := by simp [eEs, I.el]
    refine W.iff.mp (W.bind (foldO_W _ (fun i (t : List DI) => t = ((List.range i).map (lrow rs s)).map Row.x) ?_ _ rfl) fun t ht => ⟨_, rfl, by rw [ht, len]; rfl⟩)
    rintro i ⟨x, y⟩ t hx rfl
    have hi : i < s.nodes.length := by rw [← len]; exact (List.getElem?_eq_some_iff.mp hx).1
    have hlt : s.nodes.getD i 0 < rs.length := I.nl _ (by
      rw [List.getD_eq_getElem?_getD, List.getElem?_eq_getElem hi]
      exact List.getElem_mem hi)
    have hxy : x = tr rs (s.nodes.getD i 0) ∧ y = (s.es.getD i []).map Int.ofNat := by
      have hi2 : i < s.es.length := by rw [I.el]; exact hi
      rw [List.getElem?_zip_eq_some] at hx
      obtain ⟨h1, h2⟩ := hx
      unfold eEs at h2
      rw [List.getElem?_map, List.getElem?_eq_getElem hi] at h1
      rw [List.getElem?_map, List.getElem?_eq_getElem hi2] at h2
      exact ⟨by rw [List.getD_eq_getElem?_getD, List.getElem?_eq_getElem hi]; exact (Option.some.inj h1).symm, by rw [List.getD_eq_getElem?_getD, List.getElem?_eq_getElem hi2]; exact (Option.some.inj h2).symm⟩
    obtain ⟨rfl, rfl⟩ := hxy
    obtain ⟨r, hr⟩ : ∃ r, rs[s.nodes.getD i 0]? = some r := ⟨_, List.getElem?_eq_getElem hlt⟩
    simp only
    rw [tr_0 g hr]
    have fin : ∀ r', lrow rs s i = r' → ((List.range (i + 1)).map (lrow rs s)).map Row.x = ((List.range i).map (lrow rs s)).map Row.x ++ [r'.x] := fun r' h => by
      rw [List.range_succ, List.map_append, List.map_append, List.map_singleton, List.map_singleton, h]
    cases r with
    | test f es =>
      rw [if_pos (show (Row.test f es).isT = true from rfl), tr_1 g hr, obs, appO_of (by simp; omega), obs, obs]
      refine ⟨_, rfl, ?_⟩
      rw [fin (.test f (s.es.getD i [])) (by unfold lrow; rw [hr])]
      rfl
    | never =>
      rw [if_neg (show ¬ (Row.never).isT = true from Bool.false_ne_true), appO_of (by simp; omega), obs, obs, tr_leaf g hr rfl]
      exact ⟨_, rfl, by rw [fin .never (by unfold lrow; rw [hr])]⟩
    | tell w =>
      rw [if_neg (show ¬ (Row.tell w).isT = true from Bool.false_ne_true), appO_of (by simp; omega), obs, obs, tr_leaf g hr rfl]
      exact ⟨_, rfl, by rw [fin (.tell w) (by unfold lrow; rw [hr])]⟩
/-! runs -/
def nx1 (rs : List Row) (wide : List Int) (a : Nat) : Option Nat := match rs[a]? with
  | some (.test f es) => match atI wide f with
    | some w => es[w.toNat]?
    | none => none
  | _ => none
def Ok (rs : List Row) (wide : List Int) : Prop := ∀ (a : Nat) (f : Int) (es : List Nat), rs[a]? = some (Row.test f es) → ∃ w e, atI wide f = some w ∧ 0 ≤ w ∧ es[w.toNat]? = some e ∧ e < rs.length
def go (rs : List Row) (wide : List Int) : Nat → Nat → Int → Nat × Int
  | 0, a, t => (a, t)
  | n + 1, a, t => match nx1 rs wide a with
    | some b => go rs wide n b (t + 1)
    | none => (a, t)
def ans (rs : List Row) (a : Nat) : DI := match rs[a]? with
  | some (.tell w) => iX w
  | _ => iX (-1)
theorem ix_tX {es : List Nat} {w : Int} {e : Nat} (h0 : 0 ≤ w) (h : es[w.toNat]? = some e) : ixX (tX es) w = some (iX (e : Int)) := by
  refine ixX_of ?_
  show atI ((es.map Int.ofNat).map eI) w = _
  rw [← Int.toNat_of_nonneg h0]
  refine atI_nat ?_
  rw [List.getElem?_map, List.getElem?_map, h]
  rfl
theorem nx_leaf {rs : List Row} {wide : List Int} (o : Ok rs wide) {a : Nat} {r : Row} (hr : rs[a]? = some r) : nx1 rs wide a = none ↔ r.isT = false := by
  unfold nx1
  rw [hr]
  cases r with
  | test f es =>
    obtain ⟨w, e, h1, h2, h3, _⟩ := o a f es hr
    simp [h1, h3, Row.isT]
  | never => simp [Row.isT]
  | tell w => simp [Row.isT]
theorem go_lt {rs : List Row} {wide : List Int} (o : Ok rs wide) : ∀ (n a : Nat) (t : Int), a < rs.length → (go rs wide n a t).1 < rs.length
  | 0, a, t, h => h
  | n + 1, a, t, h => by
    unfold go
    cases q : nx1 rs wide a with
    | none => exact h
    | some b =>
      refine go_lt o n b _ ?_
      unfold nx1 at q
      split at q
      · rename_i f es hr
        obtain ⟨w, e, h1, h2, h3, h4⟩ := o a f es hr
        rw [h1] at q
        simp only [h3] at q
        cases q
        exact h4
      · cases q
theorem go_succ {rs : List Row} {wide : List Int} : ∀ (n a : Nat) (t : Int), go rs wide (n + 1) a t = match nx1 rs wide (go rs wide n a t).1 with
    | some b => (b, (go rs wide n a t).2 + 1)
    | none => go rs wide n a t
  | 0, a, t => by
    unfold go
    cases q : nx1 rs wide a <;> simp [go, q]
  | n + 1, a, t => by
    conv => lhs; unfold go
    conv => rhs; unfold go
    cases q : nx1 rs wide a with
    | none => simp [q]
    | some b => exact go_succ n b (t + 1)
theorem ans_ok {rs : List Row} {a : Nat} {r : Row} (hr : rs[a]? = some r) (t : Int) : (if r.isL = true then (atI (rs.map Row.x) (a : Int)).bind fun x11 => (ixX x11 1).bind fun x12 => some (x12, t) else some ((⟨eI (-1), nmI _⟩ : DI), t)) = some (ans rs a, t) := by
  unfold ans
  rw [hr]
  cases r with
  | test f es => rfl
  | never => rfl
  | tell w => rw [if_pos (show (Row.tell w).isL = true from rfl), atR hr, obs, ix1t, obs]
/-- a step's reading of its row -/
theorem step_ok {β : Type} {rs : List Row} {wide : List Int} (o : Ok rs wide) {a : Nat} {f : Int} {es : List Nat} (hr : rs[a]? = some (.test f es)) (k : Int → Option β) : ∃ b, nx1 rs wide a = some b ∧ ((atI (rs.map Row.x) (a : Int)).bind fun x3 => (ixX x3 2).bind fun x4 => (atI (rs.map Row.x) (a : Int)).bind fun x5 => (ixX x5 1).bind fun x6 => (intX x6).bind fun i => (atI wide i).bind fun x7 => (ixX x4 x7).bind fun x8 => (intX x8).bind fun i1 => k i1) = k (b : Int) := by
  obtain ⟨w, e, h1, h2, h3, _⟩ := o a f es hr
  refine ⟨e, by unfold nx1; rw [hr]; simp [h1, h3], ?_⟩
  rw [atR hr, obs, ix2, obs, obs, ix1, obs, int_iX, obs, h1, obs, ix_tX h2 h3, obs, int_iX, obs]
theorem law_run_ok {rs : List Row} {wide : List Int} (o : Ok rs wide) (h0 : 0 < rs.length) (hl : rs.length ≤ 1000) : s_law_run (rs.map Row.x) wide = some (ans rs (go rs wide rs.length 0 0).1, (go rs wide rs.length 0 0).2) := by
  unfold s_law_run
  rw [List.length_map, rngO_n (by omega), obs]
  refine W.iff.mp (W.bind (foldO_rng (fun i (s : Int × Int) => s = (((go rs wide i 0 0).1 : Int), (go rs wide i 0 0).2)) ?_ rfl) fun s hs => ?_)
  · rintro i s hi rfl
    rw [go_succ]
    have hlt := go_lt o i 0 0 h0
    generalize go rs wide i 0 0 = p at hlt ⊢
    obtain ⟨a, t⟩ := p
    obtain ⟨r, hr⟩ : ∃ r, rs[a]? = some r := ⟨_, List.getElem?_eq_getElem hlt⟩
    simp only
    rw [atR hr, obs, tagT]
    cases r with
    | test f es =>
      obtain ⟨b, h1, h2⟩ := step_ok o hr (fun i1 => (some (t + 1)).bind fun tests => some (i1, tests))
      rw [if_pos (show (Row.test f es).isT = true from rfl), ← atR hr, h2, h1, obs, obs]
      exact ⟨_, rfl, rfl⟩
    | never =>
      rw [if_neg (show ¬ (Row.never).isT = true from Bool.false_ne_true), (nx_leaf o hr).mpr rfl]
      exact ⟨_, rfl, rfl⟩
    | tell w =>
      rw [if_neg (show ¬ (Row.tell w).isT = true from Bool.false_ne_true), (nx_leaf o hr).mpr rfl]
      exact ⟨_, rfl, rfl⟩
  · subst hs
    have hlt := go_lt o rs.length 0 0 h0
    generalize go rs wide rs.length 0 0 = p at hlt ⊢
    obtain ⟨a, t⟩ := p
    obtain ⟨r, hr⟩ : ∃ r, rs[a]? = some r := ⟨_, List.getElem?_eq_getElem hlt⟩
    simp only
    rw [atR hr, obs, tagL, ← atR hr, ans_ok hr]
    exact ⟨_, rfl, rfl⟩
theorem run_wh {rs : List Row} {wide : List Int} (o : Ok rs wide) : ∀ (n a : Nat) (t : Int), a < rs.length → nx1 rs wide (go rs wide n a t).1 = none →
    whF' (fun (s1 : Int × Int) => (atI (rs.map Row.x) s1.2).bind fun x1 => (ixX x1 0).bind fun x2 => (Ev.cmpS .Eq (eX x2) (eS (PySem.Str.ofString "test"))).bind fun c => some c) (fun (s2 : Int × Int) =>
      (atI (rs.map Row.x) s2.2).bind fun x3 => (ixX x3 2).bind fun x4 => (atI (rs.map Row.x) s2.2).bind fun x5 => (ixX x5 1).bind fun x6 => (intX x6).bind fun i => (atI wide i).bind fun x7 => (ixX x4 x7).bind fun x8 => (intX x8).bind fun i1 =>
      some (Lo.nx ((s2.1 + 1), i1) : Lo (Int × Int) (DI × Int))) (n + 1) (t, (a : Int)) = some (J.nx ((go rs wide n a t).2, ((go rs wide n a t).1 : Int))) := fun n => by
  have leaf : ∀ (m a : Nat) (t : Int) (r : Row), rs[a]? = some r → r.isT = false → whF' (fun (s1 : Int × Int) => (atI (rs.map Row.x) s1.2).bind fun x1 => (ixX x1 0).bind fun x2 => (Ev.cmpS .Eq (eX x2) (eS (PySem.Str.ofString "test"))).bind fun c => some c) (fun (s2 : Int × Int) =>
      (atI (rs.map Row.x) s2.2).bind fun x3 => (ixX x3 2).bind fun x4 => (atI (rs.map Row.x) s2.2).bind fun x5 => (ixX x5 1).bind fun x6 => (intX x6).bind fun i => (atI wide i).bind fun x7 => (ixX x4 x7).bind fun x8 => (intX x8).bind fun i1 =>
      some (Lo.nx ((s2.1 + 1), i1) : Lo (Int × Int) (DI × Int))) (m + 1) (t, (a : Int)) = some (J.nx (t, (a : Int))) := fun m a t r hr hT => by
    unfold whF'
    simp only
    rw [atR hr, obs, tagT, obs, hT]
    exact if_neg Bool.false_ne_true
  induction n with
  | zero =>
    intro a t h hn
    obtain ⟨r, hr⟩ : ∃ r, rs[a]? = some r := ⟨_, List.getElem?_eq_getElem h⟩
    exact leaf 0 a t r hr ((nx_leaf o hr).mp hn)
  | succ n ih =>
    intro a t h hn
    obtain ⟨r, hr⟩ : ∃ r, rs[a]? = some r := ⟨_, List.getElem?_eq_getElem h⟩
    cases r with
    | test f es =>
      obtain ⟨b, h1, h2⟩ := step_ok o hr (fun i1 => some (Lo.nx ((t + 1), i1) : Lo (Int × Int) (DI × Int)))
      have hg : go rs wide (n + 1) a t = go rs wide n b (t + 1) := by
        conv => lhs; unfold go
        rw [h1]
      rw [hg] at hn ⊢
      have hb : b < rs.length := by
        have := go_lt o 1 a t h
        unfold go at this
        rw [h1] at this
        exact this
      rw [← ih b (t + 1) hb hn]
      conv => lhs; unfold whF'
      simp only
      rw [show ((atI (rs.map Row.x) (a : Int)).bind fun x1 => (ixX x1 0).bind fun x2 => (Ev.cmpS .Eq (eX x2) (eS (PySem.Str.ofString "test"))).bind fun c => some c) = some true from by rw [atR hr, obs, tagT]; rfl, obs, if_pos rfl, h2, obs]
    | never =>
      have hx : nx1 rs wide a = none := (nx_leaf o hr).mpr rfl
      have hg : go rs wide (n + 1) a t = (a, t) := by unfold go; rw [hx]
      rw [hg]
      exact leaf (n + 1) a t _ hr rfl
    | tell w =>
      have hx : nx1 rs wide a = none := (nx_leaf o hr).mpr rfl
      have hg : go rs wide (n + 1) a t = (a, t) := by unfold go; rw [hx]
      rw [hg]
      exact leaf (n + 1) a t _ hr rfl
theorem run_rows_ok {rs : List Row} {wide : List Int} (o : Ok rs wide) (h0 : 0 < rs.length) {m : Nat} (hn : nx1 rs wide (go rs wide m 0 0).1 = none) : s_run_rows (rs.map Row.x) wide = some (ans rs (go rs wide m 0 0).1, (go rs wide m 0 0).2) := by
  unfold s_run_rows
  refine (congrArg (Option.bind · _) (whU_of (run_wh o m 0 0 h0 hn))).trans ?_
  rw [obs]
  have hlt := go_lt o m 0 0 h0
  generalize go rs wide m 0 0 = p at hlt ⊢
  obtain ⟨a, t⟩ := p
  obtain ⟨r, hr⟩ : ∃ r, rs[a]? = some r := ⟨_, List.getElem?_eq_getElem hlt⟩
  show ((atI (rs.map Row.x) (a : Int)).bind _) = _
  rw [atR hr, obs, tagL, ← ans_ok hr t, atR hr]
theorem run_rows_2 (rs : List DI) (wide : List Int) : s_run_rows_2 rs wide = s_run_rows rs wide := rfl
theorem leaf_good {many : Nat} {rs : List Row} (g : Good many rs) {wide : List Int} (o : Ok rs wide) : ∀ (n a : Nat) (t : Int), a < rs.length → rs.length ≤ n + a → nx1 rs wide (go rs wide n a t).1 = none
  | 0, a, t, h1, h2 => by omega
  | n + 1, a, t, h1, h2 => by
    unfold go
    cases q : nx1 rs wide a with
    | none => exact q
    | some b =>
      have hb := go_lt o 1 a t h1
      unfold go at hb
      rw [q] at hb
      have hb : b < rs.length := hb
      refine leaf_good g o n b _ hb ?_
      have : a < b := by
        unfold nx1 at q
        split at q
        · rename_i f es hr
          split at q
          · rename_i w hw
            have : b ∈ ends rs a := by unfold ends; rw [hr]; exact List.mem_of_getElem? q
            exact (g.up a b this).1
          · cases q
        · cases q
      omega
/-! the listed rows run alike -/
theorem lrows_get {rs : List Row} {s : St} {i : Nat} (h : i < s.nodes.length) : (lrows rs s)[i]? = some (lrow rs s i) := by
  unfold lrows
  rw [List.getElem?_map, List.getElem?_range h]
  rfl
theorem lrows_len {rs : List Row} {s : St} : (lrows rs s).length = s.nodes.length := by simp [lrows]
theorem lrows_ok {many : Nat} {rs : List Row} (g : Good many rs) {T : Nat} {s : St} (I : Inv rs T s) (he : s.stack = []) {wide : List Int} (o : Ok rs wide) : Ok (lrows rs s) wide ∧ ∀ i, i < s.nodes.length → nx1 rs wide (s.nodes.getD i 0) = (nx1 (lrows rs s) wide i).map (fun j => s.nodes.getD j 0) ∧ ans rs (s.nodes.getD i 0) = ans (lrows rs s) i := by
  have base : ∀ i, i < s.nodes.length → ∃ r, rs[s.nodes.getD i 0]? = some r := fun i hi => ⟨_, List.getElem?_eq_getElem (I.nl _ (by
      rw [List.getD_eq_getElem?_getD, List.getElem?_eq_getElem hi]
      exact List.getElem_mem hi))⟩
  have mt : ∀ i, i < s.nodes.length → (s.es.getD i []).map (fun j => s.nodes.getD j 0) = ends rs (s.nodes.getD i 0) := fun i hi => by
    have := I.mt i hi
    rw [he] at this
    simpa using this
  refine ⟨fun a f es ha => ?_, fun i hi => ?_⟩
  · have hi : a < s.nodes.length := by rw [← lrows_len (rs := rs)]; exact (List.getElem?_eq_some_iff.mp ha).1
    rw [lrows_get hi] at ha
    obtain ⟨r, hr⟩ := base a hi
    have ha := Option.some.inj ha
    unfold lrow at ha
    rw [hr] at ha
    cases r with
    | test f' es' =>
      cases ha
      obtain ⟨w, e, h1, h2, h3, h4⟩ := o _ _ _ hr
      have m := mt a hi
      unfold ends at m
      rw [hr] at m
      simp only at m
      rw [← m, List.getElem?_map] at h3
      cases q : (s.es.getD a [])[w.toNat]? with
      | none => rw [q] at h3; cases h3
      | some j => exact ⟨w, j, h1, h2, q, by rw [lrows_len]; exact I.eb a hi j (List.mem_of_getElem? q)⟩
    | never => cases ha
    | tell w => cases ha
  · obtain ⟨r, hr⟩ := base i hi
    have hl : (lrows rs s)[i]? = some (lrow rs s i) := lrows_get hi
    unfold nx1 ans
    rw [hr, hl]
    unfold lrow
    rw [hr]
    cases r with
    | test f es =>
      have m := mt i hi
      unfold ends at m
      rw [hr] at m
      simp only at m ⊢
      refine ⟨?_, trivial⟩
      cases q : atI wide f with
      | none => rfl
      | some w =>
        simp only
        rw [← m, List.getElem?_map]
    | never => exact ⟨rfl, rfl⟩
    | tell w => exact ⟨rfl, rfl⟩
theorem go_l {many : Nat} {rs : List Row} (g : Good many rs) {T : Nat} {s : St} (I : Inv rs T s) (he : s.stack = []) {wide : List Int} (o : Ok rs wide) : ∀ (n i : Nat) (t : Int), i < s.nodes.length → go rs wide n (s.nodes.getD i 0) t = (s.nodes.getD (go (lrows rs s) wide n i t).1 0, (go (lrows rs s) wide n i t).2)
  | 0, i, t, h => rfl
  | n + 1, i, t, h => by
    obtain ⟨o2, h2⟩ := lrows_ok g I he o
    have e := (h2 i h).1
    unfold go
    rw [e]
    cases q : nx1 (lrows rs s) wide i with
    | none => rfl
    | some j =>
      have hj := go_lt o2 1 i t (by rw [lrows_len]; exact h)
      unfold go at hj
      rw [q] at hj
      have hj : j < (lrows rs s).length := hj
      rw [lrows_len] at hj
      exact go_l g I he o n j (t + 1) hj
/-- the listed rows, run -/
theorem due_run {many : Nat} {rs : List Row} (g : Good many rs) {T : Nat} {s : St} (I : Inv rs T s) (he : s.stack = []) (hN : 0 < s.nodes.length) {wide : List Int} (o : Ok rs wide) : s_run_rows ((lrows rs s).map Row.x) wide = some (ans rs (go rs wide rs.length 0 0).1, (go rs wide rs.length 0 0).2) := by
  obtain ⟨o2, h2⟩ := lrows_ok g I he o
  have n0 : s.nodes.getD 0 0 = 0 := I.h0 (List.length_pos_iff.mp hN)
  have gl := go_l g I he o rs.length 0 0 hN
  rw [n0] at gl
  have lt := go_lt o2 rs.length 0 0 (by rw [lrows_len]; exact hN)
  rw [lrows_len] at lt
  have lf := leaf_good g o rs.length 0 0 g.pos (by omega)
  rw [gl] at lf ⊢
  obtain ⟨h3, h4⟩ := h2 _ lt
  rw [h3] at lf
  rw [run_rows_ok o2 (by rw [lrows_len]; exact hN) (m := rs.length) (by
    cases q : nx1 (lrows rs s) wide (go (lrows rs s) wide rs.length 0 0).1 with
    | none => rfl
    | some j => rw [q] at lf; cases lf), h4]
end
end K45

namespace K45
noncomputable section
open PySem L2 Ev Rf Lc
/-- fields within bounds -/
def FF (fields : Int) (rs : List Row) : Prop := ∀ r ∈ rs, ∀ (f : Int) (es : List Nat), r = .test f es → 0 ≤ f ∧ f < fields
def Row.es : Row → List Nat
  | .test _ es => es
  | _ => []
theorem ends_es {rs : List Row} {k : Nat} {r : Row} (h : rs[k]? = some r) : ends rs k = r.es := by
  unfold ends
  rw [h]
  cases r <;> rfl
theorem tX_rng {a : Nat} {n : Nat} {f : Int} : (⟨(eP3 eS eI (eT eI)) ((Str.ofString "test"), f, rngL (a : Int) n), (nmP3 nmS nmI (nmT nmI)) _⟩ : DI) = (Row.test f (List.range' a n)).x := by
  apply Subtype.ext
  show eP3 eS eI (eT eI) _ = eP3 eS eI (eT eI) _
  congr 3
  unfold rngL
  rw [List.range'_eq_map_range, List.map_map]
  refine List.map_congr_left fun i _ => ?_
  simp
/-! drawn rows -/
structure DI0 (many : Nat) (fields : Int) (k : Nat) (rs : List Row) (m : Nat) : Prop where
  len : ∀ (j : Nat) (f : Int) (es : List Nat), rs[j]? = some (Row.test f es) → es.length = many
  up : ∀ (j : Nat), ∀ e ∈ ends rs j, j < e ∧ e < rs.length + m
  ff : FF fields rs
  ln : rs.length + m ≤ 70
  at_ : rs.length = k ∨ (m = 0 ∧ rs.length ≤ k ∧ 0 < rs.length)
  fl : rs.flatMap Row.es = List.range' 1 (rs.length + m - 1)
  ps : 0 < rs.length + m
theorem drawn_ok {ds : List Int} (hd : ds.length = 70 ∧ ∀ d ∈ ds, 0 ≤ d ∧ d < 1000) {many : Nat} (hm : 2 ≤ many ∧ many ≤ 4) {fields deep : Int} (hf : 1 ≤ fields) (chain : Bool) :
    W (s_law_drawn_rows ds (many : Int) fields deep chain) fun xs => ∃ rs, xs = rs.map Row.x ∧ DI0 many fields 80 rs 0 := by
  unfold s_law_drawn_rows
  rw [obs, obs, obs, show (80 : Int) = ((80 : Nat) : Int) from rfl, rngO_n (by omega), obs]
  refine W.bind (foldO_rng (fun k (t : List DI × List Int × List Bool) => ∃ rs m, t.1 = rs.map Row.x ++ List.replicate m nX ∧ t.2.1.length = rs.length + m ∧ t.2.2.length = rs.length + m ∧ DI0 many fields k rs m) ?_ ?_) fun t ht => ?_
  · rintro k ⟨xs, ls, bs⟩ hk ⟨rs, m, h1, h2, h3, I⟩
    simp only at h1 h2 h3 ⊢
    have xl : xs.length = rs.length + m := by rw [h1]; simp
    refine W.bind (P := fun t : List DI × List Int × List Bool => ∃ rs m, t.1 = rs.map Row.x ++ List.replicate m nX ∧ t.2.1.length = rs.length + m ∧ t.2.2.length = rs.length + m ∧ DI0 many fields (k + 1) rs m) ?_ fun t ht => ⟨_, rfl, ht⟩
    refine W.ite (fun hlt => ?_) fun hlt => ?_
    · simp only [decide_eq_true_eq] at hlt
      have hlt' : k < xs.length := by omega
      have hrk : rs.length = k := by
        rcases I.at_ with h | h
        · exact h
        · omega
      have hm1 : 1 ≤ m := by omega
      refine W.bind (W_at (P := fun x => 0 ≤ x ∧ x < 1000) (by omega) (by rw [hd.1]; omega) hd.2) fun x1 hx1 => ?_
      rw [divO_of (by omega), obs]
      generalize hq : x1 / (1 + (k : Int) / 24) = q
      have hq0 : 0 ≤ q := by rw [← hq]; exact Int.ediv_nonneg hx1.1 (by omega)
      rw [atI_n (xs := bs) (k := k) (by omega), obs]
      refine W.bind (P := fun c => c = true → xs.length + many ≤ 70) ?_ fun c hc => ?_
      · refine W.ite (fun hb => ?_) fun hb => ⟨_, rfl, fun z => by cases z⟩
        rw [atI_n (xs := ls) (k := k) (by omega), obs]
        refine ⟨_, rfl, fun z => ?_⟩
        simp only [Bool.and_eq_true, decide_eq_true_eq] at z
        omega
      have one : ∀ r : Row, r.isT = false → ∃ rs' m', xs.set k r.x = rs'.map Row.x ++ List.replicate m' nX ∧ ls.length = rs'.length + m' ∧ bs.length = rs'.length + m' ∧ DI0 many fields (k + 1) rs' m' := fun r hr => by
        obtain ⟨m', rfl⟩ : ∃ m', m = m' + 1 := ⟨m - 1, by omega⟩
        refine ⟨rs ++ [r], m', ?_, by simp; omega, by simp; omega, ?_⟩
        · rw [h1, List.set_append_right _ _ (by simp; omega)]
          have : k - (rs.map Row.x).length = 0 := by simp; omega
          rw [this, List.replicate_succ, List.set_cons_zero]
          simp
        · have re : r.es = [] := by cases r <;> first | rfl | cases hr
          refine ⟨fun j f es hj => ?_, fun j e he => ?_, fun r' hr' f es hh => ?_, by have := I.ln; simp; omega, .inl (by simp; omega), ?_, by simp; omega⟩
          · rcases Nat.lt_or_ge j rs.length with w | w
            · rw [List.getElem?_append_left w] at hj
              exact I.len j f es hj
            · have : j = rs.length := by have := (List.getElem?_eq_some_iff.mp hj).1; simp at this; omega
              subst this
              simp at hj
              rw [hj] at hr; cases hr
          · rcases Nat.lt_or_ge j rs.length with w | w
            · have : ends (rs ++ [r]) j = ends rs j := by unfold ends; rw [List.getElem?_append_left w]
              rw [this] at he
              have := I.up j e he
              simp; omega
            · have : ends (rs ++ [r]) j = [] := by
                rcases Nat.lt_or_ge j (rs.length + 1) with v | v
                · have e0 : j = rs.length := by omega
                  subst e0
                  rw [ends_es (r := r) (by simp), re]
                · unfold ends; rw [List.getElem?_eq_none (by simp; omega)]
              rw [this] at he; cases he
          · rcases List.mem_append.mp hr' with z | z
            · exact I.ff r' z f es hh
            · rw [List.mem_singleton.mp z] at hh
              rw [hh] at hr; cases hr
          · rw [List.flatMap_append, I.fl]
            simp [re]
      refine W.bind (P := fun t : List DI × List Int × List Bool => ∃ rs m, t.1 = rs.map Row.x ++ List.replicate m nX ∧ t.2.1.length = rs.length + m ∧ t.2.2.length = rs.length + m ∧ DI0 many fields (k + 1) rs m) ?_ fun t ht => ⟨_, rfl, ht⟩
      refine W.ite (fun ht => ?_) fun ht => ?_
      · have hcap : xs.length + many ≤ 70 := hc (by simp only [Bool.and_eq_true] at ht; exact ht.1)
        rw [modO_of (by omega), obs, rngO_of (by omega) (by omega), obs, szO_of (by rw [rngL_len]; omega), obs]
        have er : ((xs.length : Int) + (many : Int) - (xs.length : Int)).toNat = many := by omega
        rw [er, tX_rng, setO_n hlt', obs, repO_of (by omega) (by simp; omega) (by omega), obs, catO_of (by simp; omega), obs, atI_n (xs := ls) (k := k) (by omega), obs, repO_of (by omega) (by simp; omega) (by omega), obs, catO_of (by simp; omega), obs]
        have lv : W (((rngO 0 (many : Int)).bind fun xs => (lcM (fun (worth : Int) => some true) (fun (worth : Int) => (if (!chain) = true then some true else (modO (q / 7) (many : Int)).bind fun rem1 => some (decide (worth = rem1))).bind fun c1 => some c1) xs).bind szO)) fun l => l.length = many := by
          rw [rngO_n (by omega), obs]
          refine W_sz (W.mono (lcM_Wm (P := fun _ => True) fun x hx => ?_) fun ys hy => by rw [rngL_len] at hy; exact ⟨by omega, hy.1⟩)
          refine W.bind (P := fun _ => True) (W.ite (fun _ => ⟨_, rfl, trivial⟩) fun _ => ?_) fun c _ => ⟨_, rfl, trivial⟩
          rw [modO_of (by omega), obs]
          exact ⟨_, rfl, trivial⟩
        refine W.bind lv fun l hl => ?_
        rw [catO_of (by simp [hl]; omega), obs]
        have e0 := Int.emod_nonneg (q / 3) (show fields ≠ 0 by omega)
        have e1 := Int.emod_lt_of_pos (q / 3) (show 0 < fields by omega)
        obtain ⟨m', rfl⟩ : ∃ m', m = m' + 1 := ⟨m - 1, by omega⟩
        refine ⟨_, rfl, rs ++ [Row.test (q / 3 % fields) (List.range' xs.length many)], m' + many, ?_, by simp; omega, by simp [hl]; omega, ?_⟩
        · simp only
          rw [h1, List.set_append_right _ _ (by simp; omega)]
          have : k - (rs.map Row.x).length = 0 := by simp; omega
          rw [this, List.replicate_succ, List.set_cons_zero]
          have : (List.replicate many [(⟨Ev.D.tup [], rfl⟩ : DI)]).flatten = List.replicate many nX := by
            rw [List.flatten_replicate_singleton]; rfl
          rw [Int.toNat_natCast, this]
          simp [← List.replicate_append_replicate]
        · refine ⟨fun j f es hj => ?_, fun j e he => ?_, fun r' hr' f es hh => ?_, by simp; omega, .inl (by simp; omega), ?_, by simp; omega⟩
          · rcases Nat.lt_or_ge j rs.length with w | w
            · rw [List.getElem?_append_left w] at hj
              exact I.len j f es hj
            · have : j = rs.length := by have := (List.getElem?_eq_some_iff.mp hj).1; simp at this; omega
              subst this
              simp at hj
              rw [← hj.2]; simp
          · rcases Nat.lt_or_ge j rs.length with w | w
            · have : ends (rs ++ [Row.test (q / 3 % fields) (List.range' xs.length many)]) j = ends rs j := by unfold ends; rw [List.getElem?_append_left w]
              rw [this] at he
              have := I.up j e he
              simp; omega
            · rcases Nat.lt_or_ge j (rs.length + 1) with v | v
              · have e0 : j = rs.length := by omega
                subst e0
                rw [ends_es (r := Row.test (q / 3 % fields) (List.range' xs.length many)) (by simp)] at he
                have he : e ∈ List.range' xs.length many := he
                rw [List.mem_range'_1] at he
                simp; omega
              · unfold ends at he; rw [List.getElem?_eq_none (by simp; omega)] at he; cases he
          · rcases List.mem_append.mp hr' with z | z
            · exact I.ff r' z f es hh
            · rw [List.mem_singleton.mp z] at hh
              cases hh
              exact ⟨e0, e1⟩
          · rw [List.flatMap_append, I.fl]
            simp only [List.flatMap_cons, List.flatMap_nil, List.append_nil, Row.es]
            have a1 : xs.length = 1 + (rs.length + (m' + 1) - 1) := by omega
            have a2 : (rs ++ [Row.test (q / 3 % fields) (List.range' xs.length many)]).length + (m' + many) - 1 = (rs.length + (m' + 1) - 1) + many := by simp; omega
            rw [a2, a1, List.range'_append_1]
      · refine W.bind (P := fun t : List DI => ∃ rs' m', t = rs'.map Row.x ++ List.replicate m' nX ∧ ls.length = rs'.length + m' ∧ bs.length = rs'.length + m' ∧ DI0 many fields (k + 1) rs' m') (W.ite (fun _ => ?_) fun _ => ?_) fun t ⟨rs', m', ht⟩ => ⟨_, rfl, rs', m', ht⟩
        · rw [setO_n hlt', obs]
          exact ⟨_, rfl, one .never rfl⟩
        · rw [setO_n hlt', obs]
          exact ⟨_, rfl, one (.tell _) rfl⟩
    · simp only [decide_eq_true_eq] at hlt
      refine ⟨_, rfl, rs, m, h1, h2, h3, I.len, I.up, I.ff, I.ln, ?_, I.fl, I.ps⟩
      rcases I.at_ with h | h
      · exact .inr ⟨by omega, by omega, by have := I.ps; omega⟩
      · exact .inr ⟨h.1, by omega, h.2.2⟩
  · exact ⟨[], 1, rfl, rfl, rfl, (fun j f es h => by simp at h), (fun j e h => by simp [ends] at h), (fun r h => nomatch h), by decide, .inl rfl, rfl, by decide⟩
  · obtain ⟨rs, m, h1, h2, h3, I⟩ := ht
    have hm0 : m = 0 := by
      have := I.ln
      rcases I.at_ with h | h
      · omega
      · exact h.1
    subst hm0
    exact ⟨_, rfl, rs, by rw [h1]; simp, I⟩
theorem DI0.good {many : Nat} {fields : Int} {rs : List Row} (I : DI0 many fields 80 rs 0) : Good many rs := ⟨I.ps, I.len, I.up⟩
theorem sum_flat (f : Nat → List Nat) (h : Nat → Nat) : ∀ l : List Nat, (l.map fun k => 1 + ((f k).map h).sum).sum = l.length + ((l.flatMap f).map h).sum
  | [] => rfl
  | x :: l => by
    have := sum_flat f h l
    simp only [List.map_cons, List.sum_cons, List.length_cons, List.flatMap_cons, List.map_append, List.sum_append, this]
    omega
/-- a tree that is drawn has as many rows as were drawn -/
theorem DI0.size {many : Nat} {fields : Int} {rs : List Row} (I : DI0 many fields 80 rs 0) : sz rs 0 = rs.length := by
  have g := I.good
  have e1 : ((List.range rs.length).map (sz rs)) = (List.range rs.length).map fun k => 1 + ((ends rs k).map (sz rs)).sum := List.map_congr_left fun k hk => sz_eq g (List.mem_range.mp hk)
  have e2 : (List.range rs.length).flatMap (ends rs) = rs.flatMap Row.es := by
    rw [List.flatMap_def, List.flatMap_def]
    congr 1
    apply List.ext_getElem (by simp)
    intro i h1 h2
    simp only [List.length_map, List.length_range] at h1
    simp only [List.getElem_map, List.getElem_range]
    exact ends_es (List.getElem?_eq_getElem h1)
  have e3 := sum_flat (ends rs) (sz rs) (List.range rs.length)
  rw [← e1, e2, I.fl, List.length_range] at e3
  have hp := I.ps
  obtain ⟨n, hn⟩ : ∃ n, rs.length = n + 1 := ⟨rs.length - 1, by omega⟩
  rw [hn] at e3 ⊢
  have e4 : List.range (n + 1) = 0 :: List.range' 1 n := by
    rw [List.range_eq_range', List.range'_succ]
  rw [e4] at e3
  simp only [List.map_cons, List.sum_cons, Nat.add_zero, Nat.add_sub_cancel] at e3
  omega
/-! rows by hand -/
theorem hand_ok {ds : List Int} (hd : ds.length = 70 ∧ ∀ d ∈ ds, 0 ≤ d ∧ d < 1000) {many : Nat} (hm : 2 ≤ many ∧ many ≤ 4) {fields : Int} (hf : 1 ≤ fields) {count : Nat} (hc : 1 ≤ count ∧ count ≤ 30) :
    W (s_law_hand_rows ds (many : Int) fields (count : Int)) fun xs => ∃ rs, xs = rs.map Row.x ∧ Good many rs ∧ FF fields rs ∧ rs.length = count := by
  unfold s_law_hand_rows
  rw [obs, rngO_n (by omega), obs]
  refine W.bind (foldO_rng (fun k (t : List DI) => ∃ rs : List Row, t = rs.map Row.x ∧ rs.length = k ∧ (∀ (j : Nat) (f : Int) (es : List Nat), rs[j]? = some (Row.test f es) → es.length = many) ∧ (∀ j, ∀ e ∈ ends rs j, j < e ∧ e < count) ∧ FF fields rs) ?_ ⟨[], rfl, rfl, (fun j f es h => by simp at h), (fun j e h => by simp [ends] at h), fun r h => nomatch h⟩) fun t ⟨rs, h1, h2, h3, h4, h5⟩ => ⟨_, rfl, rs, h1, ⟨by omega, h3, fun j e he => by rw [h2]; exact h4 j e he⟩, h5, h2⟩
  rintro k t hk ⟨rs, rfl, h2, h3, h4, h5⟩
  refine W.bind (W_at (P := fun x => 0 ≤ x ∧ x < 1000) (by omega) (by rw [hd.1]; omega) hd.2) fun x1 hx1 => ?_
  have step : ∀ r : Row, (∀ (f : Int) (es : List Nat), r = .test f es → es.length = many ∧ 0 ≤ f ∧ f < fields) → (∀ e ∈ r.es, k < e ∧ e < count) → ∃ rs' : List Row, rs.map Row.x ++ [r.x] = rs'.map Row.x ∧ rs'.length = k + 1 ∧ (∀ (j : Nat) (f : Int) (es : List Nat), rs'[j]? = some (Row.test f es) → es.length = many) ∧ (∀ j, ∀ e ∈ ends rs' j, j < e ∧ e < count) ∧ FF fields rs' := fun r hr he => by
    refine ⟨rs ++ [r], by simp, by simp [h2], fun j f es hj => ?_, fun j e hh => ?_, fun r' hr' f es hh => ?_⟩
    · rcases Nat.lt_or_ge j rs.length with w | w
      · rw [List.getElem?_append_left w] at hj
        exact h3 j f es hj
      · have : j = rs.length := by have := (List.getElem?_eq_some_iff.mp hj).1; simp at this; omega
        subst this
        simp at hj
        exact (hr f es hj).1
    · rcases Nat.lt_or_ge j rs.length with w | w
      · have : ends (rs ++ [r]) j = ends rs j := by unfold ends; rw [List.getElem?_append_left w]
        rw [this] at hh
        exact h4 j e hh
      · rcases Nat.lt_or_ge j (rs.length + 1) with v | v
        · have e0 : j = rs.length := by omega
          subst e0
          rw [ends_es (r := r) (by simp)] at hh
          rw [h2]
          exact he e hh
        · unfold ends at hh; rw [List.getElem?_eq_none (by simp; omega)] at hh; cases hh
    · rcases List.mem_append.mp hr' with z | z
      · exact h5 r' z f es hh
      · rw [List.mem_singleton.mp z] at hh
        exact (hr f es hh).2
  refine W.bind (P := fun t : List DI => ∃ rs' : List Row, t = rs'.map Row.x ∧ rs'.length = k + 1 ∧ (∀ (j : Nat) (f : Int) (es : List Nat), rs'[j]? = some (Row.test f es) → es.length = many) ∧ (∀ j, ∀ e ∈ ends rs' j, j < e ∧ e < count) ∧ FF fields rs') (W.ite (fun ht => ?_) fun ht => ?_) fun t ht => ⟨_, rfl, ht⟩
  · simp only [Bool.and_eq_true, decide_eq_true_eq] at ht
    have hkc := ht.1
    rw [obs, rngO_n (by omega), obs]
    generalize hroom : (if (count : Int) - 1 - (k : Int) < 5 then (count : Int) - 1 - (k : Int) else 5) = room
    have hr1 : 1 ≤ room ∧ (k : Int) + room < count := by rw [← hroom]; split <;> omega
    have lv : W ((lcM (fun (worth : Int) => some true) (fun (worth : Int) => (atI ([5, 7, 11, 17] : List Int) worth).bind fun x2 => (divO x1 x2).bind fun quo => (modO quo room).bind fun rem => some (((k : Int) + 1) + rem)) (rngL 0 many)).bind szO) fun l => l.length = many ∧ ∀ y ∈ l, (k : Int) < y ∧ y < count := by
      refine W_sz (W.mono (lcM_Wm (P := fun y => (k : Int) < y ∧ y < count) fun x hx => ?_) fun ys hy => by rw [rngL_len] at hy; exact ⟨by omega, hy.1, hy.2⟩)
      have hx' := mem_rngL.mp hx
      refine W.bind (W_at (P := fun v : Int => 0 < v ∧ v < 1073741824) hx'.1 (by simp; omega) (by decide)) fun v hv => ?_
      rw [divO_of hv, obs, modO_of (by omega), obs]
      have e0 := Int.emod_nonneg (x1 / v) (show room ≠ 0 by omega)
      have e1 := Int.emod_lt_of_pos (x1 / v) (show 0 < room by omega)
      exact ⟨_, rfl, by omega, by omega⟩
    refine W.bind lv fun l hl => ?_
    rw [modO_of (by omega), obs, appO_of (by simp; omega), obs]
    have e0 := Int.emod_nonneg (x1 / 13) (show fields ≠ 0 by omega)
    have e1 := Int.emod_lt_of_pos (x1 / 13) (show 0 < fields by omega)
    have hx : (⟨(eP3 eS eI (eT eI)) ((Str.ofString "test"), x1 / 13 % fields, l), (nmP3 nmS nmI (nmT nmI)) _⟩ : DI) = (Row.test (x1 / 13 % fields) (l.map Int.toNat)).x := by
      apply Subtype.ext
      show eP3 eS eI (eT eI) _ = eP3 eS eI (eT eI) _
      congr 3
      rw [List.map_map]
      refine (List.map_id l).symm.trans (List.map_congr_left fun y hy => ?_)
      have := (hl.2 y hy).1
      show y = ((y.toNat : Nat) : Int)
      omega
    rw [hx]
    refine ⟨_, rfl, step _ (fun f es he => ?_) fun e he => ?_⟩
    · cases he
      exact ⟨by rw [List.length_map, hl.1], e0, e1⟩
    · have he : e ∈ l.map Int.toNat := he
      obtain ⟨y, hy, rfl⟩ := List.mem_map.mp he
      have := hl.2 y hy
      omega
  · refine W.bind (P := fun t : List DI => ∃ rs' : List Row, t = rs'.map Row.x ∧ rs'.length = k + 1 ∧ (∀ (j : Nat) (f : Int) (es : List Nat), rs'[j]? = some (Row.test f es) → es.length = many) ∧ (∀ j, ∀ e ∈ ends rs' j, j < e ∧ e < count) ∧ FF fields rs') (W.ite (fun _ => ?_) fun _ => ?_) fun t ht => ⟨_, rfl, ht⟩
    · rw [appO_of (by simp; omega), obs]
      exact ⟨_, rfl, step .never (fun f es h => by cases h) fun e h => nomatch h⟩
    · rw [appO_of (by simp; omega), obs]
      exact ⟨_, rfl, step (.tell _) (fun f es h => by cases h) fun e h => nomatch h⟩
/-! moved -/
def Row.mv (a b : Int) : Row → Row
  | .test f es => .test (a + b * f) es
  | r => r
theorem moved_ok {rs : List Row} {fields first stretch : Int} (hl : rs.length ≤ 1000) (ff : FF fields rs) (hs : 0 ≤ stretch ∧ stretch ≤ 1000) : s_law_moved (rs.map Row.x) first stretch = some ((rs.map (Row.mv first stretch)).map Row.x) := by
  unfold s_law_moved
  rw [obs]
  refine W.iff.mp (W.bind (foldO_W _ (fun i (t : List DI) => t = ((rs.take i).map (Row.mv first stretch)).map Row.x) ?_ _ rfl) fun t ht => ⟨_, rfl, by rw [ht, List.length_map, List.take_length]⟩)
  rintro i x t hx rfl
  rw [List.getElem?_map] at hx
  cases hr : rs[i]? with
  | none => rw [hr] at hx; cases hx
  | some r =>
    rw [hr] at hx
    cases hx
    have hi := (List.getElem?_eq_some_iff.mp hr).1
    have tk : rs.take (i + 1) = rs.take i ++ [r] := by rw [List.take_add_one, hr]; rfl
    rw [tagT, tk]
    cases r with
    | test f es =>
      rw [if_pos (show (Row.test f es).isT = true from rfl), ix1, obs, int_iX, obs, mulO_l (by omega), obs, ix2, obs, appO_of (by simp; omega), obs, obs]
      refine ⟨_, rfl, ?_⟩
      simp [Row.mv]
      rfl
    | never =>
      rw [if_neg (show ¬ (Row.never).isT = true from Bool.false_ne_true), appO_of (by simp; omega), obs, obs]
      exact ⟨_, rfl, by simp [Row.mv]⟩
    | tell w =>
      rw [if_neg (show ¬ (Row.tell w).isT = true from Bool.false_ne_true), appO_of (by simp; omega), obs, obs]
      exact ⟨_, rfl, by simp [Row.mv]⟩
theorem mv_ends {rs : List Row} {a b : Int} (k : Nat) : ends (rs.map (Row.mv a b)) k = ends rs k := by
  unfold ends
  rw [List.getElem?_map]
  cases rs[k]? with
  | none => rfl
  | some r => cases r <;> rfl
theorem mv_good {many : Nat} {rs : List Row} {a b : Int} (g : Good many rs) : Good many (rs.map (Row.mv a b)) := by
  refine ⟨by rw [List.length_map]; exact g.pos, fun k f es h => ?_, fun k e he => ?_⟩
  · rw [List.getElem?_map] at h
    cases hr : rs[k]? with
    | none => rw [hr] at h; cases h
    | some r =>
      rw [hr] at h
      cases r <;> cases h
      exact g.len k _ es hr
  · rw [mv_ends] at he
    rw [List.length_map]
    exact g.up k e he
theorem mv_sz {rs : List Row} {a b : Int} : ∀ n k, szA (rs.map (Row.mv a b)) n k = szA rs n k
  | 0, k => rfl
  | n + 1, k => by
    unfold szA
    rw [mv_ends]
    congr 2
    exact List.map_congr_left fun e _ => mv_sz n e
/-! the wide reading -/
theorem wide_ok {rd : List Int} {first stretch : Nat} (hl : rd.length ≤ 1000) (hf : first ≤ 1000) (hs : 1 ≤ stretch ∧ stretch ≤ 1000) : W (s_law_wide rd (first : Int) (stretch : Int)) fun w => ∀ k : Nat, k < rd.length → ∀ v, rd[k]? = some v → atI w ((first : Int) + (stretch : Int) * (k : Int)) = some v := by
  unfold s_law_wide
  have mu : ((first : Int) + (stretch : Int) * (rd.length : Int)) = ((first + stretch * rd.length : Nat) : Int) := by push_cast; rfl
  have mb : stretch * rd.length ≤ 1000 * 1000 := Nat.mul_le_mul hs.2 hl
  rw [mulO_l (by omega), obs, mu, repO_of (by omega) (by simp; omega) (by omega), obs, rngO_n (by omega), obs]
  refine W.bind (foldO_rng (fun i (w : List Int) => w.length = first + stretch * rd.length ∧ ∀ j : Nat, j < i → w[first + stretch * j]? = rd[j]?) ?_ ⟨by rw [List.flatten_replicate_singleton, List.length_replicate, Int.toNat_natCast], fun j hj => by omega⟩) fun w hw => ⟨_, rfl, fun k hk v hv => ?_⟩
  · rintro i w hi ⟨h1, h2⟩
    rw [atI_n hi, obs, mulO_l (by omega), obs]
    have e1 : ((first : Int) + (stretch : Int) * (i : Int)) = ((first + stretch * i : Nat) : Int) := by push_cast; rfl
    have lt : stretch * i < stretch * rd.length := Nat.mul_lt_mul_of_pos_left hi hs.1
    rw [e1, setO_n (by omega), obs]
    refine ⟨_, rfl, by simp [h1], fun j hj => ?_⟩
    by_cases hji : j = i
    · subst hji
      rw [List.getElem?_set_self (by omega), List.getElem?_eq_getElem hi]
    · have : stretch * j < stretch * i := Nat.mul_lt_mul_of_pos_left (by omega) hs.1
      rw [List.getElem?_set_ne (by omega)]
      exact h2 j (by omega)
  · have e1 : ((first : Int) + (stretch : Int) * (k : Int)) = ((first + stretch * k : Nat) : Int) := by push_cast; rfl
    rw [e1]
    exact atI_nat (by rw [hw.2 k hk, hv])
/-! all readings -/
theorem readings_ok {fields many : Nat} (hf : fields ≤ 5) (hm : many ≤ 4) (hp : many ^ fields ≤ 2000 ∨ True) : W (s_law_readings_of (fields : Int) (rngL 0 many)) fun rs => ∀ r ∈ rs, r.length = fields ∧ ∀ x ∈ r, 0 ≤ x ∧ x < many := by
  unfold s_law_readings_of
  rw [obs, rngO_n (by omega), obs]
  refine W.bind (foldO_rng (fun i (rs : List (List Int)) => rs.length = many ^ i ∧ ∀ r ∈ rs, r.length = i ∧ ∀ x ∈ r, 0 ≤ x ∧ x < (many : Int)) ?_ ⟨rfl, fun r hr => by rw [List.mem_singleton.mp hr]; exact ⟨rfl, fun _ h => nomatch h⟩⟩) fun rs hrs => ⟨_, rfl, hrs.2⟩
  rintro i rs hi ⟨h1, h2⟩
  have pb : many ^ i ≤ 4 ^ 5 := Nat.le_trans (Nat.pow_le_pow_left hm i) (Nat.pow_le_pow_right (by omega) (by omega))
  have pb2 : (4 : Nat) ^ 5 = 1024 := rfl
  rw [obs]
  refine W.bind (foldO_W _ (fun j (ls : List (List Int)) => ls.length = j * many ∧ ∀ r ∈ ls, r.length = i + 1 ∧ ∀ x ∈ r, 0 ≤ x ∧ x < (many : Int)) ?_ _ ⟨by simp, fun _ h => nomatch h⟩) fun ls hls => ⟨_, rfl, by rw [hls.1, h1, Nat.pow_succ], hls.2⟩
  rintro j r ls hj ⟨h3, h4⟩
  have hr := h2 r (List.mem_of_getElem? hj)
  have hjl := (List.getElem?_eq_some_iff.mp hj).1
  rw [obs, lcM_eqm (g := fun x => r ++ [x]) (fun x hx => by rw [catO_of (by simp; omega), obs]) (by rw [rngL_len]; omega), obs]
  have jb : j * many ≤ 1024 * 4 := Nat.mul_le_mul (by omega) hm
  rw [catO_of (by simp [rngL_len]; omega), obs]
  refine ⟨_, rfl, by simp [rngL_len, h3, Nat.succ_mul], fun q hq => ?_⟩
  rcases List.mem_append.mp hq with z | z
  · exact h4 q z
  · obtain ⟨x, hx, rfl⟩ := List.mem_map.mp z
    have hx' := mem_rngL.mp hx
    refine ⟨by simp [hr.1], fun y hy => ?_⟩
    rcases List.mem_append.mp hy with w | w
    · exact hr.2 y w
    · rw [List.mem_singleton.mp w]; omega
end
end K45

namespace K45
noncomputable section
open PySem L2 Ev Rf Lc
theorem sdts_of {xs : List Ev.D} (h : ∀ x ∈ xs, sdt x = true) : sdts xs = true := by
  induction xs with
  | nil => rfl
  | cons x xs ih => simp only [sdts, h x List.mem_cons_self, ih fun y hy => h y (List.mem_cons_of_mem _ hy), Bool.and_self]
theorem row_sd (r : Row) (h : r.es.length < 1000000) (k : Nat) : sdt (eX r.x) = true ∧ SD (k + 2) (eX r.x) := by
  cases r with
  | test f es =>
    refine ⟨?_, (by decide : 3 < 1000000), fun x hx => ?_⟩
    · show sdts [eS _, eI f, eT eI _] = true
      refine sdts_of fun x hx => ?_
      simp only [List.mem_cons, List.not_mem_nil, or_false] at hx
      rcases hx with rfl | rfl | rfl
      · rfl
      · rfl
      · show sdts _ = true
        refine sdts_of fun y hy => ?_
        obtain ⟨z, _, rfl⟩ := List.mem_map.mp hy
        rfl
    · simp only [List.mem_cons, List.not_mem_nil, or_false] at hx
      rcases hx with rfl | rfl | rfl
      · trivial
      · trivial
      · refine ⟨by simpa [Row.es] using h, fun y hy => ?_⟩
        obtain ⟨z, _, rfl⟩ := List.mem_map.mp hy
        show SD k (.int z)
        cases k <;> trivial
  | never => exact ⟨rfl, (by decide : 1 < 1000000), fun x hx => by rw [List.mem_singleton.mp hx]; trivial⟩
  | tell w =>
    refine ⟨rfl, (by decide : 2 < 1000000), fun x hx => ?_⟩
    simp only [List.mem_cons, List.not_mem_nil, or_false] at hx
    rcases hx with rfl | rfl <;> trivial
theorem rows_same {rs : List Row} (hl : rs.length < 1000000) (h : ∀ r ∈ rs, r.es.length < 1000000) : s_law_same 6 (eL eX (rs.map Row.x)) (eL eX (rs.map Row.x)) = some true := by
  rw [same_eq 5 _ _ ?_ ?_]
  · simp
  · show sdts _ = true
    refine sdts_of fun x hx => ?_
    obtain ⟨y, hy, rfl⟩ := List.mem_map.mp hx
    obtain ⟨r, hr, rfl⟩ := List.mem_map.mp hy
    exact (row_sd r (h r hr) 0).1
  · refine ⟨by simpa using hl, fun x hx => ?_⟩
    obtain ⟨y, hy, rfl⟩ := List.mem_map.mp hx
    obtain ⟨r, hr, rfl⟩ := List.mem_map.mp hy
    exact (row_sd r (h r hr) 2).2
theorem ans_int (rs : List Row) (a : Nat) : ∃ w, ans rs a = iX w := by
  unfold ans
  split
  · exact ⟨_, rfl⟩
  · exact ⟨_, rfl⟩
theorem pair_same (rs : List Row) (a : Nat) (t : Int) : s_law_same 6 (eP2 eX eI (ans rs a, t)) (eP2 eX eI (ans rs a, t)) = some true := by
  obtain ⟨w, hw⟩ := ans_int rs a
  rw [hw, same_eq 5 _ _ rfl ?_]
  · simp
  · refine ⟨(by decide : 2 < 1000000), fun x hx => ?_⟩
    simp only [List.mem_cons, List.not_mem_nil, or_false] at hx
    rcases hx with rfl | rfl <;> trivial
theorem ok_mv {many fields : Nat} {rs : List Row} (g : Good many rs) (ff : FF (fields : Int) rs) {first stretch : Nat} {rd wide : List Int} (hl : rd.length = fields) (hb : ∀ x ∈ rd, 0 ≤ x ∧ x < (many : Int))
    (hw : ∀ k : Nat, k < rd.length → ∀ v, rd[k]? = some v → atI wide ((first : Int) + (stretch : Int) * (k : Int)) = some v) : Ok (rs.map (Row.mv (first : Int) (stretch : Int))) wide := by
  intro a f es h
  rw [List.getElem?_map] at h
  cases hr : rs[a]? with
  | none => rw [hr] at h; cases h
  | some r =>
    rw [hr] at h
    cases r with
    | never => cases h
    | tell w => cases h
    | test f0 es0 =>
      cases h
      have hf := ff _ (List.mem_of_getElem? hr) f0 es rfl
      have hfn : f0.toNat < rd.length := by omega
      have hv : rd[f0.toNat]? = some rd[f0.toNat] := List.getElem?_eq_getElem hfn
      have h1 := hw f0.toNat hfn _ hv
      rw [Int.toNat_of_nonneg hf.1] at h1
      have h2 := hb _ (List.mem_of_getElem? hv)
      have h3 : (rd[f0.toNat]).toNat < es.length := by rw [g.len a f0 es hr]; omega
      have h4 : es[(rd[f0.toNat]).toNat]? = some es[(rd[f0.toNat]).toNat] := List.getElem?_eq_getElem h3
      refine ⟨_, _, h1, h2.1, h4, ?_⟩
      rw [List.length_map]
      exact (g.up a _ (by rw [ends_es hr]; exact List.mem_of_getElem? h4)).2
theorem law_true (script : List Int) : s_law script = some true := by
  refine W.iff.mp ?_
  unfold s_law
  obtain ⟨ds, hds, hd⟩ := draws_ok script (count := 70) (by omega)
  rw [show (70 : Int) = ((70 : Nat) : Int) from rfl, hds, obs]
  have AT : ∀ k : Int, 0 ≤ k ∧ k < 70 → W (atI ds k) fun x => 0 ≤ x ∧ x < 1000 := fun k hk => W_at hk.1 (by rw [hd.1]; omega) hd.2
  refine W.bind (AT 1 (by omega)) fun x1 b1 => ?_
  rw [obs]
  obtain ⟨m, hm, hm2⟩ : ∃ m : Nat, 2 + x1 % 3 = (m : Int) ∧ 2 ≤ m ∧ m ≤ 4 := ⟨(2 + x1 % 3).toNat, by omega, by omega, by omega⟩
  rw [hm]
  refine W.bind (AT 2 (by omega)) fun x2 b2 => ?_
  refine W.bind (P := fun x3 : Int => 1 ≤ x3 ∧ x3 ≤ 5) (W_at (by omega) (by simp; omega) (by decide)) fun x3 b3 => ?_
  rw [modO_of (by omega), obs, obs]
  have q0 := Int.emod_nonneg x2 (show x3 ≠ 0 by omega)
  have q1 := Int.emod_lt_of_pos x2 (show 0 < x3 by omega)
  obtain ⟨fl, hfl, hfl2⟩ : ∃ fl : Nat, 1 + x2 % x3 = (fl : Int) ∧ 1 ≤ fl ∧ fl ≤ 5 := ⟨(1 + x2 % x3).toNat, by omega, by omega, by omega⟩
  rw [hfl]
  refine W.bind (AT 5 (by omega)) fun x4 b4 => ?_
  obtain ⟨fst, hfst, hfst2⟩ : ∃ fst : Nat, x4 % 6 = (fst : Int) ∧ fst ≤ 5 := ⟨(x4 % 6).toNat, by omega, by omega⟩
  rw [obs, hfst]
  refine W.bind (AT 6 (by omega)) fun x5 b5 => ?_
  refine W.bind (P := fun s1 : Int => 1 ≤ s1 ∧ s1 ≤ 24) (W.ite (fun _ => W.bind (AT 6 (by omega)) fun x6 b6 => by rw [obs]; exact ⟨_, rfl, by omega, by omega⟩) fun _ => ⟨_, rfl, by omega, by omega⟩) fun s1 bs1 => ?_
  obtain ⟨stc, hstc, hstc2⟩ : ∃ stc : Nat, s1 = (stc : Int) ∧ 1 ≤ stc ∧ stc ≤ 24 := ⟨s1.toNat, by omega, by omega, by omega⟩
  subst hstc
  refine W.bind (AT 0 (by omega)) fun x7 b7 => ?_
  rw [obs]
  refine W.bind (AT 3 (by omega)) fun x8 b8 => ?_
  refine W.bind (drawn_ok hd hm2 (by omega) _) fun r2 ⟨rs2, e2, I2⟩ => ?_
  subst e2
  refine W.bind (AT 4 (by omega)) fun x9 b9 => ?_
  obtain ⟨c7, hc7, hc7b⟩ : ∃ c7 : Nat, 1 + x9 % 7 = (c7 : Int) ∧ 1 ≤ c7 ∧ c7 ≤ 30 := ⟨(1 + x9 % 7).toNat, by omega, by omega, by omega⟩
  rw [hc7]
  refine W.bind (hand_ok hd hm2 (by omega) hc7b) fun r3 ⟨rs3, e3, g3, f3, l3⟩ => ?_
  subst e3
  rw [size_ok g3 (by omega) hm2.2, obs]
  refine W.bind (P := fun c => c = true → sz rs3 0 ≤ 300) (W.ite (fun _ => ⟨_, rfl, fun z => by have := of_decide_eq_true z; omega⟩) fun _ => ⟨_, rfl, fun z => by cases z⟩) fun c hc => ?_
  refine W.bind (P := fun s2 : List DI => ∃ rs, s2 = rs.map Row.x ∧ Good m rs ∧ FF (fl : Int) rs ∧ rs.length ≤ 70 ∧ sz rs 0 ≤ 300) (W.ite (fun h => ⟨_, rfl, rs3, rfl, g3, f3, by omega, hc h⟩) fun _ => ⟨_, rfl, rs2, rfl, I2.good, I2.ff, by have := I2.ln; omega, by have := I2.ln; have := I2.size; omega⟩) fun s2 ⟨rs, es2, g, ff, ln, sz300⟩ => ?_
  subst es2
  rw [moved_ok (by omega) ff (by omega), obs]
  refine W.bind (AT 4 (by omega)) fun x10 b10 => ?_
  obtain ⟨c30, hc30, hc30b⟩ : ∃ c30 : Nat, 1 + x10 % 30 = (c30 : Int) ∧ 1 ≤ c30 ∧ c30 ≤ 30 := ⟨(1 + x10 % 30).toNat, by omega, by omega, by omega⟩
  rw [hc30]
  refine W.bind (hand_ok hd hm2 (by omega) hc30b) fun r6 ⟨rs6, e6, g6, f6, l6⟩ => ?_
  subst e6
  rw [moved_ok (by omega) f6 (by omega), obs]
  have gR : Good m (rs.map (Row.mv (fst : Int) (stc : Int))) := mv_good g
  have gH : Good m (rs6.map (Row.mv (fst : Int) (stc : Int))) := mv_good g6
  have szR : sz (rs.map (Row.mv (fst : Int) (stc : Int))) 0 ≤ 300 := by
    have : sz (rs.map (Row.mv (fst : Int) (stc : Int))) 0 = sz rs 0 := by unfold sz; rw [List.length_map]; exact mv_sz _ _
    omega
  have lnR : (rs.map (Row.mv (fst : Int) (stc : Int))).length ≤ 70 := by rw [List.length_map]; exact ln
  have lnH : (rs6.map (Row.mv (fst : Int) (stc : Int))).length ≤ 30 := by rw [List.length_map]; omega
  have okR : ∀ {rd wide : List Int}, rd.length = fl → (∀ x ∈ rd, 0 ≤ x ∧ x < (m : Int)) → (∀ k : Nat, k < rd.length → ∀ v, rd[k]? = some v → atI wide ((fst : Int) + (stc : Int) * (k : Int)) = some v) → Ok (rs.map (Row.mv (fst : Int) (stc : Int))) wide := fun a b c => ok_mv g ff a b c
  have okH : ∀ {rd wide : List Int}, rd.length = fl → (∀ x ∈ rd, 0 ≤ x ∧ x < (m : Int)) → (∀ k : Nat, k < rd.length → ∀ v, rd[k]? = some v → atI wide ((fst : Int) + (stc : Int) * (k : Int)) = some v) → Ok (rs6.map (Row.mv (fst : Int) (stc : Int))) wide := fun a b c => ok_mv g6 f6 a b c
  generalize rs.map (Row.mv (fst : Int) (stc : Int)) = R at gR szR lnR okR ⊢
  generalize rs6.map (Row.mv (fst : Int) (stc : Int)) = Hh at gH lnH okH ⊢
  rw [tree_ok gR (by omega) hm2.2, obs, listed_ok gR hm2.2 (by omega) (by omega), obs, rows_of_ok gR hm2.2 (by omega) (by omega), obs]
  have I := inv_itr gR 1000 (inv0 gR)
  have he : (itr R 1000 s0).stack = [] := itr_end gR 1000 (inv0 gR) (by have := (inv0 gR).T; simp only [s0, List.length_nil] at this ⊢; omega)
  generalize itr R 1000 s0 = s at I he ⊢
  have lenN : s.nodes.length ≤ 300 := by have := I.T; omega
  have posN : 0 < s.nodes.length := by
    have := I.T
    rw [he] at this
    have hp := sz_pos gR gR.pos
    simp [tot] at this
    omega
  have sm := rows_same (rs := lrows R s) (by rw [lrows_len]; omega) fun r hr => by
    unfold lrows at hr
    obtain ⟨i, hi, rfl⟩ := List.mem_map.mp hr
    have := es_len gR I (List.mem_range.mp hi)
    unfold lrow
    split
    · show (s.es.getD i []).length < 1000000; omega
    · rename_i r' hr'
      have h2 := ends_len gR (s.nodes.getD i 0)
      rw [ends_es hr'] at h2
      omega
    · show 0 < 1000000; omega
  have hset : ∀ (l : List DI) (v : DI), 0 < l.length → setO l 0 v = some (l.set 0 v) := fun l v h => setO_n (k := 0) h
  rw [sm, obs, if_neg (by decide), appO_of (by simp [lrows_len]; omega), obs, hset _ _ (by simp), obs, obs, sm, obs, if_neg (by decide), rngO_n (by omega), obs, szO_of (by rw [rngL_len]; omega), obs]
  refine W.bind (readings_ok hfl2.2 hm2.2 (.inr trivial)) fun rds hrds => ?_
  have hb : ∀ rd ∈ rds, ((fun (reading : List Int) (s3 : Unit) =>
    (s_law_wide reading (fst : Int) (stc : Int)).bind fun r15 =>
    (s_law_run (R.map Row.x) r15).bind fun r16 =>
    (s_law_run (Hh.map Row.x) r15).bind fun r17 =>
    (s_run_rows ((lrows R s).map Row.x) r15).bind fun r18 =>
    (s_law_same 6 ((eP2 eX eI) r18) ((eP2 eX eI) r16)).bind fun r19 =>
    (if (!r19) = true then some true else (s_run_rows_2 ((lrows R s).map Row.x) r15).bind fun r20 => (s_law_same 6 ((eP2 eX eI) r20) ((eP2 eX eI) r16)).bind fun r21 => some (!r21)).bind fun c1 =>
    if c1 = true then some (Lo.ex false : Lo Unit Bool) else
    (s_run_rows (Hh.map Row.x) r15).bind fun r22 =>
    (s_law_same 6 ((eP2 eX eI) r22) ((eP2 eX eI) r17)).bind fun r23 =>
    (if (!r23) = true then some true else (s_run_rows_2 (Hh.map Row.x) r15).bind fun r24 => (s_law_same 6 ((eP2 eX eI) r24) ((eP2 eX eI) r17)).bind fun r25 => some (!r25)).bind fun c2 =>
    if c2 = true then some (Lo.ex false) else
    some (Lo.nx ())) rd () : Option (Lo Unit Bool)) = some (Lo.nx ()) := fun rd hrd => by
    obtain ⟨l1, l2⟩ := hrds rd hrd
    obtain ⟨wide, hw, hw2⟩ := wide_ok (rd := rd) (first := fst) (stretch := stc) (by omega) (by omega) (by omega)
    have oR := okR l1 l2 hw2
    have oH := okH l1 l2 hw2
    simp only [run_rows_2]
    rw [hw, obs, law_run_ok oR gR.pos (by omega), obs, law_run_ok oH gH.pos (by omega), obs, due_run gR I he posN oR, obs, pair_same, obs, if_neg (by decide), obs, pair_same, obs, obs, if_neg (by decide), run_rows_ok oH gH.pos (m := Hh.length) (leaf_good gH oH _ 0 0 gH.pos (by omega)), obs, pair_same, obs, if_neg (by decide), obs, pair_same, obs, obs, if_neg (by decide)]
  obtain ⟨s', h1, _⟩ := loopM_nx rds (fun _ _ => True) (fun i rd u hrd _ => ⟨(), hb rd (List.mem_of_getElem? hrd), trivial⟩) () trivial
  refine ⟨true, ?_, rfl⟩
  refine (congrArg (Option.bind · _) h1).trans ?_
  rw [obs]
  show ((s_law_same 6 ((eL eX) (Hh.map Row.x)) ((eL eX) (Hh.map Row.x))).bind fun r26 => some r26) = some true
  rw [rows_same (by omega) fun r hr => by
    obtain ⟨k, hk⟩ := List.mem_iff_getElem?.mp hr
    have h2 := ends_len gH k
    rw [ends_es hk] at h2
    omega, obs]
end
end K45

namespace K45
open PySem L2 Rf
def top (i : Nat) : Stmt := PySem.Challenge.pw_readwhilechanged_k45_rows_of_trees_run.main.body.getD i (.Pass ⟨0, 0, 0, 0⟩)
abbrev z_rows_of : Stmt := top 1
theorem m_rows_of : Ev.mSs ⟨nms, N_rows_of, defScope z_rows_of, fun _ => true⟩ b_rows_of (defBody z_rows_of) = true := by decide +kernel
theorem sc_rows_of : FnScope N_rows_of ["tree"] (defScope z_rows_of) := ⟨rfl, rfl, rfl, by decide +kernel, rfl, by decide +kernel, by decide +kernel⟩
abbrev z_run_rows : Stmt := top 2
theorem m_run_rows : Ev.mSs ⟨nms, N_run_rows, defScope z_run_rows, fun _ => true⟩ b_run_rows (defBody z_run_rows) = true := by decide +kernel
theorem sc_run_rows : FnScope N_run_rows ["rows", "reading"] (defScope z_run_rows) := ⟨rfl, rfl, rfl, by decide +kernel, rfl, by decide +kernel, by decide +kernel⟩
abbrev z_law_draws : Stmt := top 4
theorem m_law_draws : Ev.mSs ⟨nms, N_law_draws, defScope z_law_draws, fun _ => true⟩ b_law_draws (defBody z_law_draws) = true := by decide +kernel
theorem sc_law_draws : FnScope N_law_draws ["script", "count"] (defScope z_law_draws) := ⟨rfl, rfl, rfl, by decide +kernel, rfl, by decide +kernel, by decide +kernel⟩
abbrev z_law_same : Stmt := top 5
theorem m_law_same : Ev.mSs ⟨nms, N_law_same, defScope z_law_same, fun _ => true⟩ b_law_same (defBody z_law_same) = true := by decide +kernel
theorem sc_law_same : FnScope N_law_same ["told", "due"] (defScope z_law_same) := ⟨rfl, rfl, rfl, by decide +kernel, rfl, by decide +kernel, by decide +kernel⟩
abbrev z_law_same_rows : Stmt := top 6
theorem m_law_same_rows : Ev.mSs ⟨nms, N_law_same_rows, defScope z_law_same_rows, fun _ => true⟩ b_law_same_rows (defBody z_law_same_rows) = true := by decide +kernel
theorem sc_law_same_rows : FnScope N_law_same_rows ["told", "due"] (defScope z_law_same_rows) := ⟨rfl, rfl, rfl, by decide +kernel, rfl, by decide +kernel, by decide +kernel⟩
abbrev z_law_readings_of : Stmt := top 7
theorem m_law_readings_of : Ev.mSs ⟨nms, N_law_readings_of, defScope z_law_readings_of, fun _ => true⟩ b_law_readings_of (defBody z_law_readings_of) = true := by decide +kernel
theorem sc_law_readings_of : FnScope N_law_readings_of ["fields", "entries"] (defScope z_law_readings_of) := ⟨rfl, rfl, rfl, by decide +kernel, rfl, by decide +kernel, by decide +kernel⟩
abbrev z_law_tree_of : Stmt := top 8
theorem m_law_tree_of : Ev.mSs ⟨nms, N_law_tree_of, defScope z_law_tree_of, fun _ => true⟩ b_law_tree_of (defBody z_law_tree_of) = true := by decide +kernel
theorem sc_law_tree_of : FnScope N_law_tree_of ["rows"] (defScope z_law_tree_of) := ⟨rfl, rfl, rfl, by decide +kernel, rfl, by decide +kernel, by decide +kernel⟩
abbrev z_law_listed : Stmt := top 9
theorem m_law_listed : Ev.mSs ⟨nms, N_law_listed, defScope z_law_listed, fun _ => true⟩ b_law_listed (defBody z_law_listed) = true := by decide +kernel
theorem sc_law_listed : FnScope N_law_listed ["rows"] (defScope z_law_listed) := ⟨rfl, rfl, rfl, by decide +kernel, rfl, by decide +kernel, by decide +kernel⟩
abbrev z_law_run : Stmt := top 10
theorem m_law_run : Ev.mSs ⟨nms, N_law_run, defScope z_law_run, fun _ => true⟩ b_law_run (defBody z_law_run) = true := by decide +kernel
theorem sc_law_run : FnScope N_law_run ["rows", "reading"] (defScope z_law_run) := ⟨rfl, rfl, rfl, by decide +kernel, rfl, by decide +kernel, by decide +kernel⟩
abbrev z_law_drawn_rows : Stmt := top 11
theorem m_law_drawn_rows : Ev.mSs ⟨nms, N_law_drawn_rows, defScope z_law_drawn_rows, fun _ => true⟩ b_law_drawn_rows (defBody z_law_drawn_rows) = true := by decide +kernel
theorem sc_law_drawn_rows : FnScope N_law_drawn_rows ["draws", "many", "fields", "deep", "chain"] (defScope z_law_drawn_rows) := ⟨rfl, rfl, rfl, by decide +kernel, rfl, by decide +kernel, by decide +kernel⟩
abbrev z_law_hand_rows : Stmt := top 12
theorem m_law_hand_rows : Ev.mSs ⟨nms, N_law_hand_rows, defScope z_law_hand_rows, fun _ => true⟩ b_law_hand_rows (defBody z_law_hand_rows) = true := by decide +kernel
theorem sc_law_hand_rows : FnScope N_law_hand_rows ["draws", "many", "fields", "count"] (defScope z_law_hand_rows) := ⟨rfl, rfl, rfl, by decide +kernel, rfl, by decide +kernel, by decide +kernel⟩
abbrev z_law_size : Stmt := top 13
theorem m_law_size : Ev.mSs ⟨nms, N_law_size, defScope z_law_size, fun _ => true⟩ b_law_size (defBody z_law_size) = true := by decide +kernel
theorem sc_law_size : FnScope N_law_size ["rows"] (defScope z_law_size) := ⟨rfl, rfl, rfl, by decide +kernel, rfl, by decide +kernel, by decide +kernel⟩
abbrev z_law_moved : Stmt := top 14
theorem m_law_moved : Ev.mSs ⟨nms, N_law_moved, defScope z_law_moved, fun _ => true⟩ b_law_moved (defBody z_law_moved) = true := by decide +kernel
theorem sc_law_moved : FnScope N_law_moved ["rows", "first", "stretch"] (defScope z_law_moved) := ⟨rfl, rfl, rfl, by decide +kernel, rfl, by decide +kernel, by decide +kernel⟩
abbrev z_law_wide : Stmt := top 15
theorem m_law_wide : Ev.mSs ⟨nms, N_law_wide, defScope z_law_wide, fun _ => true⟩ b_law_wide (defBody z_law_wide) = true := by decide +kernel
theorem sc_law_wide : FnScope N_law_wide ["reading", "first", "stretch"] (defScope z_law_wide) := ⟨rfl, rfl, rfl, by decide +kernel, rfl, by decide +kernel, by decide +kernel⟩
abbrev z_law : Stmt := top 16
theorem m_law : Ev.mSs ⟨nms, N_law, defScope z_law, fun _ => true⟩ b_law (defBody z_law) = true := by decide +kernel
theorem sc_law : FnScope N_law ["script"] (defScope z_law) := ⟨rfl, rfl, rfl, by decide +kernel, rfl, by decide +kernel, by decide +kernel⟩
section
variable {K : PySem.W.Frag} {mg : Str → Option Value}
theorem d_rows_of {h : Heap} (X : K.In h) (G : h.Ns mainGlobals mg) {f : Addr} {od an : Option Addr} {sl : Array (Option Value)} {oc kV dc pm cd ct : Value} (a1 : PySem.W.nsIn K mainGlobals "rows_of" = some (some (.ref f)))
    (l1 : K.lookup f = some ⟨oc, od, .func (PySem.W.fnOf "rows_of" "rows_of" (defArgs z_rows_of) (defBody z_rows_of) (defScope z_rows_of) .none kV dc pm an cd ct), sl⟩) (c1 : PySem.W.codeIn K cd "rows_of" = true) (k1 : PySem.W.keepIn K (.ref f) = true) :
    ∃ fd, (∀ (s : Shared) (us : List Value), us.length = 1 → BindsTo s fd ⟨us, []⟩ (List.zip ["tree"] us)) ∧ Ev.DefOk K mg nms f_rows_of "rows_of" f fd ["tree"] := by
  have F := fun_mk (st := z_rows_of) l1 c1 k1
  have B := F.binds (ps := ["tree"]) fun _ _ _ _ _ _ us hl => match us, hl with | [_], _ => rfl
  exact ⟨_, fun s us hl => .of_eq (match us, hl with | [_], _ => rfl), ⟨⟨_, z_rows_of, N_rows_of, F, sc_rows_of, rfl, m_rows_of⟩, rfl, by decide, by decide, by decide, PySem.W.mg_of X G a1, B⟩⟩
theorem d_run_rows {h : Heap} (X : K.In h) (G : h.Ns mainGlobals mg) {f : Addr} {od an : Option Addr} {sl : Array (Option Value)} {oc kV dc pm cd ct : Value} (a1 : PySem.W.nsIn K mainGlobals "run_rows" = some (some (.ref f)))
    (l1 : K.lookup f = some ⟨oc, od, .func (PySem.W.fnOf "run_rows" "run_rows" (defArgs z_run_rows) (defBody z_run_rows) (defScope z_run_rows) .none kV dc pm an cd ct), sl⟩) (c1 : PySem.W.codeIn K cd "run_rows" = true) (k1 : PySem.W.keepIn K (.ref f) = true) :
    ∃ fd, (∀ (s : Shared) (us : List Value), us.length = 2 → BindsTo s fd ⟨us, []⟩ (List.zip ["rows", "reading"] us)) ∧ Ev.DefOk K mg nms f_run_rows "run_rows" f fd ["rows", "reading"] := by
  have F := fun_mk (st := z_run_rows) l1 c1 k1
  have B := F.binds (ps := ["rows", "reading"]) fun _ _ _ _ _ _ us hl => match us, hl with | [_, _], _ => rfl
  exact ⟨_, fun s us hl => .of_eq (match us, hl with | [_, _], _ => rfl), ⟨⟨_, z_run_rows, N_run_rows, F, sc_run_rows, rfl, m_run_rows⟩, rfl, by decide, by decide, by decide, PySem.W.mg_of X G a1, B⟩⟩
theorem d_law_draws {h : Heap} (X : K.In h) (G : h.Ns mainGlobals mg) {f : Addr} {od an : Option Addr} {sl : Array (Option Value)} {oc kV dc pm cd ct : Value} (a1 : PySem.W.nsIn K mainGlobals "_law_draws" = some (some (.ref f)))
    (l1 : K.lookup f = some ⟨oc, od, .func (PySem.W.fnOf "_law_draws" "_law_draws" (defArgs z_law_draws) (defBody z_law_draws) (defScope z_law_draws) .none kV dc pm an cd ct), sl⟩) (c1 : PySem.W.codeIn K cd "_law_draws" = true) (k1 : PySem.W.keepIn K (.ref f) = true) :
    ∃ fd, (∀ (s : Shared) (us : List Value), us.length = 2 → BindsTo s fd ⟨us, []⟩ (List.zip ["script", "count"] us)) ∧ Ev.DefOk K mg nms f_law_draws "_law_draws" f fd ["script", "count"] := by
  have F := fun_mk (st := z_law_draws) l1 c1 k1
  have B := F.binds (ps := ["script", "count"]) fun _ _ _ _ _ _ us hl => match us, hl with | [_, _], _ => rfl
  exact ⟨_, fun s us hl => .of_eq (match us, hl with | [_, _], _ => rfl), ⟨⟨_, z_law_draws, N_law_draws, F, sc_law_draws, rfl, m_law_draws⟩, rfl, by decide, by decide, by decide, PySem.W.mg_of X G a1, B⟩⟩
theorem d_law_same {h : Heap} (X : K.In h) (G : h.Ns mainGlobals mg) {f : Addr} {od an : Option Addr} {sl : Array (Option Value)} {oc kV dc pm cd ct : Value} (a1 : PySem.W.nsIn K mainGlobals "_law_same" = some (some (.ref f)))
    (l1 : K.lookup f = some ⟨oc, od, .func (PySem.W.fnOf "_law_same" "_law_same" (defArgs z_law_same) (defBody z_law_same) (defScope z_law_same) .none kV dc pm an cd ct), sl⟩) (c1 : PySem.W.codeIn K cd "_law_same" = true) (k1 : PySem.W.keepIn K (.ref f) = true) :
    ∃ fd, (∀ (s : Shared) (us : List Value), us.length = 2 → BindsTo s fd ⟨us, []⟩ (List.zip ["told", "due"] us)) ∧ Ev.DefOk K mg nms f_law_same "_law_same" f fd ["told", "due"] := by
  have F := fun_mk (st := z_law_same) l1 c1 k1
  have B := F.binds (ps := ["told", "due"]) fun _ _ _ _ _ _ us hl => match us, hl with | [_, _], _ => rfl
  exact ⟨_, fun s us hl => .of_eq (match us, hl with | [_, _], _ => rfl), ⟨⟨_, z_law_same, N_law_same, F, sc_law_same, rfl, m_law_same⟩, rfl, by decide, by decide, by decide, PySem.W.mg_of X G a1, B⟩⟩
theorem d_law_same_rows {h : Heap} (X : K.In h) (G : h.Ns mainGlobals mg) {f : Addr} {od an : Option Addr} {sl : Array (Option Value)} {oc kV dc pm cd ct : Value} (a1 : PySem.W.nsIn K mainGlobals "_law_same_rows" = some (some (.ref f)))
    (l1 : K.lookup f = some ⟨oc, od, .func (PySem.W.fnOf "_law_same_rows" "_law_same_rows" (defArgs z_law_same_rows) (defBody z_law_same_rows) (defScope z_law_same_rows) .none kV dc pm an cd ct), sl⟩) (c1 : PySem.W.codeIn K cd "_law_same_rows" = true) (k1 : PySem.W.keepIn K (.ref f) = true) :
    ∃ fd, (∀ (s : Shared) (us : List Value), us.length = 2 → BindsTo s fd ⟨us, []⟩ (List.zip ["told", "due"] us)) ∧ Ev.DefOk K mg nms f_law_same_rows "_law_same_rows" f fd ["told", "due"] := by
  have F := fun_mk (st := z_law_same_rows) l1 c1 k1
  have B := F.binds (ps := ["told", "due"]) fun _ _ _ _ _ _ us hl => match us, hl with | [_, _], _ => rfl
  exact ⟨_, fun s us hl => .of_eq (match us, hl with | [_, _], _ => rfl), ⟨⟨_, z_law_same_rows, N_law_same_rows, F, sc_law_same_rows, rfl, m_law_same_rows⟩, rfl, by decide, by decide, by decide, PySem.W.mg_of X G a1, B⟩⟩
theorem d_law_readings_of {h : Heap} (X : K.In h) (G : h.Ns mainGlobals mg) {f : Addr} {od an : Option Addr} {sl : Array (Option Value)} {oc kV dc pm cd ct : Value} (a1 : PySem.W.nsIn K mainGlobals "_law_readings_of" = some (some (.ref f)))
    (l1 : K.lookup f = some ⟨oc, od, .func (PySem.W.fnOf "_law_readings_of" "_law_readings_of" (defArgs z_law_readings_of) (defBody z_law_readings_of) (defScope z_law_readings_of) .none kV dc pm an cd ct), sl⟩) (c1 : PySem.W.codeIn K cd "_law_readings_of" = true) (k1 : PySem.W.keepIn K (.ref f) = true) :
    ∃ fd, (∀ (s : Shared) (us : List Value), us.length = 2 → BindsTo s fd ⟨us, []⟩ (List.zip ["fields", "entries"] us)) ∧ Ev.DefOk K mg nms f_law_readings_of "_law_readings_of" f fd ["fields", "entries"] := by
  have F := fun_mk (st := z_law_readings_of) l1 c1 k1
  have B := F.binds (ps := ["fields", "entries"]) fun _ _ _ _ _ _ us hl => match us, hl with | [_, _], _ => rfl
  exact ⟨_, fun s us hl => .of_eq (match us, hl with | [_, _], _ => rfl), ⟨⟨_, z_law_readings_of, N_law_readings_of, F, sc_law_readings_of, rfl, m_law_readings_of⟩, rfl, by decide, by decide, by decide, PySem.W.mg_of X G a1, B⟩⟩
theorem d_law_tree_of {h : Heap} (X : K.In h) (G : h.Ns mainGlobals mg) {f : Addr} {od an : Option Addr} {sl : Array (Option Value)} {oc kV dc pm cd ct : Value} (a1 : PySem.W.nsIn K mainGlobals "_law_tree_of" = some (some (.ref f)))
    (l1 : K.lookup f = some ⟨oc, od, .func (PySem.W.fnOf "_law_tree_of" "_law_tree_of" (defArgs z_law_tree_of) (defBody z_law_tree_of) (defScope z_law_tree_of) .none kV dc pm an cd ct), sl⟩) (c1 : PySem.W.codeIn K cd "_law_tree_of" = true) (k1 : PySem.W.keepIn K (.ref f) = true) :
    ∃ fd, (∀ (s : Shared) (us : List Value), us.length = 1 → BindsTo s fd ⟨us, []⟩ (List.zip ["rows"] us)) ∧ Ev.DefOk K mg nms f_law_tree_of "_law_tree_of" f fd ["rows"] := by
  have F := fun_mk (st := z_law_tree_of) l1 c1 k1
  have B := F.binds (ps := ["rows"]) fun _ _ _ _ _ _ us hl => match us, hl with | [_], _ => rfl
  exact ⟨_, fun s us hl => .of_eq (match us, hl with | [_], _ => rfl), ⟨⟨_, z_law_tree_of, N_law_tree_of, F, sc_law_tree_of, rfl, m_law_tree_of⟩, rfl, by decide, by decide, by decide, PySem.W.mg_of X G a1, B⟩⟩
theorem d_law_listed {h : Heap} (X : K.In h) (G : h.Ns mainGlobals mg) {f : Addr} {od an : Option Addr} {sl : Array (Option Value)} {oc kV dc pm cd ct : Value} (a1 : PySem.W.nsIn K mainGlobals "_law_listed" = some (some (.ref f)))
    (l1 : K.lookup f = some ⟨oc, od, .func (PySem.W.fnOf "_law_listed" "_law_listed" (defArgs z_law_listed) (defBody z_law_listed) (defScope z_law_listed) .none kV dc pm an cd ct), sl⟩) (c1 : PySem.W.codeIn K cd "_law_listed" = true) (k1 : PySem.W.keepIn K (.ref f) = true) :
    ∃ fd, (∀ (s : Shared) (us : List Value), us.length = 1 → BindsTo s fd ⟨us, []⟩ (List.zip ["rows"] us)) ∧ Ev.DefOk K mg nms f_law_listed "_law_listed" f fd ["rows"] := by
  have F := fun_mk (st := z_law_listed) l1 c1 k1
  have B := F.binds (ps := ["rows"]) fun _ _ _ _ _ _ us hl => match us, hl with | [_], _ => rfl
  exact ⟨_, fun s us hl => .of_eq (match us, hl with | [_], _ => rfl), ⟨⟨_, z_law_listed, N_law_listed, F, sc_law_listed, rfl, m_law_listed⟩, rfl, by decide, by decide, by decide, PySem.W.mg_of X G a1, B⟩⟩
theorem d_law_run {h : Heap} (X : K.In h) (G : h.Ns mainGlobals mg) {f : Addr} {od an : Option Addr} {sl : Array (Option Value)} {oc kV dc pm cd ct : Value} (a1 : PySem.W.nsIn K mainGlobals "_law_run" = some (some (.ref f)))
    (l1 : K.lookup f = some ⟨oc, od, .func (PySem.W.fnOf "_law_run" "_law_run" (defArgs z_law_run) (defBody z_law_run) (defScope z_law_run) .none kV dc pm an cd ct), sl⟩) (c1 : PySem.W.codeIn K cd "_law_run" = true) (k1 : PySem.W.keepIn K (.ref f) = true) :
    ∃ fd, (∀ (s : Shared) (us : List Value), us.length = 2 → BindsTo s fd ⟨us, []⟩ (List.zip ["rows", "reading"] us)) ∧ Ev.DefOk K mg nms f_law_run "_law_run" f fd ["rows", "reading"] := by
  have F := fun_mk (st := z_law_run) l1 c1 k1
  have B := F.binds (ps := ["rows", "reading"]) fun _ _ _ _ _ _ us hl => match us, hl with | [_, _], _ => rfl
  exact ⟨_, fun s us hl => .of_eq (match us, hl with | [_, _], _ => rfl), ⟨⟨_, z_law_run, N_law_run, F, sc_law_run, rfl, m_law_run⟩, rfl, by decide, by decide, by decide, PySem.W.mg_of X G a1, B⟩⟩
theorem d_law_drawn_rows {h : Heap} (X : K.In h) (G : h.Ns mainGlobals mg) {f : Addr} {od an : Option Addr} {sl : Array (Option Value)} {oc kV dc pm cd ct : Value} (a1 : PySem.W.nsIn K mainGlobals "_law_drawn_rows" = some (some (.ref f)))
    (l1 : K.lookup f = some ⟨oc, od, .func (PySem.W.fnOf "_law_drawn_rows" "_law_drawn_rows" (defArgs z_law_drawn_rows) (defBody z_law_drawn_rows) (defScope z_law_drawn_rows) .none kV dc pm an cd ct), sl⟩) (c1 : PySem.W.codeIn K cd "_law_drawn_rows" = true) (k1 : PySem.W.keepIn K (.ref f) = true) :
    ∃ fd, (∀ (s : Shared) (us : List Value), us.length = 5 → BindsTo s fd ⟨us, []⟩ (List.zip ["draws", "many", "fields", "deep", "chain"] us)) ∧ Ev.DefOk K mg nms f_law_drawn_rows "_law_drawn_rows" f fd ["draws", "many", "fields", "deep", "chain"] := by
  have F := fun_mk (st := z_law_drawn_rows) l1 c1 k1
  have B := F.binds (ps := ["draws", "many", "fields", "deep", "chain"]) fun _ _ _ _ _ _ us hl => match us, hl with | [_, _, _, _, _], _ => rfl
  exact ⟨_, fun s us hl => .of_eq (match us, hl with | [_, _, _, _, _], _ => rfl), ⟨⟨_, z_law_drawn_rows, N_law_drawn_rows, F, sc_law_drawn_rows, rfl, m_law_drawn_rows⟩, rfl, by decide, by decide, by decide, PySem.W.mg_of X G a1, B⟩⟩
theorem d_law_hand_rows {h : Heap} (X : K.In h) (G : h.Ns mainGlobals mg) {f : Addr} {od an : Option Addr} {sl : Array (Option Value)} {oc kV dc pm cd ct : Value} (a1 : PySem.W.nsIn K mainGlobals "_law_hand_rows" = some (some (.ref f)))
    (l1 : K.lookup f = some ⟨oc, od, .func (PySem.W.fnOf "_law_hand_rows" "_law_hand_rows" (defArgs z_law_hand_rows) (defBody z_law_hand_rows) (defScope z_law_hand_rows) .none kV dc pm an cd ct), sl⟩) (c1 : PySem.W.codeIn K cd "_law_hand_rows" = true) (k1 : PySem.W.keepIn K (.ref f) = true) :
    ∃ fd, (∀ (s : Shared) (us : List Value), us.length = 4 → BindsTo s fd ⟨us, []⟩ (List.zip ["draws", "many", "fields", "count"] us)) ∧ Ev.DefOk K mg nms f_law_hand_rows "_law_hand_rows" f fd ["draws", "many", "fields", "count"] := by
  have F := fun_mk (st := z_law_hand_rows) l1 c1 k1
  have B := F.binds (ps := ["draws", "many", "fields", "count"]) fun _ _ _ _ _ _ us hl => match us, hl with | [_, _, _, _], _ => rfl
  exact ⟨_, fun s us hl => .of_eq (match us, hl with | [_, _, _, _], _ => rfl), ⟨⟨_, z_law_hand_rows, N_law_hand_rows, F, sc_law_hand_rows, rfl, m_law_hand_rows⟩, rfl, by decide, by decide, by decide, PySem.W.mg_of X G a1, B⟩⟩
theorem d_law_size {h : Heap} (X : K.In h) (G : h.Ns mainGlobals mg) {f : Addr} {od an : Option Addr} {sl : Array (Option Value)} {oc kV dc pm cd ct : Value} (a1 : PySem.W.nsIn K mainGlobals "_law_size" = some (some (.ref f)))
    (l1 : K.lookup f = some ⟨oc, od, .func (PySem.W.fnOf "_law_size" "_law_size" (defArgs z_law_size) (defBody z_law_size) (defScope z_law_size) .none kV dc pm an cd ct), sl⟩) (c1 : PySem.W.codeIn K cd "_law_size" = true) (k1 : PySem.W.keepIn K (.ref f) = true) :
    ∃ fd, (∀ (s : Shared) (us : List Value), us.length = 1 → BindsTo s fd ⟨us, []⟩ (List.zip ["rows"] us)) ∧ Ev.DefOk K mg nms f_law_size "_law_size" f fd ["rows"] := by
  have F := fun_mk (st := z_law_size) l1 c1 k1
  have B := F.binds (ps := ["rows"]) fun _ _ _ _ _ _ us hl => match us, hl with | [_], _ => rfl
  exact ⟨_, fun s us hl => .of_eq (match us, hl with | [_], _ => rfl), ⟨⟨_, z_law_size, N_law_size, F, sc_law_size, rfl, m_law_size⟩, rfl, by decide, by decide, by decide, PySem.W.mg_of X G a1, B⟩⟩
theorem d_law_moved {h : Heap} (X : K.In h) (G : h.Ns mainGlobals mg) {f : Addr} {od an : Option Addr} {sl : Array (Option Value)} {oc kV dc pm cd ct : Value} (a1 : PySem.W.nsIn K mainGlobals "_law_moved" = some (some (.ref f)))
    (l1 : K.lookup f = some ⟨oc, od, .func (PySem.W.fnOf "_law_moved" "_law_moved" (defArgs z_law_moved) (defBody z_law_moved) (defScope z_law_moved) .none kV dc pm an cd ct), sl⟩) (c1 : PySem.W.codeIn K cd "_law_moved" = true) (k1 : PySem.W.keepIn K (.ref f) = true) :
    ∃ fd, (∀ (s : Shared) (us : List Value), us.length = 3 → BindsTo s fd ⟨us, []⟩ (List.zip ["rows", "first", "stretch"] us)) ∧ Ev.DefOk K mg nms f_law_moved "_law_moved" f fd ["rows", "first", "stretch"] := by
  have F := fun_mk (st := z_law_moved) l1 c1 k1
  have B := F.binds (ps := ["rows", "first", "stretch"]) fun _ _ _ _ _ _ us hl => match us, hl with | [_, _, _], _ => rfl
  exact ⟨_, fun s us hl => .of_eq (match us, hl with | [_, _, _], _ => rfl), ⟨⟨_, z_law_moved, N_law_moved, F, sc_law_moved, rfl, m_law_moved⟩, rfl, by decide, by decide, by decide, PySem.W.mg_of X G a1, B⟩⟩
theorem d_law_wide {h : Heap} (X : K.In h) (G : h.Ns mainGlobals mg) {f : Addr} {od an : Option Addr} {sl : Array (Option Value)} {oc kV dc pm cd ct : Value} (a1 : PySem.W.nsIn K mainGlobals "_law_wide" = some (some (.ref f)))
    (l1 : K.lookup f = some ⟨oc, od, .func (PySem.W.fnOf "_law_wide" "_law_wide" (defArgs z_law_wide) (defBody z_law_wide) (defScope z_law_wide) .none kV dc pm an cd ct), sl⟩) (c1 : PySem.W.codeIn K cd "_law_wide" = true) (k1 : PySem.W.keepIn K (.ref f) = true) :
    ∃ fd, (∀ (s : Shared) (us : List Value), us.length = 3 → BindsTo s fd ⟨us, []⟩ (List.zip ["reading", "first", "stretch"] us)) ∧ Ev.DefOk K mg nms f_law_wide "_law_wide" f fd ["reading", "first", "stretch"] := by
  have F := fun_mk (st := z_law_wide) l1 c1 k1
  have B := F.binds (ps := ["reading", "first", "stretch"]) fun _ _ _ _ _ _ us hl => match us, hl with | [_, _, _], _ => rfl
  exact ⟨_, fun s us hl => .of_eq (match us, hl with | [_, _, _], _ => rfl), ⟨⟨_, z_law_wide, N_law_wide, F, sc_law_wide, rfl, m_law_wide⟩, rfl, by decide, by decide, by decide, PySem.W.mg_of X G a1, B⟩⟩
theorem d_law {h : Heap} (X : K.In h) (G : h.Ns mainGlobals mg) {f : Addr} {od an : Option Addr} {sl : Array (Option Value)} {oc kV dc pm cd ct : Value} (a1 : PySem.W.nsIn K mainGlobals "law" = some (some (.ref f)))
    (l1 : K.lookup f = some ⟨oc, od, .func (PySem.W.fnOf "law" "law" (defArgs z_law) (defBody z_law) (defScope z_law) .none kV dc pm an cd ct), sl⟩) (c1 : PySem.W.codeIn K cd "law" = true) (k1 : PySem.W.keepIn K (.ref f) = true) :
    ∃ fd, (∀ (s : Shared) (us : List Value), us.length = 1 → BindsTo s fd ⟨us, []⟩ (List.zip ["script"] us)) ∧ Ev.DefOk K mg nms f_law "law" f fd ["script"] := by
  have F := fun_mk (st := z_law) l1 c1 k1
  have B := F.binds (ps := ["script"]) fun _ _ _ _ _ _ us hl => match us, hl with | [_], _ => rfl
  exact ⟨_, fun s us hl => .of_eq (match us, hl with | [_], _ => rfl), ⟨⟨_, z_law, N_law, F, sc_law, rfl, m_law⟩, rfl, by decide, by decide, by decide, PySem.W.mg_of X G a1, B⟩⟩
theorem blts {h : Heap} (X : K.In h) (G : h.Ns mainGlobals mg) (z0 : PySem.W.nsIn K mainGlobals "len" = some none) (z1 : PySem.W.nsIn K mainGlobals "abs" = some none) (z2 : PySem.W.nsIn K mainGlobals "int" = some none) (z3 : PySem.W.nsIn K mainGlobals "min" = some none) (z4 : PySem.W.nsIn K mainGlobals "max" = some none) (z5 : PySem.W.nsIn K mainGlobals "sum" = some none) (z6 : PySem.W.nsIn K mainGlobals "sorted" = some none) (z7 : PySem.W.nsIn K mainGlobals "list" = some none) (z8 : PySem.W.nsIn K mainGlobals "tuple" = some none) (z9 : PySem.W.nsIn K mainGlobals "all" = some none) (z10 : PySem.W.nsIn K mainGlobals "any" = some none) (z11 : PySem.W.nsIn K mainGlobals "isinstance" = some none) (z12 : PySem.W.nsIn K mainGlobals "bool" = some none) (z13 : PySem.W.nsIn K mainGlobals "str" = some none) (z14 : PySem.W.nsIn K mainGlobals "dict" = some none) (z15 : PySem.W.nsIn K mainGlobals "range" = some none) (z16 : PySem.W.nsIn K mainGlobals "reversed" = some none) (z17 : PySem.W.nsIn K mainGlobals "zip" = some none) (z18 : PySem.W.nsIn K mainGlobals "enumerate" = some none) : Ev.Blts mg := by
  refine ⟨fun b => ?_, PySem.W.mg_none_of X G z11, fun t ht => ?_, PySem.W.mg_none_of X G z15, PySem.W.mg_none_of X G z16, PySem.W.mg_none_of X G z17, PySem.W.mg_none_of X G z18⟩
  · cases b
    · exact PySem.W.mg_none_of X G z0
    · exact PySem.W.mg_none_of X G z1
    · exact PySem.W.mg_none_of X G z2
    · exact PySem.W.mg_none_of X G z3
    · exact PySem.W.mg_none_of X G z4
    · exact PySem.W.mg_none_of X G z5
    · exact PySem.W.mg_none_of X G z6
    · exact PySem.W.mg_none_of X G z7
    · exact PySem.W.mg_none_of X G z8
    · exact PySem.W.mg_none_of X G z9
    · exact PySem.W.mg_none_of X G z10
    · exact PySem.W.mg_none_of X G z3
    · exact PySem.W.mg_none_of X G z4
  · cases t
    · exact PySem.W.mg_none_of X G z12
    · exact PySem.W.mg_none_of X G z2
    · exact PySem.W.mg_none_of X G z13
    · exact PySem.W.mg_none_of X G z8
    · exact PySem.W.mg_none_of X G z7
    · exact PySem.W.mg_none_of X G z14
    · exact absurd rfl ht
theorem table {f0 : Addr} {e0 : FuncData} {p0 : List Str} (D0 : Ev.DefOk K mg nms f_rows_of "rows_of" f0 e0 p0) {f1 : Addr} {e1 : FuncData} {p1 : List Str} (D1 : Ev.DefOk K mg nms f_run_rows "run_rows" f1 e1 p1) {f2 : Addr} {e2 : FuncData} {p2 : List Str} (D2 : Ev.DefOk K mg nms f_law_draws "_law_draws" f2 e2 p2) {f3 : Addr} {e3 : FuncData} {p3 : List Str} (D3 : Ev.DefOk K mg nms f_law_same "_law_same" f3 e3 p3) {f4 : Addr} {e4 : FuncData} {p4 : List Str} (D4 : Ev.DefOk K mg nms f_law_same_rows "_law_same_rows" f4 e4 p4) {f5 : Addr} {e5 : FuncData} {p5 : List Str} (D5 : Ev.DefOk K mg nms f_law_readings_of "_law_readings_of" f5 e5 p5) {f6 : Addr} {e6 : FuncData} {p6 : List Str} (D6 : Ev.DefOk K mg nms f_law_tree_of "_law_tree_of" f6 e6 p6) {f7 : Addr} {e7 : FuncData} {p7 : List Str} (D7 : Ev.DefOk K mg nms f_law_listed "_law_listed" f7 e7 p7) {f8 : Addr} {e8 : FuncData} {p8 : List Str} (D8 : Ev.DefOk K mg nms f_law_run "_law_run" f8 e8 p8) {f9 : Addr} {e9 : FuncData} {p9 : List Str} (D9 : Ev.DefOk K mg nms f_law_drawn_rows "_law_drawn_rows" f9 e9 p9) {f10 : Addr} {e10 : FuncData} {p10 : List Str} (D10 : Ev.DefOk K mg nms f_law_hand_rows "_law_hand_rows" f10 e10 p10) {f11 : Addr} {e11 : FuncData} {p11 : List Str} (D11 : Ev.DefOk K mg nms f_law_size "_law_size" f11 e11 p11) {f12 : Addr} {e12 : FuncData} {p12 : List Str} (D12 : Ev.DefOk K mg nms f_law_moved "_law_moved" f12 e12 p12) {f13 : Addr} {e13 : FuncData} {p13 : List Str} (D13 : Ev.DefOk K mg nms f_law_wide "_law_wide" f13 e13 p13) {f14 : Addr} {e14 : FuncData} {p14 : List Str} (D14 : Ev.DefOk K mg nms f_law "law" f14 e14 p14) :
    ∀ f x, nms f = some x → ∃ fn a fd ps, fns f = some fn ∧ Ev.DefOk K mg nms fn x a fd ps
  | 0, _, h => by cases h; exact ⟨_, _, _, _, rfl, D0⟩
  | 1, _, h => by cases h; exact ⟨_, _, _, _, rfl, D1⟩
  | 2, _, h => by cases h; exact ⟨_, _, _, _, rfl, D2⟩
  | 3, _, h => by cases h; exact ⟨_, _, _, _, rfl, D3⟩
  | 4, _, h => by cases h; exact ⟨_, _, _, _, rfl, D4⟩
  | 5, _, h => by cases h; exact ⟨_, _, _, _, rfl, D5⟩
  | 6, _, h => by cases h; exact ⟨_, _, _, _, rfl, D6⟩
  | 7, _, h => by cases h; exact ⟨_, _, _, _, rfl, D7⟩
  | 8, _, h => by cases h; exact ⟨_, _, _, _, rfl, D8⟩
  | 9, _, h => by cases h; exact ⟨_, _, _, _, rfl, D9⟩
  | 10, _, h => by cases h; exact ⟨_, _, _, _, rfl, D10⟩
  | 11, _, h => by cases h; exact ⟨_, _, _, _, rfl, D11⟩
  | 12, _, h => by cases h; exact ⟨_, _, _, _, rfl, D12⟩
  | 13, _, h => by cases h; exact ⟨_, _, _, _, rfl, D13⟩
  | 14, _, h => by cases h; exact ⟨_, _, _, _, rfl, D14⟩
  | _ + 15, _, h => nomatch h
end
theorem all_mk {l : PySem.W.OpenLaw} {w : World} {K : PySem.W.Frag} {h : Heap} {mg : Str → Option Value} {fa f0 f1 f2 f3 f4 f5 f6 f7 f8 f9 f10 f11 f12 f13 f14 : Addr} (X : K.In h) (G : h.Ns mainGlobals mg) (hfa : mg "law" = some (.ref fa))
    {od0 an0 : Option Addr} {sl0 : Array (Option Value)} {oc0 kV0 dc0 pm0 cd0 ct0 : Value}
    {od1 an1 : Option Addr} {sl1 : Array (Option Value)} {oc1 kV1 dc1 pm1 cd1 ct1 : Value}
    {od2 an2 : Option Addr} {sl2 : Array (Option Value)} {oc2 kV2 dc2 pm2 cd2 ct2 : Value}
    {od3 an3 : Option Addr} {sl3 : Array (Option Value)} {oc3 kV3 dc3 pm3 cd3 ct3 : Value}
    {od4 an4 : Option Addr} {sl4 : Array (Option Value)} {oc4 kV4 dc4 pm4 cd4 ct4 : Value}
    {od5 an5 : Option Addr} {sl5 : Array (Option Value)} {oc5 kV5 dc5 pm5 cd5 ct5 : Value}
    {od6 an6 : Option Addr} {sl6 : Array (Option Value)} {oc6 kV6 dc6 pm6 cd6 ct6 : Value}
    {od7 an7 : Option Addr} {sl7 : Array (Option Value)} {oc7 kV7 dc7 pm7 cd7 ct7 : Value}
    {od8 an8 : Option Addr} {sl8 : Array (Option Value)} {oc8 kV8 dc8 pm8 cd8 ct8 : Value}
    {od9 an9 : Option Addr} {sl9 : Array (Option Value)} {oc9 kV9 dc9 pm9 cd9 ct9 : Value}
    {od10 an10 : Option Addr} {sl10 : Array (Option Value)} {oc10 kV10 dc10 pm10 cd10 ct10 : Value}
    {od11 an11 : Option Addr} {sl11 : Array (Option Value)} {oc11 kV11 dc11 pm11 cd11 ct11 : Value}
    {od12 an12 : Option Addr} {sl12 : Array (Option Value)} {oc12 kV12 dc12 pm12 cd12 ct12 : Value}
    {od13 an13 : Option Addr} {sl13 : Array (Option Value)} {oc13 kV13 dc13 pm13 cd13 ct13 : Value}
    {od14 an14 : Option Addr} {sl14 : Array (Option Value)} {oc14 kV14 dc14 pm14 cd14 ct14 : Value}
    (a0 : PySem.W.nsIn K mainGlobals "rows_of" = some (some (.ref f0))) (l0 : K.lookup f0 = some ⟨oc0, od0, .func (PySem.W.fnOf "rows_of" "rows_of" (defArgs z_rows_of) (defBody z_rows_of) (defScope z_rows_of) .none kV0 dc0 pm0 an0 cd0 ct0), sl0⟩) (c0 : PySem.W.codeIn K cd0 "rows_of" = true) (k0 : PySem.W.keepIn K (.ref f0) = true)
    (a1 : PySem.W.nsIn K mainGlobals "run_rows" = some (some (.ref f1))) (l1 : K.lookup f1 = some ⟨oc1, od1, .func (PySem.W.fnOf "run_rows" "run_rows" (defArgs z_run_rows) (defBody z_run_rows) (defScope z_run_rows) .none kV1 dc1 pm1 an1 cd1 ct1), sl1⟩) (c1 : PySem.W.codeIn K cd1 "run_rows" = true) (k1 : PySem.W.keepIn K (.ref f1) = true)
    (a2 : PySem.W.nsIn K mainGlobals "_law_draws" = some (some (.ref f2))) (l2 : K.lookup f2 = some ⟨oc2, od2, .func (PySem.W.fnOf "_law_draws" "_law_draws" (defArgs z_law_draws) (defBody z_law_draws) (defScope z_law_draws) .none kV2 dc2 pm2 an2 cd2 ct2), sl2⟩) (c2 : PySem.W.codeIn K cd2 "_law_draws" = true) (k2 : PySem.W.keepIn K (.ref f2) = true)
    (a3 : PySem.W.nsIn K mainGlobals "_law_same" = some (some (.ref f3))) (l3 : K.lookup f3 = some ⟨oc3, od3, .func (PySem.W.fnOf "_law_same" "_law_same" (defArgs z_law_same) (defBody z_law_same) (defScope z_law_same) .none kV3 dc3 pm3 an3 cd3 ct3), sl3⟩) (c3 : PySem.W.codeIn K cd3 "_law_same" = true) (k3 : PySem.W.keepIn K (.ref f3) = true)
    (a4 : PySem.W.nsIn K mainGlobals "_law_same_rows" = some (some (.ref f4))) (l4 : K.lookup f4 = some ⟨oc4, od4, .func (PySem.W.fnOf "_law_same_rows" "_law_same_rows" (defArgs z_law_same_rows) (defBody z_law_same_rows) (defScope z_law_same_rows) .none kV4 dc4 pm4 an4 cd4 ct4), sl4⟩) (c4 : PySem.W.codeIn K cd4 "_law_same_rows" = true) (k4 : PySem.W.keepIn K (.ref f4) = true)
    (a5 : PySem.W.nsIn K mainGlobals "_law_readings_of" = some (some (.ref f5))) (l5 : K.lookup f5 = some ⟨oc5, od5, .func (PySem.W.fnOf "_law_readings_of" "_law_readings_of" (defArgs z_law_readings_of) (defBody z_law_readings_of) (defScope z_law_readings_of) .none kV5 dc5 pm5 an5 cd5 ct5), sl5⟩) (c5 : PySem.W.codeIn K cd5 "_law_readings_of" = true) (k5 : PySem.W.keepIn K (.ref f5) = true)
    (a6 : PySem.W.nsIn K mainGlobals "_law_tree_of" = some (some (.ref f6))) (l6 : K.lookup f6 = some ⟨oc6, od6, .func (PySem.W.fnOf "_law_tree_of" "_law_tree_of" (defArgs z_law_tree_of) (defBody z_law_tree_of) (defScope z_law_tree_of) .none kV6 dc6 pm6 an6 cd6 ct6), sl6⟩) (c6 : PySem.W.codeIn K cd6 "_law_tree_of" = true) (k6 : PySem.W.keepIn K (.ref f6) = true)
    (a7 : PySem.W.nsIn K mainGlobals "_law_listed" = some (some (.ref f7))) (l7 : K.lookup f7 = some ⟨oc7, od7, .func (PySem.W.fnOf "_law_listed" "_law_listed" (defArgs z_law_listed) (defBody z_law_listed) (defScope z_law_listed) .none kV7 dc7 pm7 an7 cd7 ct7), sl7⟩) (c7 : PySem.W.codeIn K cd7 "_law_listed" = true) (k7 : PySem.W.keepIn K (.ref f7) = true)
    (a8 : PySem.W.nsIn K mainGlobals "_law_run" = some (some (.ref f8))) (l8 : K.lookup f8 = some ⟨oc8, od8, .func (PySem.W.fnOf "_law_run" "_law_run" (defArgs z_law_run) (defBody z_law_run) (defScope z_law_run) .none kV8 dc8 pm8 an8 cd8 ct8), sl8⟩) (c8 : PySem.W.codeIn K cd8 "_law_run" = true) (k8 : PySem.W.keepIn K (.ref f8) = true)
    (a9 : PySem.W.nsIn K mainGlobals "_law_drawn_rows" = some (some (.ref f9))) (l9 : K.lookup f9 = some ⟨oc9, od9, .func (PySem.W.fnOf "_law_drawn_rows" "_law_drawn_rows" (defArgs z_law_drawn_rows) (defBody z_law_drawn_rows) (defScope z_law_drawn_rows) .none kV9 dc9 pm9 an9 cd9 ct9), sl9⟩) (c9 : PySem.W.codeIn K cd9 "_law_drawn_rows" = true) (k9 : PySem.W.keepIn K (.ref f9) = true)
    (a10 : PySem.W.nsIn K mainGlobals "_law_hand_rows" = some (some (.ref f10))) (l10 : K.lookup f10 = some ⟨oc10, od10, .func (PySem.W.fnOf "_law_hand_rows" "_law_hand_rows" (defArgs z_law_hand_rows) (defBody z_law_hand_rows) (defScope z_law_hand_rows) .none kV10 dc10 pm10 an10 cd10 ct10), sl10⟩) (c10 : PySem.W.codeIn K cd10 "_law_hand_rows" = true) (k10 : PySem.W.keepIn K (.ref f10) = true)
    (a11 : PySem.W.nsIn K mainGlobals "_law_size" = some (some (.ref f11))) (l11 : K.lookup f11 = some ⟨oc11, od11, .func (PySem.W.fnOf "_law_size" "_law_size" (defArgs z_law_size) (defBody z_law_size) (defScope z_law_size) .none kV11 dc11 pm11 an11 cd11 ct11), sl11⟩) (c11 : PySem.W.codeIn K cd11 "_law_size" = true) (k11 : PySem.W.keepIn K (.ref f11) = true)
    (a12 : PySem.W.nsIn K mainGlobals "_law_moved" = some (some (.ref f12))) (l12 : K.lookup f12 = some ⟨oc12, od12, .func (PySem.W.fnOf "_law_moved" "_law_moved" (defArgs z_law_moved) (defBody z_law_moved) (defScope z_law_moved) .none kV12 dc12 pm12 an12 cd12 ct12), sl12⟩) (c12 : PySem.W.codeIn K cd12 "_law_moved" = true) (k12 : PySem.W.keepIn K (.ref f12) = true)
    (a13 : PySem.W.nsIn K mainGlobals "_law_wide" = some (some (.ref f13))) (l13 : K.lookup f13 = some ⟨oc13, od13, .func (PySem.W.fnOf "_law_wide" "_law_wide" (defArgs z_law_wide) (defBody z_law_wide) (defScope z_law_wide) .none kV13 dc13 pm13 an13 cd13 ct13), sl13⟩) (c13 : PySem.W.codeIn K cd13 "_law_wide" = true) (k13 : PySem.W.keepIn K (.ref f13) = true)
    (a14 : PySem.W.nsIn K mainGlobals "law" = some (some (.ref f14))) (l14 : K.lookup f14 = some ⟨oc14, od14, .func (PySem.W.fnOf "law" "law" (defArgs z_law) (defBody z_law) (defScope z_law) .none kV14 dc14 pm14 an14 cd14 ct14), sl14⟩) (c14 : PySem.W.codeIn K cd14 "law" = true) (k14 : PySem.W.keepIn K (.ref f14) = true)
    (z0 : PySem.W.nsIn K mainGlobals "len" = some none) (z1 : PySem.W.nsIn K mainGlobals "abs" = some none) (z2 : PySem.W.nsIn K mainGlobals "int" = some none) (z3 : PySem.W.nsIn K mainGlobals "min" = some none) (z4 : PySem.W.nsIn K mainGlobals "max" = some none) (z5 : PySem.W.nsIn K mainGlobals "sum" = some none) (z6 : PySem.W.nsIn K mainGlobals "sorted" = some none) (z7 : PySem.W.nsIn K mainGlobals "list" = some none) (z8 : PySem.W.nsIn K mainGlobals "tuple" = some none) (z9 : PySem.W.nsIn K mainGlobals "all" = some none) (z10 : PySem.W.nsIn K mainGlobals "any" = some none) (z11 : PySem.W.nsIn K mainGlobals "isinstance" = some none) (z12 : PySem.W.nsIn K mainGlobals "bool" = some none) (z13 : PySem.W.nsIn K mainGlobals "str" = some none) (z14 : PySem.W.nsIn K mainGlobals "dict" = some none) (z15 : PySem.W.nsIn K mainGlobals "range" = some none) (z16 : PySem.W.nsIn K mainGlobals "reversed" = some none) (z17 : PySem.W.nsIn K mainGlobals "zip" = some none) (z18 : PySem.W.nsIn K mainGlobals "enumerate" = some none) :
    ∃ fd : FuncData, (∀ (s : Shared) (v : Value), BindsTo s fd ⟨[v], []⟩ [("script", v)]) ∧ ∀ base : Heap, K.In base → base.Ns mainGlobals mg → FnOk l.prog w K mg base CX0 60 fa fd ["script"] (Ev.spF K (Ev.callN fns 60) 14) := by
  have e := hfa.symm.trans (PySem.W.mg_of X G a14)
  cases e
  obtain ⟨e0, b0, D0⟩ := d_rows_of X G a0 l0 c0 k0
  obtain ⟨e1, b1, D1⟩ := d_run_rows X G a1 l1 c1 k1
  obtain ⟨e2, b2, D2⟩ := d_law_draws X G a2 l2 c2 k2
  obtain ⟨e3, b3, D3⟩ := d_law_same X G a3 l3 c3 k3
  obtain ⟨e4, b4, D4⟩ := d_law_same_rows X G a4 l4 c4 k4
  obtain ⟨e5, b5, D5⟩ := d_law_readings_of X G a5 l5 c5 k5
  obtain ⟨e6, b6, D6⟩ := d_law_tree_of X G a6 l6 c6 k6
  obtain ⟨e7, b7, D7⟩ := d_law_listed X G a7 l7 c7 k7
  obtain ⟨e8, b8, D8⟩ := d_law_run X G a8 l8 c8 k8
  obtain ⟨e9, b9, D9⟩ := d_law_drawn_rows X G a9 l9 c9 k9
  obtain ⟨e10, b10, D10⟩ := d_law_hand_rows X G a10 l10 c10 k10
  obtain ⟨e11, b11, D11⟩ := d_law_size X G a11 l11 c11 k11
  obtain ⟨e12, b12, D12⟩ := d_law_moved X G a12 l12 c12 k12
  obtain ⟨e13, b13, D13⟩ := d_law_wide X G a13 l13 c13 k13
  obtain ⟨e14, b14, D14⟩ := d_law X G a14 l14 c14 k14
  have B := blts X G z0 z1 z2 z3 z4 z5 z6 z7 z8 z9 z10 z11 z12 z13 z14 z15 z16 z17 z18
  have T := table D0 D1 D2 D3 D4 D5 D6 D7 D8 D9 D10 D11 D12 D13 D14
  exact ⟨e14, fun s v => b14 s [v] rfl, fun base _ _ => Ev.levels B T 60 14 "law" f_law _ _ _ rfl rfl D14⟩
theorem law_call (ns : List Int) : ∃ g outs, Ev.callN fns 60 14 [(.scr (ns.map Ev.D.int), .fro)] = .ok (.bl true, g) outs := by
  obtain ⟨g, _, h⟩ := k_law 53 ns true (law_true ns) [(.scr (ns.map Ev.D.int), .fro)] rfl
  exact ⟨g, [], h⟩
theorem walk {l : PySem.W.OpenLaw} {q : Program} {loose : List Str} {XP : (Str → Option Value) → Heap → Prop} {YP : World → Heap → Prop} {d : DefRec} {K : Params → PySem.W.Frag} (hn : l.most = some 63) (hdf : d.params.defaults = [])
    (hY : ∀ (w : World) (h : Heap), YP w h → (K w.params).In h)
    (F : ∀ (w : World) (mg : Str → Option Value) (fa : Addr) (h : Heap), (K w.params).In h → h.Ns mainGlobals mg → mg d.name = some (.ref fa) →
      ∃ fd : FuncData, (∀ (s : Shared) (u : Value), BindsTo s fd ⟨[u], []⟩ [("script", u)]) ∧ ∀ base : Heap, (K w.params).In base → base.Ns mainGlobals mg → FnOk l.prog w (K w.params) mg base CX0 60 fa fd ["script"] (Ev.spF (K w.params) (Ev.callN fns 60) 14)) :
    PySem.W.WalkO q loose XP YP l.row.toRowW d [] (fun f vs => PySem.call f vs) :=
  L2.walk_of (n := 63) (k := 60) (x := "script") (CX := fun _ => CX0) (sp := fun w => Ev.spF (K w.params) (Ev.callN fns 60) 14) hn (by decide) hdf ⟨rfl, by decide, by decide⟩ hY F (fun _ _ a ns hl ho hS => by
    obtain ⟨g, outs, h⟩ := law_call ns
    exact Ev.script_sp ho hS h) fun _ _ _ _ _ z => z
end K45
open PySem PySem.W PyProof.Rows
set_option maxRecDepth 100000 in
set_option maxHeartbeats 0 in
theorem PySem.Challenge.cw_readwhilechanged_k45_rows_of_trees_run_holds : PySem.Challenge.rw_readwhilechanged_k45_rows_of_trees_run.Holds := by
  w_on; o_law; k_head; (case hw => w_witness2)
  k_fill
  refine K45.walk (l := PySem.Challenge.rw_readwhilechanged_k45_rows_of_trees_run) rfl rfl (fun w h Y => PySem.W.kIn_of Y) ?F
  case F =>
    intro w mg fa h KX G hmg
    refine' K45.all_mk KX G hmg ?a0 ?l0 ?c0 ?k0 ?a1 ?l1 ?c1 ?k1 ?a2 ?l2 ?c2 ?k2 ?a3 ?l3 ?c3 ?k3 ?a4 ?l4 ?c4 ?k4 ?a5 ?l5 ?c5 ?k5 ?a6 ?l6 ?c6 ?k6 ?a7 ?l7 ?c7 ?k7 ?a8 ?l8 ?c8 ?k8 ?a9 ?l9 ?c9 ?k9 ?a10 ?l10 ?c10 ?k10 ?a11 ?l11 ?c11 ?k11 ?a12 ?l12 ?c12 ?k12 ?a13 ?l13 ?c13 ?k13 ?a14 ?l14 ?c14 ?k14 ?z0 ?z1 ?z2 ?z3 ?z4 ?z5 ?z6 ?z7 ?z8 ?z9 ?z10 ?z11 ?z12 ?z13 ?z14 ?z15 ?z16 ?z17 ?z18
    (case a0 => k_is); (case l0 => k_is); (case c0 => k_is); (case k0 => k_is)
    (case a1 => k_is); (case l1 => k_is); (case c1 => k_is); (case k1 => k_is)
    (case a2 => k_is); (case l2 => k_is); (case c2 => k_is); (case k2 => k_is)
    (case a3 => k_is); (case l3 => k_is); (case c3 => k_is); (case k3 => k_is)
    (case a4 => k_is); (case l4 => k_is); (case c4 => k_is); (case k4 => k_is)
    (case a5 => k_is); (case l5 => k_is); (case c5 => k_is); (case k5 => k_is)
    (case a6 => k_is); (case l6 => k_is); (case c6 => k_is); (case k6 => k_is)
    (case a7 => k_is); (case l7 => k_is); (case c7 => k_is); (case k7 => k_is)
    (case a8 => k_is); (case l8 => k_is); (case c8 => k_is); (case k8 => k_is)
    (case a9 => k_is); (case l9 => k_is); (case c9 => k_is); (case k9 => k_is)
    (case a10 => k_is); (case l10 => k_is); (case c10 => k_is); (case k10 => k_is)
    (case a11 => k_is); (case l11 => k_is); (case c11 => k_is); (case k11 => k_is)
    (case a12 => k_is); (case l12 => k_is); (case c12 => k_is); (case k12 => k_is)
    (case a13 => k_is); (case l13 => k_is); (case c13 => k_is); (case k13 => k_is)
    (case a14 => k_is); (case l14 => k_is); (case c14 => k_is); (case k14 => k_is)
    (case z0 => k_is); (case z1 => k_is); (case z2 => k_is); (case z3 => k_is); (case z4 => k_is); (case z5 => k_is); (case z6 => k_is); (case z7 => k_is); (case z8 => k_is); (case z9 => k_is); (case z10 => k_is); (case z11 => k_is); (case z12 => k_is); (case z13 => k_is); (case z14 => k_is); (case z15 => k_is); (case z16 => k_is); (case z17 => k_is); (case z18 => k_is)
