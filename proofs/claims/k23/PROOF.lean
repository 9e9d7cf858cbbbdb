import PyProof.Rows.All
import Wide.All
import OpenK.AllK
import Wide.FinOn
import HandS.Zip0
import PyProof.EqAt
import PyProof.EqKinds
import PyProof.TupleCall
import HandS.ForMost
import HandS.Exc
import HandS.ExcOwn
import HandS.WordsExc
import HandS.TryOnly
import HandS.IsInst
import HandS.Walk
import HandS.SortInts
import HandS.SortRule
import HandS.TupAny
import HandS.More
import HandS.Conv
import HandS.Deep
import HandS.Style
import KE.SortData
import HandS.TupLen
import HandS.Small
import HandS.Replace
import HandS.ExcCtx
import HandS.HotCalls
import HandS.Rev
import HandS.RevTup
import KE.KDictList
import PyProof.CollectStr
import HandS.SortKw
import KE.SortKeyHeap
import KE.KSortKey
import HandS.TryMany
import HandS.ExcIs
import PyProof.StrOps2
import HandS.ExcInit
import KE.DataMinMax
import HandS.Iter
import HandS.Comp
import KE.KExcIs
import HandS.ExcField
import PyProof.WalkInts
import HandS.RevRange
import PyProof.StrLawsReplace
import PyProof.Rows.StrCountLaw
import HandS.ListItems
import KE.KDictCopyH
import PyProof.Rows.TupDisplay
import PySem.Challenge.RW_ringmaze_k23_turned
set_option Elab.async false
set_option linter.all false
set_option autoImplicit false
set_option maxRecDepth 100000
set_option maxHeartbeats 4000000
/-! Pc: the pure layer. Data, cells, and the combinators of the subset of Python that stands in the laws. -/
namespace Rg

/-- a text: its code points -/
abbrev Tx := List Nat
abbrev Ky := Int ⊕ Tx

/-- data: what a value is, written out; `lst` is a list that nobody changes any more; `ref n` the n-th cell -/
inductive D where
  | non
  | bl (b : Bool)
  | int (i : Int)
  | str (s : Tx)
  | tup (xs : List D)
  | lst (xs : List D)
  | ref (n : Nat)
  | exn (c : String) (fs : List D)
  | scr (ns : List Int)
  deriving Inhabited, Repr

mutual
def D.beq : D → D → Bool
  | .non, .non => true
  | .bl a, .bl b => a == b
  | .int a, .int b => a == b
  | .str a, .str b => a == b
  | .tup a, .tup b => D.beqs a b
  | .lst a, .lst b => D.beqs a b
  | .ref a, .ref b => a == b
  | .exn c a, .exn d b => c == d && D.beqs a b
  | .scr a, .scr b => a == b
  | _, _ => false
def D.beqs : List D → List D → Bool
  | [], [] => true
  | x :: xs, y :: ys => D.beq x y && D.beqs xs ys
  | _, _ => false
end
mutual
theorem D.beq_eq : ∀ {a b : D}, D.beq a b = true → a = b
  | .non, b, h => by cases b <;> simp_all [D.beq]
  | .bl a, b, h => by cases b <;> simp_all [D.beq]
  | .int a, b, h => by cases b <;> simp_all [D.beq]
  | .str a, b, h => by cases b <;> simp_all [D.beq]
  | .tup a, b, h => by
    cases b <;> simp [D.beq] at h
    rw [D.beqs_eq h]
  | .lst a, b, h => by
    cases b <;> simp [D.beq] at h
    rw [D.beqs_eq h]
  | .ref a, b, h => by cases b <;> simp_all [D.beq]
  | .exn c a, b, h => by
    cases b <;> simp [D.beq] at h
    rw [h.1, D.beqs_eq h.2]
  | .scr a, b, h => by cases b <;> simp_all [D.beq]
theorem D.beqs_eq : ∀ {a b : List D}, D.beqs a b = true → a = b
  | [], [], _ => rfl
  | [], _ :: _, h => by simp [D.beqs] at h
  | _ :: _, [], h => by simp [D.beqs] at h
  | x :: xs, y :: ys, h => by
    simp [D.beqs] at h
    rw [D.beq_eq h.1, D.beqs_eq h.2]
end
mutual
theorem D.beq_self : ∀ a : D, D.beq a a = true
  | .non => rfl
  | .bl a => by simp [D.beq]
  | .int a => by simp [D.beq]
  | .str a => by simp [D.beq]
  | .tup a => by simp [D.beq, D.beqs_self a]
  | .lst a => by simp [D.beq, D.beqs_self a]
  | .ref a => by simp [D.beq]
  | .exn c a => by simp [D.beq, D.beqs_self a]
  | .scr a => by simp [D.beq]
theorem D.beqs_self : ∀ a : List D, D.beqs a a = true
  | [] => rfl
  | x :: xs => by simp [D.beqs, D.beq_self x, D.beqs_self xs]
end
instance : DecidableEq D := fun a b =>
  if h : D.beq a b = true then .isTrue (D.beq_eq h) else .isFalse fun e => h (e ▸ D.beq_self a)

/-- a list, a dict (keys: numbers and texts; or tuples of these), an instance -/
inductive Cell where
  | lst (xs : List D)
  | dK (kvs : List (Ky × D))
  | dT (kvs : List (List Ky × D))
  | ins (c : String) (fs : List (String × D))
  deriving Inhabited, DecidableEq, Repr
abbrev Hh := List Cell
abbrev Env := List (Option D)

/-- an exception: its class, its fields -/
structure Ex where
  c : String
  fs : List (String × D)
  deriving Inhabited, DecidableEq, Repr
inductive Rs (α : Type) where
  | ok (a : α)
  | ex (e : Ex)
  deriving Repr
abbrev Ro (α : Type) := Option (Rs α × Hh)
abbrev M (α : Type) := Env → Hh → Ro α
abbrev Fn := List D → Hh → Ro D

def bnd {α β : Type} (x : Ro α) (f : α → Hh → Ro β) : Ro β := match x with
  | none => none
  | some (.ok a, L) => f a L
  | some (.ex e, L) => some (.ex e, L)
@[simp] theorem bnd_none {α β : Type} (f : α → Hh → Ro β) : bnd none f = none := rfl
@[simp] theorem bnd_ok {α β : Type} (a : α) (L : Hh) (f : α → Hh → Ro β) : bnd (some (.ok a, L)) f = f a L := rfl
@[simp] theorem bnd_ex {α β : Type} (e : Ex) (L : Hh) (f : α → Hh → Ro β) : bnd (some (.ex e, L)) f = some (.ex e, L) := rfl

/-- the list that stands there -/
def look (L : Hh) : D → Option (List D)
  | .lst xs => some xs
  | .ref n => match L[n]? with
    | some (.lst xs) => some xs
    | _ => none
  | _ => none
/-! ### expressions -/
def eVar (i : Nat) : M D := fun env L => match env[i]? with
  | some (some d) => some (.ok d, L)
  | _ => none
def eC (d : D) : M D := fun _ L => some (.ok d, L)
def aNil : M (List D) := fun _ L => some (.ok [], L)
def aCons (f : M D) (r : M (List D)) : M (List D) := fun env L => bnd (f env L) fun x L1 => bnd (r env L1) fun xs L2 => some (.ok (x :: xs), L2)
def eTup (as : M (List D)) : M D := fun env L => bnd (as env L) fun xs L1 => if xs.length ≤ 10000 then some (.ok (.tup xs), L1) else none
def eLst (as : M (List D)) : M D := fun env L => bnd (as env L) fun xs L1 => if xs.length ≤ 10000 then some (.ok (.ref L1.length), L1 ++ [.lst xs]) else none
abbrev Op2 := D → D → Hh → Ro D
abbrev Op1 := D → Hh → Ro D
abbrev OpN := List D → Hh → Ro D
def eBin (g : Op2) (a b : M D) : M D := fun env L => bnd (a env L) fun x L1 => bnd (b env L1) fun y L2 => g x y L2
def eUn (g : Op1) (a : M D) : M D := fun env L => bnd (a env L) fun x L1 => g x L1
def eNary (g : OpN) (as : M (List D)) : M D := fun env L => bnd (as env L) fun xs L1 => g xs L1
def eMt (g : D → OpN) (o : M D) (as : M (List D)) : M D := fun env L => bnd (o env L) fun x L1 => bnd (as env L1) fun xs L2 => g x xs L2
/-- o.m(..), o a list -/
def eMtL (g : D → OpN) (o : M D) (as : M (List D)) : M D := fun env L => bnd (o env L) fun x L1 => match look L1 x with
  | none => none
  | some _ => bnd (as env L1) fun xs L2 => g x xs L2
def eIf (t : M Bool) (a b : M D) : M D := fun env L => bnd (t env L) fun c L1 => if c = true then a env L1 else b env L1
/-- a and b, a or b, not a as values: all but the last True or False -/
def eAnd (a b : M D) : M D := fun env L => bnd (a env L) fun x L1 => match x with
  | .bl true => b env L1
  | .bl false => some (.ok (.bl false), L1)
  | _ => none
def eOr (a b : M D) : M D := fun env L => bnd (a env L) fun x L1 => match x with
  | .bl true => some (.ok (.bl true), L1)
  | .bl false => b env L1
  | _ => none
def eNot (a : M D) : M D := fun env L => bnd (a env L) fun x L1 => match x with
  | .bl c => some (.ok (.bl (!c)), L1)
  | _ => none
/-! ### tests -/
def tVal (a : M D) : M Bool := fun env L => bnd (a env L) fun x L1 => match x with
  | .bl c => some (.ok c, L1)
  | _ => none
def tAnd (a b : M Bool) : M Bool := fun env L => bnd (a env L) fun c L1 => if c = true then b env L1 else some (.ok false, L1)
def tOr (a b : M Bool) : M Bool := fun env L => bnd (a env L) fun c L1 => if c = true then some (.ok true, L1) else b env L1
def tNot (a : M Bool) : M Bool := fun env L => bnd (a env L) fun c L1 => some (.ok (!c), L1)

/-! ### statements -/
inductive Out where
  | nx
  | rt (d : D)
  | bk
  | ct
  | ex (e : Ex)
  deriving Repr
abbrev So := Option (Out × Env × Hh)
abbrev Sm := Env → Hh → So
/-- an expression in a statement -/
def sb {α : Type} (env : Env) (x : Ro α) (f : α → Hh → So) : So := match x with
  | none => none
  | some (.ok a, L) => f a L
  | some (.ex e, L) => some (.ex e, env, L)
@[simp] theorem sb_none {α : Type} (env : Env) (f : α → Hh → So) : sb env (none : Ro α) f = none := rfl
@[simp] theorem sb_ok {α : Type} (env : Env) (a : α) (L : Hh) (f : α → Hh → So) : sb env (some (.ok a, L)) f = f a L := rfl
@[simp] theorem sb_ex {α : Type} (env : Env) (e : Ex) (L : Hh) (f : α → Hh → So) : sb env (some (.ex e, L) : Ro α) f = some (.ex e, env, L) := rfl
def sNil : Sm := fun env L => some (.nx, env, L)
def sSeq (a b : Sm) : Sm := fun env L => match a env L with
  | some (.nx, env1, L1) => b env1 L1
  | r => r
def sExpr (f : M D) : Sm := fun env L => sb env (f env L) fun _ L1 => some (.nx, env, L1)
def sRet (f : M D) : Sm := fun env L => sb env (f env L) fun x L1 => some (.rt x, env, L1)
def sRetN : Sm := fun env L => some (.rt .non, env, L)
def sBrk : Sm := fun env L => some (.bk, env, L)
def sCnt : Sm := fun env L => some (.ct, env, L)
def sIf (t : M Bool) (a b : Sm) : Sm := fun env L => sb env (t env L) fun c L1 => if c = true then a env L1 else b env L1
/-- a target: the value, the slots, the cells -/
abbrev Tg := D → Env → Hh → Option (Env × Hh)
abbrev Tgs := List D → Env → Hh → Option (Env × Hh)
def gVar (i : Nat) : Tg := fun d env L => some (env.set i (some d), L)
def gNil : Tgs := fun ds env L => match ds with
  | [] => some (env, L)
  | _ => none
def gCons (g : Tg) (r : Tgs) : Tgs := fun ds env L => match ds with
  | d :: ds => match g d env L with
    | some (env1, L1) => r ds env1 L1
    | none => none
  | [] => none
/-- a tuple's items to several targets; n: how many targets -/
def gTup (n : Nat) (r : Tgs) : Tg := fun d env L => match d with
  | .tup xs => if xs.length = n then r xs env L else none
  | _ => none
def sAsg (f : M D) (g : Tg) : Sm := fun env L => sb env (f env L) fun x L1 => match g x env L1 with
  | some (env1, L2) => some (.nx, env1, L2)
  | none => none
def sSet (i : Nat) (f : M D) : Sm := sAsg f (gVar i)
def sAug (i : Nat) (g : Op2) (f : M D) : Sm := fun env L => match env[i]? with
  | some (some x) => sb env (f env L) fun y L1 => sb env (g x y L1) fun z L2 => some (.nx, env.set i (some z), L2)
  | _ => none
def sRaise (c : String) : Sm := fun env L => some (.ex ⟨c, []⟩, env, L)

/-- raise C(words, e), whose __init__ keeps e as f -/
def sRaiseF (c f : String) (e : M D) : Sm := fun env L => sb env (e env L) fun d L1 => some (.ex ⟨c, [(f, d)]⟩, env, L1)

/-! ### loops -/
/-- what is walked: items; of a cell's list: the cell, which has to stay -/
inductive Src where
  | items (xs : List D)
  | cell (n : Nat) (xs : List D)
  | pair (st : List (Nat × List D)) (xs : List D)
def Src.xs : Src → List D
  | .items xs => xs
  | .cell _ xs => xs
  | .pair _ xs => xs
/-- the source stands as it was -/
def Src.stays (s : Src) (L : Hh) : Bool := match s with
  | .items _ => true
  | .cell n xs => decide (L[n]? = some (.lst xs))
  | .pair st _ => st.all fun p => decide (L[p.1]? = some (.lst p.2))
abbrev Ms := M Src
/-- turns of a for -/
def forL (s : Src) (g : Tg) (b : Sm) : List D → Sm
  | [], env, L => if s.stays L = true then some (.nx, env, L) else none
  | x :: xs, env, L => if s.stays L = true then match g x env L with
    | none => none
    | some (env1, L1) => match b env1 L1 with
      | some (.nx, env2, L2) => forL s g b xs env2 L2
      | some (.ct, env2, L2) => forL s g b xs env2 L2
      | some (.bk, env2, L2) => some (.nx, env2, L2)
      | r => r
    else none
def sFor (it : Ms) (g : Tg) (b : Sm) : Sm := fun env L => sb env (it env L) fun s L1 => forL s g b s.xs env L1
def whl (t : M Bool) (b : Sm) : Nat → Sm
  | 0, _, _ => none
  | n + 1, env, L => sb env (t env L) fun c L1 => if c = true then match b env L1 with
      | some (.nx, env2, L2) => whl t b n env2 L2
      | some (.ct, env2, L2) => whl t b n env2 L2
      | some (.bk, env2, L2) => some (.nx, env2, L2)
      | r => r
    else some (.nx, env, L1)
/-- while, with the most turns -/
def sWhl (n : Nat) (t : M Bool) (b : Sm) : Sm := whl t b n
/-- .. as many as the number in slot i, and some -/
def sWhlI (i : Nat) (t : M Bool) (b : Sm) : Sm := fun env L => match env[i]? with
  | some (some (.int v)) => whl t b (v.natAbs + 9) env L
  | _ => none

/-! ### list comprehensions -/
def wipeE (env : Env) : List Nat → Env
  | [] => env
  | v :: vs => (wipeE env vs).set v none
def tTrue : M Bool := fun _ L => some (.ok true, L)
/-- turns of a comprehension; n: the cell of the new list -/
def lcL (s : Src) (g : Tg) (t : M Bool) (e : M D) (n : Nat) (env : Env) : List D → Hh → Ro D
  | [], L => if s.stays L = true then some (.ok (.ref n), L) else none
  | x :: xs, L => if s.stays L = true then match g x env L with
    | none => none
    | some (env1, L1) => match t env1 L1 with
      | some (.ok true, L2) => match e env1 L2 with
        | some (.ok d, L3) => match L3[n]? with
          | some (.lst acc) => if acc.length < 10000 then lcL s g t e n env xs (L3.set n (.lst (acc ++ [d]))) else none
          | _ => none
        | _ => none
      | some (.ok false, L2) => lcL s g t e n env xs L2
      | _ => none
    else none
def eLc (own : List Nat) (it : Ms) (g : Tg) (t : M Bool) (e : M D) : M D := fun env L => bnd (it env L) fun s L1 => lcL s g t e L1.length (wipeE env own) s.xs (L1 ++ [.lst []])
/-- x op y op z ..: the first ones as truths -/
def eChain (a : M D) (r : D → M D) : M D := fun env L => bnd (a env L) fun x L1 => r x env L1
/-- the last link, a link ahead of another -/
def chEnd (g : Op2) (c : M D) : D → M D := fun y env L => bnd (c env L) fun z L1 => g y z L1
def chMore (g : Op2) (c : M D) (r : D → M D) : D → M D := fun y env L => bnd (c env L) fun z L1 => bnd (g y z L1) fun b L2 => match b with
  | .bl true => r z env L2
  | .bl false => some (.ok (.bl false), L2)
  | _ => none
/-! ### data read through the cells -/
/-- a list's or a tuple's items -/
def seqOf (L : Hh) : D → Option (List D)
  | .tup xs => some xs
  | d => look L d
/-- all cells' lists written in, n levels deep -/
def deep : Nat → Hh → D → Option D
  | 0, _, _ => none
  | n + 1, L, .tup xs => (xs.mapM (deep n L)).map .tup
  | n + 1, L, .lst xs => (xs.mapM (deep n L)).map .lst
  | n + 1, L, .ref k => match L[k]? with
    | some (.lst xs) => (xs.mapM (deep n L)).map .lst
    | _ => none
  | _ + 1, _, .exn _ _ => none
  | _ + 1, _, .scr _ => none
  | _ + 1, _, d => some d
mutual
/-- equal as Python says it: True is 1 -/
def D.eqv : D → D → Bool
  | .non, .non => true
  | .bl a, .bl b => a == b
  | .bl a, .int j => (if a then 1 else 0) == j
  | .int i, .bl b => i == (if b then 1 else 0)
  | .int a, .int b => a == b
  | .str a, .str b => a == b
  | .tup a, .tup b => D.eqvs a b
  | .lst a, .lst b => D.eqvs a b
  | _, _ => false
def D.eqvs : List D → List D → Bool
  | [], [] => true
  | x :: xs, y :: ys => D.eqv x y && D.eqvs xs ys
  | _, _ => false
end
mutual
/-- no cell is named in it -/
def D.pure : D → Bool
  | .ref _ => false
  | .exn _ _ => false
  | .scr _ => false
  | .tup xs => D.pures xs
  | .lst xs => D.pures xs
  | _ => true
def D.pures : List D → Bool
  | [] => true
  | x :: xs => D.pure x && D.pures xs
end
mutual
/-- no inline list stands in it -/
def D.nolst : D → Bool
  | .lst _ => false
  | .exn _ _ => false
  | .scr _ => false
  | .tup xs => D.nolsts xs
  | _ => true
def D.nolsts : List D → Bool
  | [] => true
  | x :: xs => D.nolst x && D.nolsts xs
end
mutual
/-- the cells' numbers moved -/
def D.shift (k : Nat) : D → D
  | .ref n => .ref (n + k)
  | .tup xs => .tup (D.shifts k xs)
  | .lst xs => .lst (D.shifts k xs)
  | d => d
def D.shifts (k : Nat) : List D → List D
  | [] => []
  | x :: xs => D.shift k x :: D.shifts k xs
end
def Cell.shift (k : Nat) : Cell → Cell
  | .lst xs => .lst (D.shifts k xs)
  | .dK kvs => .dK (kvs.map fun p => (p.1, D.shift k p.2))
  | .dT kvs => .dT (kvs.map fun p => (p.1, D.shift k p.2))
  | .ins c fs => .ins c (fs.map fun p => (p.1, D.shift k p.2))
def Cell.nolst : Cell → Bool
  | .lst xs => D.nolsts xs
  | .dK kvs => kvs.all fun p => D.nolst p.2
  | .dT kvs => kvs.all fun p => D.nolst p.2
  | .ins _ fs => fs.all fun p => D.nolst p.2

/-! ### operators -/
def ok1 (d : D) (L : Hh) : Ro D := some (.ok d, L)
def opI (f : Int → Int → Int) : Op2 := fun x y L => match x, y with
  | .int i, .int j => some (.ok (.int (f i j)), L)
  | _, _ => none
def opSub : Op2 := opI fun i j => i - j
def opAddI : Op2 := opI fun i j => i + j
def small (i : Int) : Bool := Nat.ble i.natAbs 18446744073709551615
def fits (i : Int) : Bool := Nat.ble i.natAbs 1073741823
/-- + of numbers, texts, lists, tuples -/
def opAdd : Op2 := fun x y L => match x, y with
  | .int i, .int j => some (.ok (.int (i + j)), L)
  | .str a, .str b => if a.length + b.length ≤ 100000 then some (.ok (.str (a ++ b)), L) else none
  | .tup a, .tup b => if a.length + b.length ≤ 100000 then some (.ok (.tup (a ++ b)), L) else none
  | x, y => match look L x, look L y with
    | some a, some b => if a.length + b.length ≤ 100000 then some (.ok (.ref L.length), L ++ [.lst (a ++ b)]) else none
    | _, _ => none
def opMul : Op2 := fun x y L => match x, y with
  | .int i, .int j => if small i || small j then some (.ok (.int (i * j)), L) else none
  | _, _ => none
def opDiv : Op2 := fun x y L => match x, y with
  | .int i, .int j => if 0 < j ∧ fits j = true then some (.ok (.int (i / j)), L) else none
  | _, _ => none
def opMod : Op2 := fun x y L => match x, y with
  | .int i, .int j => if 0 < j then some (.ok (.int (i % j)), L) else none
  | _, _ => none
def opPow : Op2 := fun x y L => match x, y with
  | .int i, .int j => if 0 ≤ j ∧ j ≤ 1000000 ∧ small i = true then some (.ok (.int (i ^ j.toNat)), L) else none
  | _, _ => none
def opNeg : Op1 := fun x L => match x with
  | .int i => some (.ok (.int (-i)), L)
  | _ => none
def opCmp (f : Int → Int → Bool) : Op2 := fun x y L => match x, y with
  | .int i, .int j => some (.ok (.bl (f i j)), L)
  | _, _ => none
def opLt : Op2 := fun x y L => match x, y with
  | .int i, .int j => some (.ok (.bl (decide (i < j))), L)
  | .str s, .str t => some (.ok (.bl (decide (s < t))), L)
  | _, _ => none
def opLe : Op2 := opCmp fun i j => decide (i ≤ j)
def opGt : Op2 := opCmp fun i j => decide (j < i)
def opGe : Op2 := opCmp fun i j => decide (j ≤ i)
def eqD (L : Hh) (x y : D) : Option Bool := match deep 8 L x, deep 8 L y with
  | some a, some b => some (D.eqv a b)
  | _, _ => none
def opEq : Op2 := fun x y L => match eqD L x y with
  | some b => some (.ok (.bl b), L)
  | none => none
def opNe : Op2 := fun x y L => match eqD L x y with
  | some b => some (.ok (.bl (!b)), L)
  | none => none
/-- is None, is True, is False -/
def opIs : Op2 := fun x y L => match x, y with
  | x, .non => some (.ok (.bl (decide (x = .non))), L)
  | .bl a, .bl b => some (.ok (.bl (a == b)), L)
  | _, _ => none
def opIsNot : Op2 := fun x y L => match x, y with
  | x, .non => some (.ok (.bl (!decide (x = .non))), L)
  | .bl a, .bl b => some (.ok (.bl (!(a == b))), L)
  | _, _ => none

/-- numbers, texts, truths, None -/
def flatD : D → Bool
  | .non => true
  | .bl _ => true
  | .int _ => true
  | .str _ => true
  | _ => false
def keyOf : D → Option Ky
  | .int i => some (.inl i)
  | .str s => some (.inr s)
  | _ => none
def keysOf : D → Option (List Ky)
  | .tup ds => ds.mapM keyOf
  | _ => none
/-- a dict's item; changed in its place, or behind -/
def lookK {α : Type} [DecidableEq α] (kvs : List (α × D)) (k : α) : Option D := (kvs.find? fun p => decide (p.1 = k)).map (·.2)
def putD {α : Type} [DecidableEq α] (kvs : List (α × D)) (k : α) (v : D) : List (α × D) :=
  if (kvs.any fun p => decide (p.1 = k)) = true then kvs.map (fun p => if p.1 = k then (p.1, v) else p) else kvs ++ [(k, v)]
/-- what stands at a key: none where x is no dict, or y no key of its kind -/
def dGet (L : Hh) (x y : D) : Option (Option D) := match x with
  | .ref n => match L[n]? with
    | some (.dK kvs) => (keyOf y).map (lookK kvs)
    | some (.dT kvs) => (keysOf y).map (lookK kvs)
    | _ => none
  | _ => none
def dPut (L : Hh) (n : Nat) (y d : D) : Option Hh := match L[n]? with
  | some (.dK kvs) => match keyOf y with
    | some k => if kvs.length < 16000000 then some (L.set n (.dK (putD kvs k d))) else none
    | none => none
  | some (.dT kvs) => match keysOf y with
    | some k => if kvs.length < 16000000 then some (L.set n (.dT (putD kvs k d))) else none
    | none => none
  | _ => none
/-- x in y -/
def opInB (L : Hh) (x y : D) : Option Bool := match y with
  | .str s => match x with
    | .str [c] => some (decide (c ∈ s))
    | _ => none
  | .tup ys => if flatD x = true ∧ ys.all flatD = true then some (ys.any fun z => D.eqv z x) else none
  | y => match dGet L y x with
    | some o => some o.isSome
    | none => match deep 8 L y, deep 8 L x with
      | some (.lst zs), some d => some (zs.any fun z => D.eqv z d)
      | _, _ => none
def opIn : Op2 := fun x y L => match opInB L x y with
  | some b => some (.ok (.bl b), L)
  | none => none
def opNotIn : Op2 := fun x y L => match opInB L x y with
  | some b => some (.ok (.bl (!b)), L)
  | none => none
/-- an index, below nought from the end -/
def ixN (n : Nat) (i : Int) : Option Nat := if 0 ≤ i then (if i < n then some i.toNat else none) else if -(n : Int) ≤ i then some (i + n).toNat else none
/-! ### slices -/
def sIx (n d : Nat) : Option Int → Nat
  | none => d
  | some v => if v < 0 then (v + (n : Int)).toNat else min v.toNat n
def cut {α : Type} (xs : List α) (lo hi : Option Int) : List α := (xs.drop (sIx xs.length 0 lo)).take (sIx xs.length xs.length hi - sIx xs.length 0 lo)
def opSl (x : D) (lo hi : Option Int) (L : Hh) : Ro D := match x with
  | .str s => if s.length ≤ 100000 then some (.ok (.str (cut s lo hi)), L) else none
  | .scr ns => some (.ok (.ref L.length), L ++ [.lst (cut (ns.map .int) lo hi)])
  | .tup xs => some (.ok (.tup (cut xs lo hi)), L)
  | x => match look L x with
    | some xs => some (.ok (.ref L.length), L ++ [.lst (cut xs lo hi)])
    | none => none
/-- a part of a slice -/
def pNone : M (Option Int) := fun _ L => some (.ok none, L)
def pSome (a : M D) : M (Option Int) := fun env L => bnd (a env L) fun x L1 => match x with
  | .int i => some (.ok (some i), L1)
  | _ => none
def eSl (a : M D) (lo hi : M (Option Int)) : M D := fun env L => bnd (a env L) fun x L1 => bnd (lo env L1) fun l L2 => bnd (hi env L2) fun u L3 => opSl x l u L3
/-- o[i] = .., o a list or a dict -/
def gSub (o i : M D) : Tg := fun d env L => match o env L with
  | some (.ok (.ref n), L1) => match i env L1 with
    | some (.ok y, L2) => match L2[n]? with
      | some (.lst xs) => match y with
        | .int k => match ixN xs.length k with
          | some j => some (env, L2.set n (.lst (xs.set j d)))
          | none => none
        | _ => none
      | _ => match dPut L2 n y d with
        | some L3 => some (env, L3)
        | none => none
    | _ => none
  | _ => none
/-- {} -/
def eDictK : M D := fun _ L => some (.ok (.ref L.length), L ++ [.dK []])
/-- {k: v, ..}, texts -/
def eDictL (kvs : List (Ky × D)) : M D := fun _ L => some (.ok (.ref L.length), L ++ [.dK kvs])
def eDictT : M D := fun _ L => some (.ok (.ref L.length), L ++ [.dT []])
/-! ### built-ins -/
/-! ### built-ins -/
inductive Ty where
  | int | bool | str | list | tuple
  deriving DecidableEq, Repr
/-- isinstance(x, T) -/
def isTy (L : Hh) (t : Ty) : D → Option Bool
  | .non => some false
  | .bl _ => some (decide (t = .int ∨ t = .bool))
  | .int _ => some (decide (t = .int))
  | .str _ => some (decide (t = .str))
  | .tup _ => some (decide (t = .tuple))
  | .lst _ => some (decide (t = .list))
  | .scr _ => none
  | .ref n => match L[n]? with
    | some (.lst _) => some (decide (t = .list))
    | some (.dK _) => some false
    | some (.dT _) => some false
    | _ => none
  | .exn _ _ => none
def opIsTy (t : Ty) : Op1 := fun x L => match isTy L t x with
  | some b => some (.ok (.bl b), L)
  | none => none
def opLen : Op1 := fun x L => match x with
  | .scr ns => some (.ok (.int ns.length), L)
  | .str s => if s.length ≤ 100000 then some (.ok (.int s.length), L) else none
  | .ref n => match L[n]? with
    | some (.lst xs) => some (.ok (.int xs.length), L)
    | some (.dK kvs) => some (.ok (.int kvs.length), L)
    | some (.dT kvs) => some (.ok (.int kvs.length), L)
    | _ => none
  | x => match seqOf L x with
    | some xs => some (.ok (.int xs.length), L)
    | none => none
def atI {α : Type} (xs : List α) (i : Int) : Option α := (ixN xs.length i).bind fun j => xs[j]?
/-- x[i] of a text, a tuple, a list -/
def opIx : Op2 := fun x y L => match x, y with
  | .str s, .int i => if s.length ≤ 100000 then (match atI s i with
    | some c => some (.ok (.str [c]), L)
    | none => none) else none
  | .scr ns, .int i => match atI ns i with
    | some c => some (.ok (.int c), L)
    | none => none
  | .ref n, y => match L[n]? with
    | some (.lst xs) => match y with
      | .int i => (match atI xs i with
        | some d => some (.ok d, L)
        | none => none)
      | _ => none
    | _ => match dGet L (.ref n) y with
      | some (some d) => some (.ok d, L)
      | _ => none
  | x, .int i => match seqOf L x with
    | some xs => match atI xs i with
      | some d => some (.ok d, L)
      | none => none
    | none => none
  | _, _ => none
def opInt : Op1 := fun x L => match x with
  | .int i => some (.ok (.int i), L)
  | .bl b => some (.ok (.int (if b then 1 else 0)), L)
  | _ => none
/-- abs(x) of a number -/
def opAbs : Op1 := fun x L => match x with
  | .int i => some (.ok (.int (if i < 0 then -i else i)), L)
  | _ => none
/-- list(x) of a list, a tuple -/
def charsD (s : Tx) : List D := s.map fun c => .str [c]
def keyD : Ky → D
  | .inl i => .int i
  | .inr s => .str s
def okK : Ky → Bool
  | .inl _ => true
  | .inr s => s.all fun c => decide (c < 1114112)
/-- a dict's keys -/
def keysD (L : Hh) : D → Option (List D)
  | .ref n => match L[n]? with
    | some (.dK kvs) => if (kvs.all fun p => okK p.1) = true then some (kvs.map fun p => keyD p.1) else none
    | some (.dT kvs) => if (kvs.all fun p => p.1.all okK) = true then some (kvs.map fun p => .tup (p.1.map keyD)) else none
    | _ => none
  | _ => none
def opList : Op1 := fun x L => match x with
  | .str s => if s.length ≤ 10000 then some (.ok (.ref L.length), L ++ [.lst (charsD s)]) else none
  | x => match seqOf L x with
    | some xs => some (.ok (.ref L.length), L ++ [.lst xs])
    | none => match keysD L x with
      | some xs => some (.ok (.ref L.length), L ++ [.lst xs])
      | none => none
/-- list(x) of a list or tuple -/
def opListQ : Op1 := fun x L => match seqOf L x with
  | some xs => some (.ok (.ref L.length), L ++ [.lst xs])
  | none => none
/-- list(reversed(x)), x a list -/
def opListRev : Op1 := fun x L => match look L x with
  | some xs => some (.ok (.ref L.length), L ++ [.lst xs.reverse])
  | none => none
def opTuple : Op1 := fun x L => match seqOf L x with
  | some xs => some (.ok (.tup xs), L)
  | none => none
def opMax : OpN := fun xs L => match xs with
  | [.int i, .int j] => some (.ok (.int (if j > i then j else i)), L)
  | _ => none
def opMin : OpN := fun xs L => match xs with
  | [.int i, .int j] => some (.ok (.int (if j < i then j else i)), L)
  | _ => none

def keyI : D → Option Int
  | .int i => some i
  | _ => none
/-- a tuple of numbers, not empty -/
def keyT : D → Option (List Int)
  | .tup (x :: xs) => (x :: xs).mapM keyI
  | _ => none
/-- max of one list -/
def opMax1 : Op1 := fun x L => match look L x with
  | some ds => match ds.mapM keyI with
    | some (n :: ns) => some (.ok (.int (ns.foldl max n)), L)
    | _ => none
  | none => none
def leI (a b : Int) : Bool := decide (a ≤ b)
def leT (a b : List Int) : Bool := decide (a ≤ b)
/-- sorted(x): numbers, or tuples of numbers -/
def opSorted : Op1 := fun x L => match seqOf L x with
  | none => none
  | some ds => if ds.length ≤ 10000 then match ds.mapM keyI with
    | some ns => some (.ok (.ref L.length), L ++ [.lst ((ns.mergeSort leI).map .int)])
    | none => match x with
      | .tup _ => none
      | _ => match ds.mapM keyT with
        | some rs => some (.ok (.ref L.length), L ++ [.lst ((rs.mergeSort leT).map fun r => .tup (r.map .int))])
        | none => if ds = [.tup []] then some (.ok (.ref L.length), L ++ [.lst [.tup []]]) else none
    else none
/-- a bow; sorted by how far its ends lie apart -/
def bowOf : D → Option (Int × Int)
  | .tup [.int a, .int b] => some (a, b)
  | _ => none
def leW (a b : Int × Int) : Bool := decide (a.2 - a.1 ≤ b.2 - b.1)
def opSortW : Op1 := fun x L => match look L x with
  | some ds => match ds.mapM bowOf with
    | some bs => if bs.length ≤ 10000 then some (.ok (.ref L.length), L ++ [.lst ((bs.mergeSort leW).map fun b => .tup [.int b.1, .int b.2])]) else none
    | none => none
  | none => none
def rangeL (lo : Int) (n : Nat) : List D := (List.range n).map fun k => .int (lo + (k : Nat))
def big (i : Int) : Bool := Nat.ble i.natAbs 4611686018427387903
/-- list(range(..)), tuple(range(..)) -/
def eListR (lo hi : M D) : M D := fun env L => bnd (lo env L) fun x L1 => bnd (hi env L1) fun y L2 => match x, y with
  | .int i, .int j => if big i = true ∧ big j = true ∧ (j - i).toNat ≤ 10000 then some (.ok (.ref L2.length), L2 ++ [.lst (rangeL i (j - i).toNat)]) else none
  | _, _ => none
def eTupR (lo hi : M D) : M D := fun env L => bnd (lo env L) fun x L1 => bnd (hi env L1) fun y L2 => match x, y with
  | .int i, .int j => if big i = true ∧ big j = true ∧ (j - i).toNat ≤ 10000 then some (.ok (.tup (rangeL i (j - i).toNat)), L2) else none
  | _, _ => none
def strD : D → Option Tx
  | .str s => some s
  | _ => none
def joinT (a : Tx) : List Tx → Tx
  | [] => []
  | [p] => p
  | p :: q :: r => p ++ (a ++ joinT a (q :: r))
/-- a.m(x), a a text -/
def eMtS (g : Tx → D → Hh → Ro D) (o a : M D) : M D := fun env L => bnd (o env L) fun x L1 => match x with
  | .str s => bnd (a env L1) fun y L2 => g s y L2
  | _ => none
def mJoin (s : Tx) (y : D) (L : Hh) : Ro D := match seqOf L y with
  | some ds => match ds.mapM strD with
    | some ys => if (ys.map (·.length)).sum + ys.length * s.length ≤ 100000 then some (.ok (.str (joinT s ys)), L) else none
    | none => none
  | none => none
def truthD : D → Option Bool
  | .bl b => some b
  | _ => none
/-- any, all of a list of truths -/
def opAny : Op1 := fun x L => match look L x with
  | some ds => match ds.mapM truthD with
    | some bs => some (.ok (.bl (bs.any id)), L)
    | none => none
  | none => none
def opAll : Op1 := fun x L => match look L x with
  | some ds => match ds.mapM truthD with
    | some bs => some (.ok (.bl (bs.all id)), L)
    | none => none
  | none => none
/-- s.index(c), c one sign -/
def mIndexS (s : Tx) (y : D) (L : Hh) : Ro D := match y with
  | .str [c] => match s.findIdx? fun d => decide (d = c) with
    | some i => some (.ok (.int i), L)
    | none => none
  | _ => none
/-! ### methods -/
def mAppend : D → OpN := fun o xs L => match o, xs with
  | .ref n, [x] => match L[n]? with
    | some (.lst ys) => if ys.length < 10000 then some (.ok .non, L.set n (.lst (ys ++ [x]))) else none
    | _ => none
  | _, _ => none
def mPop : D → OpN := fun o xs L => match o, xs with
  | .ref n, [] => match L[n]? with
    | some (.lst ys) => match ys.getLast? with
      | some y => some (.ok y, L.set n (.lst ys.dropLast))
      | none => none
    | _ => none
  | .ref n, [.int i] => match L[n]? with
    | some (.lst ys) => match ixN ys.length i with
      | some k => match ys[k]? with
        | some y => some (.ok y, L.set n (.lst (ys.eraseIdx k)))
        | none => none
      | none => none
    | _ => none
  | _, _ => none
def mInsert : D → OpN := fun o xs L => match o, xs with
  | .ref n, [.int i, x] => match L[n]? with
    | some (.lst ys) => if ys.length < 10000 ∧ 0 ≤ i ∧ big i = true then some (.ok .non, L.set n (.lst (ys.take i.toNat ++ [x] ++ ys.drop i.toNat))) else none
    | _ => none
  | _, _ => none
def mReverse : D → OpN := fun o xs L => match o, xs with
  | .ref n, [] => match L[n]? with
    | some (.lst ys) => some (.ok .non, L.set n (.lst ys.reverse))
    | _ => none
  | _, _ => none
def lastOr (xs : List D) : D := xs.getLastD .non

/-- max(x, default=y), of numbers -/
def opMaxD : Op2 := fun x y L => match look L x, y with
  | some ds, .int k => match ds.mapM keyI with
    | some [] => some (.ok (.int k), L)
    | some (n :: ns) => some (.ok (.int (ns.foldl max n)), L)
    | none => none
  | _, _ => none
/-! ### extend, get, a text times a number -/
def mExtend : D → OpN := fun o xs L => match o, xs with
  | .ref n, [y] => match L[n]? with
    | some (.lst ys) => match look L y with
      | some zs => if ys.length + zs.length ≤ 10000 then some (.ok .non, L.set n (.lst (ys ++ zs))) else none
      | none => none
    | _ => none
  | _, _ => none
def isDk (L : Hh) : D → Bool
  | .ref n => match L[n]? with
    | some (.dK _) => true
    | some (.dT _) => true
    | _ => false
  | _ => false
/-- d.get(y, z) -/
def eDGet2 (o a b : M D) : M D := fun env L => bnd (o env L) fun x L1 => if isDk L1 x = true then bnd (a env L1) fun y L2 => bnd (b env L2) fun z L3 => match dGet L3 x y with
  | some r => some (.ok (r.getD z), L3)
  | none => none else none
/-- d.get(y) -/
def eDGet1 (o a : M D) : M D := fun env L => bnd (o env L) fun x L1 => if isDk L1 x = true then bnd (a env L1) fun y L2 => match dGet L2 x y with
  | some r => some (.ok (r.getD .non), L2)
  | none => none else none
def opMulS : Op2 := fun x y L => match x, y with
  | .str s, .int k => if 2 ≤ k ∧ s.length ≠ 0 ∧ k ≤ 100000 ∧ s.length * k.toNat ≤ 100000 then some (.ok (.str (List.replicate k.toNat s).flatten), L) else none
  | _, _ => none

/-- text * number, the number any -/
def opMulT : Op2 := fun x y L => match x, y with
  | .str s, .int k => if -100000 ≤ k ∧ k ≤ 100000 ∧ s.length * k.toNat ≤ 100000 then some (.ok (.str (List.replicate k.toNat s).flatten), L) else none
  | _, _ => none
/-- xs.index(i), a list of numbers -/
def mIndexL : D → OpN := fun o xs L => match xs with
  | [.int i] => match look L o with
    | some ys => match ys.mapM keyI with
      | some ns => match ns.findIdx? fun n => decide (n = i) with
        | some j => some (.ok (.int (j : Nat)), L)
        | none => none
      | none => none
    | none => none
  | _ => none
/-- xs.count(x) -/
def mCountL : D → OpN := fun o xs L => match o, xs with
  | .ref n, [x] => match deep 8 L (.ref n), deep 8 L x with
    | some (.lst zs), some d => some (.ok (.int (zs.countP fun z => D.eqv z d : Nat)), L)
    | _, _ => none
  | _, _ => none
/-- xs.clear() -/
def mClear : D → OpN := fun o xs L => match o, xs with
  | .ref n, [] => match L[n]? with
    | some (.lst _) => some (.ok .non, L.set n (.lst []))
    | _ => none
  | _, _ => none
/-! ### instances -/
def putS (f : String) (d : D) : List (String × D) → List (String × D)
  | [] => [(f, d)]
  | (g, x) :: r => if g = f then (g, d) :: r else (g, x) :: putS f d r
/-- o.f, o of the class cs -/
def eAttr (cs f : String) (o : M D) : M D := fun env L => bnd (o env L) fun x L1 => match x with
  | .ref n => match L1[n]? with
    | some (.ins c fs) => if c = cs then (match fs.lookup f with
      | some d => some (.ok d, L1)
      | none => none) else none
    | _ => none
  | _ => none
/-- o.f = v -/
def sAttr (cs f : String) (o v : M D) : Sm := fun env L => sb env (v env L) fun y L1 => sb env (o env L1) fun x L2 => match x with
  | .ref n => match L2[n]? with
    | some (.ins c fs) => if c = cs ∧ fs.length < 1000 then some (.nx, env, L2.set n (.ins c (putS f y fs))) else none
    | _ => none
  | _ => none
/-- o.m(..) -/
def eMeth (cs m : String) (n : Nat) (fm : Fn) (o : M D) (as : M (List D)) : M D := fun env L => bnd (o env L) fun x L1 => match x with
  | .ref i => match L1[i]? with
    | some (.ins c fs) => if c = cs ∧ fs.lookup m = none then bnd (as env L1) fun xs L2 => if xs.length + 1 = n then fm (x :: xs) L2 else none else none
    | _ => none
  | _ => none
/-- C(): a new instance, then its __init__, which raises nothing -/
def eMake0 (cs : String) (fm : Fn) : M D := fun env L => match fm [.ref L.length] (L ++ [.ins cs []]) with
  | some (.ok .non, L2) => some (.ok (.ref L.length), L2)
  | _ => none

/-! ### try -/
/-- the clauses by an exception's class: the suite that takes it -/
def hEnd : Ex → Option Sm := fun _ => none
def hCls (tab : List (String × Bool)) (s : Sm) (r : Ex → Option Sm) : Ex → Option Sm := fun e => match tab.lookup e.c with
  | some true => some s
  | some false => r e
  | none => none
/-- a try whose suites raise nothing -/
def sTry (b : Sm) (hs : Ex → Option Sm) : Sm := fun env L => match b env L with
  | some (.ex e, env1, L1) => match hs e with
    | some s => match s env1 L1 with
      | some (.ex _, _, _) => none
      | r => r
    | none => none
  | r => r
/-! ### the caught exception in hand: an address that nobody may look at -/
/-- the exception's field, where it has one: in the dict at z -/
def fldOk (z : Option Nat) : List D → Bool
  | [] => decide (z = none)
  | [.exn _ [.int dx, _]] => decide (z.map (fun n : Nat => (n : Int)) = some dx)
  | _ => false
/-- e.f of an exception of one of the classes cs -/
def opFld (c : String) (a : Nat) (z : Option Nat) (cs : List String) (fn : String) : Op1 := fun x L => match x with
  | .exn c' [.int i, .exn f [.int dx, d]] => if c' = c ∧ i = (a : Int) ∧ f = fn ∧ c ∈ cs ∧ z.map (fun n : Nat => (n : Int)) = some dx then some (.ok d, L) else none
  | _ => none
/-- isinstance(e, ..) of the exception of class c at a: tab tells -/
def opIsP (c : String) (a : Nat) (z : Option Nat) (tab : List (String × Bool)) : Op1 := fun x L => match x with
  | .exn c' (.int i :: fs) => if c' = c ∧ i = (a : Int) ∧ fldOk z fs = true then (match tab.lookup c with
    | some b => some (.ok (.bl b), L)
    | none => none) else none
  | _ => none
/-- isinstance(e, (A, B, ..)) -/
def anyTab (c : String) : List (List (String × Bool)) → Option Bool
  | [] => some false
  | t :: r => match t.lookup c with
    | some true => some true
    | some false => anyTab c r
    | none => none
def opIsT (c : String) (a : Nat) (z : Option Nat) (tabs : List (List (String × Bool))) : Op1 := fun x L => match x with
  | .exn c' (.int i :: fs) => if c' = c ∧ i = (a : Int) ∧ fldOk z fs = true then (match anyTab c tabs with
    | some b => some (.ok (.bl b), L)
    | none => none) else none
  | _ => none
open Classical in
/-- what is the same at any address -/
noncomputable def hotS (f : Nat → So) : So := if h : ∃ r, ∀ a, f a = r then Classical.choose h else none
theorem hotS_eq {f : Nat → So} {r : So} (h : ∀ a, f a = r) : hotS f = r := by
  unfold hotS
  have h' : ∃ r, ∀ a, f a = r := ⟨r, h⟩
  rw [dif_pos h', ← Classical.choose_spec h' 0, h 0]
theorem hotS_ne {f : Nat → So} {a : Nat} (h : hotS f ≠ none) : f a = hotS f := by
  unfold hotS at h ⊢
  split at h
  · rename_i h'
    rw [dif_pos h']
    exact Classical.choose_spec h' a
  · exact absurd rfl h
/-- the suite of 'except .. as e', e in slot i; no exception leaves it -/
def suiteS (g : String → Nat → Option Nat → Sm) (i : Nat) (c : String) (z : Option Nat) (fs : List D) (env : Env) (L : Hh) (a : Nat) : So := match g c a z (env.set i (some (.exn c (.int (a : Nat) :: fs)))) L with
  | some (.ex _, _, _) => none
  | some (o, env2, L2) => some (o, env2.set i none, L2)
  | none => none
/-- try: b except X as e: g -/
noncomputable def sTryAs (b : Sm) (tab : List (String × Bool)) (i : Nat) (g : String → Nat → Option Nat → Sm) : Sm := fun env L => match b env L with
  | some (.ex e, env1, L1) => match tab.lookup e.c with
    | some true => match e.fs with
      | [] => hotS (suiteS g i e.c none [] env1 L1)
      | [(fn, d)] => if d.pure = true ∧ d.nolst = true then hotS fun dx => hotS (suiteS g i e.c (some dx) [.exn fn [.int (dx : Nat), d]] env1 L1) else none
      | _ => none
    | some false => some (.ex e, env1, L1)
    | none => none
  | r => r
/-- a list alone -/
def iLs (a : M D) : Ms := fun env L => bnd (a env L) fun x L1 => match x with
  | .ref n => match L1[n]? with
    | some (.lst xs) => some (.ok (.cell n xs), L1)
    | _ => none
  | _ => none
/-! ### what is walked -/
def iRange1 (a : M D) : Ms := fun env L => bnd (a env L) fun x L1 => match x with
  | .int j => if big j = true then some (.ok (.items (rangeL 0 j.toNat)), L1) else none
  | _ => none
/-- reversed(range(n)) -/
def rangeD (n : Nat) : List D := (List.range n).map fun k => .int ((n : Nat) - 1 - (k : Nat) : Int)
def iRevR1 (a : M D) : Ms := fun env L => bnd (a env L) fun x L1 => match x with
  | .int j => if big j = true then some (.ok (.items (rangeD j.toNat)), L1) else none
  | _ => none
def iRange2 (a b : M D) : Ms := fun env L => bnd (a env L) fun x L1 => bnd (b env L1) fun y L2 => match x, y with
  | .int i, .int j => if big i = true ∧ big j = true then some (.ok (.items (rangeL i (j - i).toNat)), L2) else none
  | _, _ => none
/-- range(a, b, 2) -/
def rangeT (lo : Int) (n : Nat) : List D := (List.range n).map fun k => .int (lo + (k : Nat) * 2)
def iRangeT (a b : M D) : Ms := fun env L => bnd (a env L) fun x L1 => bnd (b env L1) fun y L2 => match x, y with
  | .int i, .int j => if big i = true ∧ big j = true then some (.ok (.items (rangeT i (if i < j then (j - i - 1) / 2 + 1 else 0).toNat)), L2) else none
  | _, _ => none
/-- a list, a tuple, a text -/
def iSeq (a : M D) : Ms := fun env L => bnd (a env L) fun x L1 => match x with
  | .tup xs => some (.ok (.items xs), L1)
  | .lst xs => some (.ok (.items xs), L1)
  | .ref n => match L1[n]? with
    | some (.lst xs) => some (.ok (.cell n xs), L1)
    | _ => none
  | .str s => some (.ok (.items (s.map fun c => .str [c])), L1)
  | _ => none

def cellOf : D → List D → List (Nat × List D)
  | .ref n, xs => [(n, xs)]
  | _, _ => []
/-- the items of a list or a tuple -/
def lookZ (L : Hh) : D → Option (List D)
  | .tup xs => some xs
  | d => look L d
/-- zip of a list, and a list or a tuple -/
def iZip (a b : M D) : Ms := fun env L => bnd (a env L) fun x L1 => bnd (b env L1) fun y L2 => match look L2 x, lookZ L2 y with
  | some xs, some ys => some (.ok (.pair (cellOf x xs ++ cellOf y ys) (List.zipWith (fun u v => .tup [u, v]) xs ys)), L2)
  | _, _ => none
/-! ### defs -/
/-- the cells' lists written in (as read-only data), for a call -/
def frz (L : Hh) : D → Option D
  | .scr ns => some (.scr ns)
  | .exn c fs => some (.exn c fs)
  | d => deep 8 L d
/-- a def of n arguments that does not change them: it runs by itself on the data -/
def callI (f : Fn) (xs : List D) (L1 : Hh) : Ro D := match xs.mapM (frz L1) with
    | none => none
    | some ds => match f ds [] with
      | none => none
      | some (.ok r, L2) => if D.pures xs = true ∨ (r.nolst = true ∧ L2.all Cell.nolst = true) then some (.ok (r.shift L1.length), L1 ++ L2.map (Cell.shift L1.length)) else none
      | some (.ex e, _) => if e.fs.all (fun p => p.2.pure && p.2.nolst) = true then some (.ex e, L1) else none
def eCall (n : Nat) (f : Fn) (as : M (List D)) : M D := fun env L => bnd (as env L) fun xs L1 => if xs.length = n then callI f xs L1 else none
/-- a def that may: it runs on the cells as they are -/
def eCallM (n : Nat) (f : Fn) (as : M (List D)) : M D := fun env L => bnd (as env L) fun xs L1 => if xs.length = n then f xs L1 else none
mutual
def D.ren (f : Nat → Nat) : D → D
  | .ref n => .ref (f n)
  | .tup xs => .tup (D.rens f xs)
  | .lst xs => .lst (D.rens f xs)
  | d => d
def D.rens (f : Nat → Nat) : List D → List D
  | [] => []
  | x :: xs => D.ren f x :: D.rens f xs
end
mutual
/-- the cells that it names -/
def D.refs : D → List Nat
  | .ref n => [n]
  | .tup xs => D.refss xs
  | .lst xs => D.refss xs
  | _ => []
def D.refss : List D → List Nat
  | [] => []
  | x :: xs => D.refs x ++ D.refss xs
end
def Cell.ren (f : Nat → Nat) : Cell → Cell
  | .lst xs => .lst (D.rens f xs)
  | .dK kvs => .dK (kvs.map fun p => (p.1, D.ren f p.2))
  | .dT kvs => .dT (kvs.map fun p => (p.1, D.ren f p.2))
  | .ins c fs => .ins c (fs.map fun p => (p.1, D.ren f p.2))
def Cell.refs : Cell → List Nat
  | .lst xs => D.refss xs
  | .dK kvs => kvs.flatMap fun p => D.refs p.2
  | .dT kvs => kvs.flatMap fun p => D.refs p.2
  | .ins _ fs => fs.flatMap fun p => D.refs p.2
def refsAt (L : Hh) (r : Nat) : List Nat := match L[r]? with
  | some c => c.refs
  | none => []
def gcList (n : Nat) (d : D) (L : Hh) : List Nat :=
  let a := d.refs.filter fun r => decide (n ≤ r)
  let b := (a.flatMap (refsAt L)).filter fun r => decide (n ≤ r)
  let c := (b.flatMap (refsAt L)).filter fun r => decide (n ≤ r)
  a ++ (b ++ c)
def gcOk (n : Nat) (d : D) (L : Hh) (rs : List Nat) : Bool :=
  decide rs.Nodup && d.refs.all (fun q => decide (q < n) || decide (q ∈ rs)) && rs.all (fun r => decide (n ≤ r) && decide (r < L.length) && (refsAt L r).all fun q => decide (q < n) || decide (q ∈ rs)) && (L.take n).all fun c => c.refs.all fun q => decide (q < n)
def gcNum (n : Nat) (rs : List Nat) (r : Nat) : Nat := if r < n then r else n + rs.idxOf r
/-- a result with the cells that it names, and no others behind the first n -/
def gc (n : Nat) (d : D) (L : Hh) : D × Hh :=
  if gcOk n d L (gcList n d L) = true then (d.ren (gcNum n (gcList n d L)), L.take n ++ (gcList n d L).map fun r => Cell.ren (gcNum n (gcList n d L)) (L.getD r default)) else (d, L)
/-- a def's body: the slots, the arguments; what falls out of it gives None -/
def run (slots : Nat) (b : Sm) : Fn := fun ds L => match b (ds.map some ++ List.replicate (slots - ds.length) none) L with
  | some (.nx, _, L1) => some (.ok (gc L.length .non L1).1, (gc L.length .non L1).2)
  | some (.rt d, _, L1) => some (.ok (gc L.length d L1).1, (gc L.length d L1).2)
  | some (.ex e, _, L1) => some (.ex e, L1)
  | _ => none
end Rg
namespace Rg
/-! ### a text cut at a sign; how often a sign stands in it -/
def splitT (c : Nat) : Tx → List Tx
  | [] => [[]]
  | x :: r => if x = c then [] :: splitT c r else match splitT c r with
    | p :: ps => (x :: p) :: ps
    | [] => [[x]]
def mSplit (s : Tx) (y : D) (L : Hh) : Ro D := match y with
  | .str [c] => if s.length ≤ 100000 then some (.ok (.ref L.length), L ++ [.lst ((splitT c s).map D.str)]) else none
  | _ => none
def mCountT (s : Tx) (y : D) (L : Hh) : Ro D := match y with
  | .str [c] => some (.ok (.int (s.count c : Nat)), L)
  | _ => none
/-- reversed(a tuple), walked -/
def iRevT (a : M D) : Ms := fun env L => bnd (a env L) fun x L1 => match x with
  | .tup xs => some (.ok (.items xs.reverse), L1)
  | _ => none
@[simp] theorem iRevT_at {a : M D} {env : Env} {L : Hh} : iRevT a env L = bnd (a env L) fun x L1 => match x with
  | .tup xs => some (.ok (.items xs.reverse), L1)
  | _ => none := rfl
/-- list(d.values()), the keys tuples -/
def opListVals : Op1 := fun x L => match x with
  | .ref n => match L[n]? with
    | some (.dT ps) => some (.ok (.ref L.length), L ++ [.lst (ps.map (·.2))])
    | _ => none
  | _ => none
@[simp] theorem opListVals_ref {n : Nat} {L : Hh} : opListVals (.ref n) L = match L[n]? with
    | some (.dT ps) => some (.ok (.ref L.length), L ++ [.lst (ps.map (·.2))])
    | _ => none := rfl
/-- [x for x in d if d[x] == 'v'], the keys tuples -/
def keysEq (v : Tx) (ps us : List (List Ky × D)) : List (List Ky) := (us.filter fun p => decide (lookK ps p.1 = some (.str v))).map (·.1)
def strAt (ps : List (List Ky × D)) (k : List Ky) : Bool := match lookK ps k with
  | some (.str _) => true
  | _ => false
def opKeysEq (v : Tx) : Op1 := fun x L => match x with
  | .ref n => match L[n]? with
    | some (.dT ps) => if (decide (ps.length ≤ 10000) && ps.all fun p => p.1.all okK && strAt ps p.1) = true then some (.ok (.ref L.length), L ++ [.lst ((keysEq v ps ps).map fun k => .tup (k.map keyD))]) else none
    | _ => none
  | _ => none
def eKeysEq (j k : Nat) (v : Tx) : M D := fun env L => if k < env.length then bnd (eVar j env L) (opKeysEq v) else none
/-- {x[0]: True}, x a list, its first element a tuple -/
def eDisp1 (j : Nat) : M D := fun env L => bnd (eVar j env L) fun x L1 => match look L1 x with
  | some (.tup ks :: _) => match keysOf (.tup ks) with
    | some kk => some (.ok (.ref L1.length), L1 ++ [.dT [(kk, .bl true)]])
    | none => none
  | _ => none
theorem splitT_ne (c : Nat) : ∀ s : Tx, ∃ p ps, splitT c s = p :: ps
  | [] => ⟨_, _, rfl⟩
  | x :: r => by
    obtain ⟨p, ps, h⟩ := splitT_ne c r
    rw [splitT, h]
    split
    · exact ⟨_, _, rfl⟩
    · exact ⟨_, _, rfl⟩
theorem splitT_free (c : Nat) : ∀ s : Tx, ∀ p ∈ splitT c s, c ∉ p
  | [], p, hp => by
    rw [splitT, List.mem_singleton] at hp
    rw [hp]
    simp
  | x :: r, p, hp => by
    obtain ⟨q, qs, h⟩ := splitT_ne c r
    have ih := splitT_free c r
    rw [h] at ih
    rw [splitT, h] at hp
    split at hp
    · rcases List.mem_cons.mp hp with rfl | hp
      · simp
      · exact ih p hp
    · rename_i hx
      rcases List.mem_cons.mp hp with rfl | hp
      · intro hc
        rcases List.mem_cons.mp hc with rfl | hc
        · exact hx rfl
        · exact ih q List.mem_cons_self hc
      · exact ih p (List.mem_cons_of_mem _ hp)
theorem splitT_sub (c : Nat) : ∀ s : Tx, ∀ p ∈ splitT c s, ∀ x ∈ p, x ∈ s
  | [], p, hp => by
    rw [splitT, List.mem_singleton] at hp
    rw [hp]
    simp
  | x :: r, p, hp => by
    obtain ⟨q, qs, h⟩ := splitT_ne c r
    have ih := splitT_sub c r
    rw [h] at ih
    rw [splitT, h] at hp
    intro y hy
    split at hp
    · rcases List.mem_cons.mp hp with rfl | hp
      · simp at hy
      · exact List.mem_cons_of_mem _ (ih p hp y hy)
    · rcases List.mem_cons.mp hp with rfl | hp
      · rcases List.mem_cons.mp hy with rfl | hy
        · exact List.mem_cons_self
        · exact List.mem_cons_of_mem _ (ih q List.mem_cons_self y hy)
      · exact List.mem_cons_of_mem _ (ih p (List.mem_cons_of_mem _ hp) y hy)
theorem joinT_cons2 (a p : Tx) {ps : List Tx} (h : ps ≠ []) : joinT a (p :: ps) = p ++ (a ++ joinT a ps) := by
  cases ps with
  | nil => exact absurd rfl h
  | cons q r => rfl
/-- parts without the sign, joined by it and cut again -/
theorem splitT_app (c : Nat) (r : Tx) : ∀ p : Tx, c ∉ p → splitT c (p ++ c :: r) = p :: splitT c r
  | [], _ => by
    rw [List.nil_append, splitT, if_pos rfl]
  | x :: p, h => by
    simp only [List.mem_cons, not_or] at h
    rw [List.cons_append, splitT, if_neg (fun e => h.1 e.symm), splitT_app c r p h.2]
theorem splitT_one (c : Nat) : ∀ p : Tx, c ∉ p → splitT c p = [p]
  | [], _ => rfl
  | x :: p, h => by
    simp only [List.mem_cons, not_or] at h
    rw [splitT, if_neg (fun e => h.1 e.symm), splitT_one c p h.2]
theorem splitT_join (c : Nat) : ∀ ps : List Tx, ps ≠ [] → (∀ p ∈ ps, c ∉ p) → splitT c (joinT [c] ps) = ps
  | [], h, _ => absurd rfl h
  | [p], _, h => splitT_one c p (h p List.mem_cons_self)
  | p :: q :: r, _, h => by
    rw [joinT_cons2 _ _ (by simp), List.singleton_append, splitT_app c _ p (h p List.mem_cons_self), splitT_join c (q :: r) (by simp) fun p hp => h p (List.mem_cons_of_mem _ hp)]
end Rg
namespace Rg
/-! ### sorted(x), x a list of lists of numbers -/
def listI (L : Hh) : D → Option (Nat × List Int)
  | .ref n => match L[n]? with
    | some (.lst xs) => (xs.mapM keyI).map fun r => (n, r)
    | _ => none
  | _ => none
def leLL (p q : Nat × List Int) : Bool := leT p.2 q.2
def opSortL : Op1 := fun x L => match look L x with
  | some ds => if ds.length ≤ 10000 then (match ds.mapM (listI L) with
    | some ps => some (.ok (.ref L.length), L ++ [.lst ((ps.mergeSort leLL).map fun p => .ref p.1)])
    | none => none) else none
  | none => none
/-! ### try with several clauses, some of which name the exception -/
inductive Hm where
  | pl (tab : List (String × Bool)) (s : Sm)
  | nm (tab : List (String × Bool)) (i : Nat) (g : String → Nat → Option Nat → Sm)
noncomputable def namedS (i : Nat) (g : String → Nat → Option Nat → Sm) (e : Ex) (env : Env) (L : Hh) : So := match e.fs with
  | [] => hotS (suiteS g i e.c none [] env L)
  | [(fn, d)] => if d.pure = true ∧ d.nolst = true then hotS fun dx => hotS (suiteS g i e.c (some dx) [.exn fn [.int (dx : Nat), d]] env L) else none
  | _ => none
def plainS (s : Sm) (env : Env) (L : Hh) : So := match s env L with
  | some (.ex _, _, _) => none
  | r => r
noncomputable def hmGo (e : Ex) (env : Env) (L : Hh) : List Hm → So
  | [] => some (.ex e, env, L)
  | .pl tab s :: r => match tab.lookup e.c with
    | some true => plainS s env L
    | some false => hmGo e env L r
    | none => none
  | .nm tab i g :: r => match tab.lookup e.c with
    | some true => namedS i g e env L
    | some false => hmGo e env L r
    | none => none
noncomputable def sTryMx (b : Sm) (hs : List Hm) : Sm := fun env L => match b env L with
  | some (.ex e, env1, L1) => hmGo e env1 L1 hs
  | r => r
theorem sTryMx_no {b : Sm} {hs : List Hm} {env env1 : Env} {L L1 : Hh} {o : Out} (h : b env L = some (o, env1, L1)) (ho : ∀ e, o ≠ .ex e) : sTryMx b hs env L = some (o, env1, L1) := by
  unfold sTryMx
  rw [h]
  cases o with
  | ex e => exact absurd rfl (ho e)
  | _ => rfl
theorem sTryMx_ex {b : Sm} {hs : List Hm} {env env1 : Env} {L L1 : Hh} {e : Ex} (h : b env L = some (.ex e, env1, L1)) : sTryMx b hs env L = hmGo e env1 L1 hs := by
  unfold sTryMx
  rw [h]
theorem namedS_fl {i : Nat} {g : String → Nat → Option Nat → Sm} {c fn : String} {d : D} {env : Env} {L : Hh} {r : So} (hp : d.pure = true ∧ d.nolst = true) (h : ∀ dx a, suiteS g i c (some dx) [.exn fn [.int (dx : Nat), d]] env L a = r) : namedS i g ⟨c, [(fn, d)]⟩ env L = r := by
  unfold namedS
  dsimp only
  rw [if_pos hp]
  exact hotS_eq fun dx => hotS_eq fun a => h dx a
theorem namedS_no {i : Nat} {g : String → Nat → Option Nat → Sm} {c : String} {env : Env} {L : Hh} {r : So} (h : ∀ a, suiteS g i c none [] env L a = r) : namedS i g ⟨c, []⟩ env L = r := by
  unfold namedS
  exact hotS_eq h
end Rg
/-! Pl: the pure layer's lemmas. -/
namespace Rg
/-! ### one step of each combinator -/
section
variable {env : Env} {L : Hh}
@[simp] theorem eVar_at {i : Nat} : eVar i env L = match env[i]? with
  | some (some d) => some (.ok d, L)
  | _ => none := rfl
@[simp] theorem eC_at {d : D} : eC d env L = some (.ok d, L) := rfl
@[simp] theorem aNil_at : aNil env L = some (.ok [], L) := rfl
@[simp] theorem aCons_at {f : M D} {r : M (List D)} : aCons f r env L = bnd (f env L) fun x L1 => bnd (r env L1) fun xs L2 => some (.ok (x :: xs), L2) := rfl
@[simp] theorem eTup_at {as : M (List D)} : eTup as env L = bnd (as env L) fun xs L1 => if xs.length ≤ 10000 then some (.ok (.tup xs), L1) else none := rfl
@[simp] theorem eLst_at {as : M (List D)} : eLst as env L = bnd (as env L) fun xs L1 => if xs.length ≤ 10000 then some (.ok (.ref L1.length), L1 ++ [.lst xs]) else none := rfl
@[simp] theorem eBin_at {g : Op2} {a b : M D} : eBin g a b env L = bnd (a env L) fun x L1 => bnd (b env L1) fun y L2 => g x y L2 := rfl
@[simp] theorem eUn_at {g : Op1} {a : M D} : eUn g a env L = bnd (a env L) fun x L1 => g x L1 := rfl
@[simp] theorem eNary_at {g : OpN} {as : M (List D)} : eNary g as env L = bnd (as env L) fun xs L1 => g xs L1 := rfl
@[simp] theorem eMtL_at {g : D → OpN} {o : M D} {as : M (List D)} : eMtL g o as env L = bnd (o env L) fun x L1 => match look L1 x with
  | none => none
  | some _ => bnd (as env L1) fun xs L2 => g x xs L2 := rfl
@[simp] theorem eIf_at {t : M Bool} {a b : M D} : eIf t a b env L = bnd (t env L) fun c L1 => if c = true then a env L1 else b env L1 := rfl
@[simp] theorem eAnd_at {a b : M D} : eAnd a b env L = bnd (a env L) fun x L1 => match x with
  | .bl true => b env L1
  | .bl false => some (.ok (.bl false), L1)
  | _ => none := rfl
@[simp] theorem eOr_at {a b : M D} : eOr a b env L = bnd (a env L) fun x L1 => match x with
  | .bl true => some (.ok (.bl true), L1)
  | .bl false => b env L1
  | _ => none := rfl
@[simp] theorem eNot_at {a : M D} : eNot a env L = bnd (a env L) fun x L1 => match x with
  | .bl c => some (.ok (.bl (!c)), L1)
  | _ => none := rfl
@[simp] theorem tVal_at {a : M D} : tVal a env L = bnd (a env L) fun x L1 => match x with
  | .bl c => some (.ok c, L1)
  | _ => none := rfl
@[simp] theorem tAnd_at {a b : M Bool} : tAnd a b env L = bnd (a env L) fun c L1 => if c = true then b env L1 else some (.ok false, L1) := rfl
@[simp] theorem tOr_at {a b : M Bool} : tOr a b env L = bnd (a env L) fun c L1 => if c = true then some (.ok true, L1) else b env L1 := rfl
@[simp] theorem tNot_at {a : M Bool} : tNot a env L = bnd (a env L) fun c L1 => some (.ok (!c), L1) := rfl
@[simp] theorem sNil_at : sNil env L = some (.nx, env, L) := rfl
theorem sSeq_at {a b : Sm} : sSeq a b env L = match a env L with
  | some (.nx, env1, L1) => b env1 L1
  | r => r := rfl
@[simp] theorem sExpr_at {f : M D} : sExpr f env L = sb env (f env L) fun _ L1 => some (.nx, env, L1) := rfl
@[simp] theorem sRet_at {f : M D} : sRet f env L = sb env (f env L) fun x L1 => some (.rt x, env, L1) := rfl
@[simp] theorem sRetN_at : sRetN env L = some (.rt .non, env, L) := rfl
@[simp] theorem sBrk_at : sBrk env L = some (.bk, env, L) := rfl
@[simp] theorem sCnt_at : sCnt env L = some (.ct, env, L) := rfl
@[simp] theorem sIf_at {t : M Bool} {a b : Sm} : sIf t a b env L = sb env (t env L) fun c L1 => if c = true then a env L1 else b env L1 := rfl
@[simp] theorem sSet_at {i : Nat} {f : M D} : sSet i f env L = sb env (f env L) fun x L1 => some (.nx, env.set i (some x), L1) := rfl
@[simp] theorem sAsg_at {f : M D} {g : Tg} : sAsg f g env L = sb env (f env L) fun x L1 => match g x env L1 with
  | some (env1, L2) => some (.nx, env1, L2)
  | none => none := rfl
@[simp] theorem gVar_at {i : Nat} {d : D} : gVar i d env L = some (env.set i (some d), L) := rfl
@[simp] theorem sAug_at {i : Nat} {g : Op2} {f : M D} : sAug i g f env L = match env[i]? with
  | some (some x) => sb env (f env L) fun y L1 => sb env (g x y L1) fun z L2 => some (.nx, env.set i (some z), L2)
  | _ => none := rfl
@[simp] theorem sRaise_at {c : String} : sRaise c env L = some (.ex ⟨c, []⟩, env, L) := rfl
theorem sFor_at {it : Ms} {g : Tg} {b : Sm} : sFor it g b env L = sb env (it env L) fun s L1 => forL s g b s.xs env L1 := rfl
theorem sWhl_at {n : Nat} {t : M Bool} {b : Sm} : sWhl n t b env L = whl t b n env L := rfl
@[simp] theorem iRevR1_at {a : M D} : iRevR1 a env L = bnd (a env L) fun x L1 => match x with
  | .int j => if big j = true then some (.ok (.items (rangeD j.toNat)), L1) else none
  | _ => none := rfl
@[simp] theorem iRange1_at {a : M D} : iRange1 a env L = bnd (a env L) fun x L1 => match x with
  | .int j => if big j = true then some (.ok (.items (rangeL 0 j.toNat)), L1) else none
  | _ => none := rfl
@[simp] theorem iRange2_at {a b : M D} : iRange2 a b env L = bnd (a env L) fun x L1 => bnd (b env L1) fun y L2 => match x, y with
  | .int i, .int j => if big i = true ∧ big j = true then some (.ok (.items (rangeL i (j - i).toNat)), L2) else none
  | _, _ => none := rfl
@[simp] theorem iSeq_at {a : M D} : iSeq a env L = bnd (a env L) fun x L1 => match x with
  | .tup xs => some (.ok (.items xs), L1)
  | .lst xs => some (.ok (.items xs), L1)
  | .ref n => match L1[n]? with
    | some (.lst xs) => some (.ok (.cell n xs), L1)
    | _ => none
  | .str s => some (.ok (.items (s.map fun c => .str [c])), L1)
  | _ => none := rfl
@[simp] theorem eCall_at {n : Nat} {f : Fn} {as : M (List D)} : eCall n f as env L = bnd (as env L) fun xs L1 => if xs.length = n then callI f xs L1 else none := rfl
@[simp] theorem eCallM_at {n : Nat} {f : Fn} {as : M (List D)} : eCallM n f as env L = bnd (as env L) fun xs L1 => if xs.length = n then f xs L1 else none := rfl
end
section
variable {L : Hh}
@[simp] theorem opI_at {f : Int → Int → Int} {i j : Int} : opI f (.int i) (.int j) L = some (.ok (.int (f i j)), L) := rfl
@[simp] theorem opSub_at {i j : Int} : opSub (.int i) (.int j) L = some (.ok (.int (i - j)), L) := rfl
@[simp] theorem opAddI_at {i j : Int} : opAddI (.int i) (.int j) L = some (.ok (.int (i + j)), L) := rfl
@[simp] theorem opAdd_int {i j : Int} : opAdd (.int i) (.int j) L = some (.ok (.int (i + j)), L) := rfl
@[simp] theorem opAdd_str {a b : Tx} : opAdd (.str a) (.str b) L = if a.length + b.length ≤ 100000 then some (.ok (.str (a ++ b)), L) else none := rfl
@[simp] theorem opAdd_tup {a b : List D} : opAdd (.tup a) (.tup b) L = if a.length + b.length ≤ 100000 then some (.ok (.tup (a ++ b)), L) else none := rfl
@[simp] theorem opMul_at {i j : Int} : opMul (.int i) (.int j) L = if small i || small j then some (.ok (.int (i * j)), L) else none := rfl
@[simp] theorem opDiv_at {i j : Int} : opDiv (.int i) (.int j) L = if 0 < j ∧ fits j = true then some (.ok (.int (i / j)), L) else none := rfl
@[simp] theorem opMod_at {i j : Int} : opMod (.int i) (.int j) L = if 0 < j then some (.ok (.int (i % j)), L) else none := rfl
@[simp] theorem opPow_at {i j : Int} : opPow (.int i) (.int j) L = if 0 ≤ j ∧ j ≤ 1000000 ∧ small i = true then some (.ok (.int (i ^ j.toNat)), L) else none := rfl
@[simp] theorem opNeg_at {i : Int} : opNeg (.int i) L = some (.ok (.int (-i)), L) := rfl
@[simp] theorem opLt_at {i j : Int} : opLt (.int i) (.int j) L = some (.ok (.bl (decide (i < j))), L) := rfl
@[simp] theorem opLt_str {s t : Tx} : opLt (.str s) (.str t) L = some (.ok (.bl (decide (s < t))), L) := rfl
@[simp] theorem opLe_at {i j : Int} : opLe (.int i) (.int j) L = some (.ok (.bl (decide (i ≤ j))), L) := rfl
@[simp] theorem opGt_at {i j : Int} : opGt (.int i) (.int j) L = some (.ok (.bl (decide (j < i))), L) := rfl
@[simp] theorem opGe_at {i j : Int} : opGe (.int i) (.int j) L = some (.ok (.bl (decide (j ≤ i))), L) := rfl
@[simp] theorem opInt_int {i : Int} : opInt (.int i) L = some (.ok (.int i), L) := rfl
@[simp] theorem opInt_bl {b : Bool} : opInt (.bl b) L = some (.ok (.int (if b then 1 else 0)), L) := rfl
@[simp] theorem opIs_bl {a b : Bool} : opIs (.bl a) (.bl b) L = some (.ok (.bl (a == b)), L) := rfl
@[simp] theorem opIsNot_bl {a b : Bool} : opIsNot (.bl a) (.bl b) L = some (.ok (.bl (!(a == b))), L) := rfl
@[simp] theorem opIs_non {a : D} : opIs a .non L = some (.ok (.bl (decide (a = .non))), L) := by cases a <;> rfl
@[simp] theorem opIsNot_non {a : D} : opIsNot a .non L = some (.ok (.bl (!decide (a = .non))), L) := by cases a <;> rfl
@[simp] theorem eqD_int {i j : Int} : eqD L (.int i) (.int j) = some (i == j) := rfl
@[simp] theorem eqD_str {i j : Tx} : eqD L (.str i) (.str j) = some (i == j) := rfl
@[simp] theorem eqD_bl {i j : Bool} : eqD L (.bl i) (.bl j) = some (i == j) := rfl
@[simp] theorem opEq_at {a b : D} : opEq a b L = match eqD L a b with
  | some b => some (.ok (.bl b), L)
  | none => none := rfl
@[simp] theorem opNe_at {a b : D} : opNe a b L = match eqD L a b with
  | some b => some (.ok (.bl (!b)), L)
  | none => none := rfl
@[simp] theorem opIsTy_at {t : Ty} {x : D} : opIsTy t x L = match isTy L t x with
  | some b => some (.ok (.bl b), L)
  | none => none := rfl
@[simp] theorem isTy_int {t : Ty} {i : Int} : isTy L t (.int i) = some (decide (t = .int)) := rfl
@[simp] theorem isTy_bl {t : Ty} {b : Bool} : isTy L t (.bl b) = some (decide (t = .int ∨ t = .bool)) := rfl
@[simp] theorem isTy_str {t : Ty} {x : Tx} : isTy L t (.str x) = some (decide (t = .str)) := rfl
@[simp] theorem isTy_non {t : Ty} : isTy L t .non = some false := rfl
@[simp] theorem isTy_tup {t : Ty} {xs : List D} : isTy L t (.tup xs) = some (decide (t = .tuple)) := rfl
@[simp] theorem isTy_lst {t : Ty} {xs : List D} : isTy L t (.lst xs) = some (decide (t = .list)) := rfl
@[simp] theorem isTy_ref {t : Ty} {n : Nat} : isTy L t (.ref n) = match L[n]? with
    | some (.lst _) => some (decide (t = .list))
    | some (.dK _) => some false
    | some (.dT _) => some false
    | _ => none := rfl
@[simp] theorem opLen_str {s : Tx} : opLen (.str s) L = if s.length ≤ 100000 then some (.ok (.int s.length), L) else none := rfl
@[simp] theorem opLen_scr {s : List Int} : opLen (.scr s) L = some (.ok (.int s.length), L) := rfl
@[simp] theorem opLen_tup {s : List D} : opLen (.tup s) L = some (.ok (.int s.length), L) := rfl
@[simp] theorem opLen_lst {s : List D} : opLen (.lst s) L = some (.ok (.int s.length), L) := rfl
@[simp] theorem opLen_ref {n : Nat} : opLen (.ref n) L = match L[n]? with
    | some (.lst xs) => some (.ok (.int xs.length), L)
    | some (.dK kvs) => some (.ok (.int kvs.length), L)
    | some (.dT kvs) => some (.ok (.int kvs.length), L)
    | _ => none := rfl
@[simp] theorem opIx_str {s : Tx} {i : Int} : opIx (.str s) (.int i) L = if s.length ≤ 100000 then (match atI s i with
    | some c => some (.ok (.str [c]), L)
    | none => none) else none := rfl
@[simp] theorem opIx_scr {s : List Int} {i : Int} : opIx (.scr s) (.int i) L = match atI s i with
    | some c => some (.ok (.int c), L)
    | none => none := rfl
@[simp] theorem opIx_tup {s : List D} {i : Int} : opIx (.tup s) (.int i) L = match atI s i with
    | some c => some (.ok c, L)
    | none => none := rfl
@[simp] theorem opIx_lst {s : List D} {i : Int} : opIx (.lst s) (.int i) L = match atI s i with
    | some c => some (.ok c, L)
    | none => none := rfl
@[simp] theorem lookZ_tup {xs : List D} : lookZ L (.tup xs) = some xs := rfl
@[simp] theorem lookZ_ref {n : Nat} : lookZ L (.ref n) = look L (.ref n) := rfl
@[simp] theorem lookZ_lst {xs : List D} : lookZ L (.lst xs) = some xs := rfl
@[simp] theorem look_lst {xs : List D} : look L (.lst xs) = some xs := rfl
@[simp] theorem look_ref {n : Nat} : look L (.ref n) = match L[n]? with
    | some (.lst xs) => some xs
    | _ => none := rfl
@[simp] theorem seqOf_lst {xs : List D} : seqOf L (.lst xs) = some xs := rfl
@[simp] theorem seqOf_tup {xs : List D} : seqOf L (.tup xs) = some xs := rfl
@[simp] theorem seqOf_ref {n : Nat} : seqOf L (.ref n) = match L[n]? with
    | some (.lst xs) => some xs
    | _ => none := rfl
@[simp] theorem opIx_ref {n : Nat} {y : D} : opIx (.ref n) y L = match L[n]? with
    | some (.lst xs) => (match y with
      | .int i => (match atI xs i with
        | some d => some (.ok d, L)
        | none => none)
      | _ => none)
    | _ => match dGet L (.ref n) y with
      | some (some d) => some (.ok d, L)
      | _ => none := by
  cases y <;> rfl
theorem dGet_ref {n : Nat} {y : D} : dGet L (.ref n) y = match L[n]? with
    | some (.dK kvs) => (keyOf y).map (lookK kvs)
    | some (.dT kvs) => (keysOf y).map (lookK kvs)
    | _ => none := rfl
@[simp] theorem eDictK_at {env : Env} : eDictK env L = some (.ok (.ref L.length), L ++ [.dK []]) := rfl
@[simp] theorem eDictT_at {env : Env} : eDictT env L = some (.ok (.ref L.length), L ++ [.dT []]) := rfl
@[simp] theorem mAppend_at {n : Nat} {x : D} : mAppend (.ref n) [x] L = match L[n]? with
    | some (.lst ys) => if ys.length < 10000 then some (.ok .non, L.set n (.lst (ys ++ [x]))) else none
    | _ => none := rfl
@[simp] theorem mPop_at {n : Nat} : mPop (.ref n) [] L = match L[n]? with
    | some (.lst ys) => match ys.getLast? with
      | some y => some (.ok y, L.set n (.lst ys.dropLast))
      | none => none
    | _ => none := rfl
@[simp] theorem mPopAt_at {n : Nat} {i : Int} : mPop (.ref n) [.int i] L = match L[n]? with
    | some (.lst ys) => match ixN ys.length i with
      | some k => match ys[k]? with
        | some y => some (.ok y, L.set n (.lst (ys.eraseIdx k)))
        | none => none
      | none => none
    | _ => none := rfl
end
section
variable {env : Env} {L : Hh}
@[simp] theorem iZip_at {a b : M D} : iZip a b env L = bnd (a env L) fun x L1 => bnd (b env L1) fun y L2 => match look L2 x, lookZ L2 y with
  | some xs, some ys => some (.ok (.pair (cellOf x xs ++ cellOf y ys) (List.zipWith (fun u v => .tup [u, v]) xs ys)), L2)
  | _, _ => none := rfl
@[simp] theorem mIndexS_at {s : Tx} {c : Nat} : mIndexS s (.str [c]) L = match s.findIdx? fun d => decide (d = c) with
    | some i => some (.ok (.int i), L)
    | none => none := rfl
@[simp] theorem opAny_at {x : D} : opAny x L = match look L x with
  | some ds => match ds.mapM truthD with
    | some bs => some (.ok (.bl (bs.any id)), L)
    | none => none
  | none => none := rfl
@[simp] theorem opAll_at {x : D} : opAll x L = match look L x with
  | some ds => match ds.mapM truthD with
    | some bs => some (.ok (.bl (bs.all id)), L)
    | none => none
  | none => none := rfl
@[simp] theorem eListR_at {a b : M D} : eListR a b env L = bnd (a env L) fun x L1 => bnd (b env L1) fun y L2 => match x, y with
  | .int i, .int j => if big i = true ∧ big j = true ∧ (j - i).toNat ≤ 10000 then some (.ok (.ref L2.length), L2 ++ [.lst (rangeL i (j - i).toNat)]) else none
  | _, _ => none := rfl
@[simp] theorem eTupR_at {a b : M D} : eTupR a b env L = bnd (a env L) fun x L1 => bnd (b env L1) fun y L2 => match x, y with
  | .int i, .int j => if big i = true ∧ big j = true ∧ (j - i).toNat ≤ 10000 then some (.ok (.tup (rangeL i (j - i).toNat)), L2) else none
  | _, _ => none := rfl
@[simp] theorem eChain_at {a : M D} {r : D → M D} : eChain a r env L = bnd (a env L) fun x L1 => r x env L1 := rfl
@[simp] theorem chEnd_at {g : Op2} {c : M D} {y : D} : chEnd g c y env L = bnd (c env L) fun z L1 => g y z L1 := rfl
@[simp] theorem chMore_at {g : Op2} {c : M D} {r : D → M D} {y : D} : chMore g c r y env L = bnd (c env L) fun z L1 => bnd (g y z L1) fun b L2 => match b with
  | .bl true => r z env L2
  | .bl false => some (.ok (.bl false), L2)
  | _ => none := rfl
@[simp] theorem opIn_at {x y : D} : opIn x y L = match opInB L x y with
  | some b => some (.ok (.bl b), L)
  | none => none := rfl
@[simp] theorem opNotIn_at {x y : D} : opNotIn x y L = match opInB L x y with
  | some b => some (.ok (.bl (!b)), L)
  | none => none := rfl
@[simp] theorem pNone_at : pNone env L = some (.ok none, L) := rfl
@[simp] theorem pSome_at {a : M D} : pSome a env L = bnd (a env L) fun x L1 => match x with
  | .int i => some (.ok (some i), L1)
  | _ => none := rfl
@[simp] theorem eSl_at {a : M D} {lo hi : M (Option Int)} : eSl a lo hi env L = bnd (a env L) fun x L1 => bnd (lo env L1) fun l L2 => bnd (hi env L2) fun u L3 => opSl x l u L3 := rfl
@[simp] theorem gSub_at {o i : M D} {d : D} : gSub o i d env L = match o env L with
  | some (.ok (.ref n), L1) => match i env L1 with
    | some (.ok y, L2) => match L2[n]? with
      | some (.lst xs) => match y with
        | .int k => match ixN xs.length k with
          | some j => some (env, L2.set n (.lst (xs.set j d)))
          | none => none
        | _ => none
      | _ => match dPut L2 n y d with
        | some L3 => some (env, L3)
        | none => none
    | _ => none
  | _ => none := rfl
@[simp] theorem eMtS_at {g : Tx → D → Hh → Ro D} {o a : M D} : eMtS g o a env L = bnd (o env L) fun x L1 => match x with
  | .str s => bnd (a env L1) fun y L2 => g s y L2
  | _ => none := rfl
@[simp] theorem tTrue_at : tTrue env L = some (.ok true, L) := rfl
@[simp] theorem opMax_two {i j : Int} : opMax [.int i, .int j] L = some (.ok (.int (if j > i then j else i)), L) := rfl
@[simp] theorem opMin_two {i j : Int} : opMin [.int i, .int j] L = some (.ok (.int (if j < i then j else i)), L) := rfl
theorem eLc_at {own : List Nat} {it : Ms} {g : Tg} {t : M Bool} {e : M D} : eLc own it g t e env L = bnd (it env L) fun s L1 => lcL s g t e L1.length (wipeE env own) s.xs (L1 ++ [.lst []]) := rfl
@[simp] theorem opList_ref {n : Nat} : opList (.ref n) L = match L[n]? with
    | some (.lst xs) => some (.ok (.ref L.length), L ++ [.lst xs])
    | some (.dK kvs) => if (kvs.all fun p => okK p.1) = true then some (.ok (.ref L.length), L ++ [.lst (kvs.map fun p => keyD p.1)]) else none
    | some (.dT kvs) => if (kvs.all fun p => p.1.all okK) = true then some (.ok (.ref L.length), L ++ [.lst (kvs.map fun p => .tup (p.1.map keyD))]) else none
    | _ => none := by
  simp only [opList, seqOf_ref, keysD]
  cases h : L[n]? with
  | none => rfl
  | some c =>
    cases c with
    | dK kvs =>
      dsimp only
      by_cases hh : (kvs.all fun p => okK p.1) = true
      · rw [if_pos hh, if_pos hh]
      · rw [if_neg hh, if_neg hh]
    | dT kvs =>
      dsimp only
      by_cases hh : (kvs.all fun p => p.1.all okK) = true
      · rw [if_pos hh, if_pos hh]
      · rw [if_neg hh, if_neg hh]
    | _ => rfl
@[simp] theorem opList_str {s : Tx} : opList (.str s) L = if s.length ≤ 10000 then some (.ok (.ref L.length), L ++ [.lst (charsD s)]) else none := rfl
@[simp] theorem opListRev_ref {n : Nat} : opListRev (.ref n) L = match L[n]? with
    | some (.lst xs) => some (.ok (.ref L.length), L ++ [.lst xs.reverse])
    | _ => none := by
  simp only [opListRev, look_ref]
  cases h : L[n]? with
  | none => rfl
  | some c => cases c <;> rfl
@[simp] theorem opListRev_lst {xs : List D} : opListRev (.lst xs) L = some (.ok (.ref L.length), L ++ [.lst xs.reverse]) := rfl
theorem sWhlI_at {i : Nat} {t : M Bool} {b : Sm} {v : Int} {env : Env} {L : Hh} (h : env[i]? = some (some (.int v))) : sWhlI i t b env L = whl t b (v.natAbs + 9) env L := by
  unfold sWhlI
  rw [h]
@[simp] theorem opList_tup {xs : List D} : opList (.tup xs) L = some (.ok (.ref L.length), L ++ [.lst xs]) := rfl
@[simp] theorem opList_lst {xs : List D} : opList (.lst xs) L = some (.ok (.ref L.length), L ++ [.lst xs]) := rfl
@[simp] theorem opListQ_tup {xs : List D} : opListQ (.tup xs) L = some (.ok (.ref L.length), L ++ [.lst xs]) := rfl
theorem opListQ_of {x : D} {xs : List D} (h : seqOf L x = some xs) : opListQ x L = some (.ok (.ref L.length), L ++ [.lst xs]) := by
  simp only [opListQ, h]
@[simp] theorem opTuple_ref {n : Nat} : opTuple (.ref n) L = match L[n]? with
    | some (.lst xs) => some (.ok (.tup xs), L)
    | _ => none := by
  simp only [opTuple, seqOf_ref]
  cases h : L[n]? with
  | none => rfl
  | some c => cases c <;> rfl
@[simp] theorem opTuple_tup {xs : List D} : opTuple (.tup xs) L = some (.ok (.tup xs), L) := rfl
@[simp] theorem opTuple_lst {xs : List D} : opTuple (.lst xs) L = some (.ok (.tup xs), L) := rfl
@[simp] theorem mReverse_at {n : Nat} : mReverse (.ref n) [] L = match L[n]? with
    | some (.lst ys) => some (.ok .non, L.set n (.lst ys.reverse))
    | _ => none := rfl
@[simp] theorem mInsert_at {n : Nat} {i : Int} {x : D} : mInsert (.ref n) [.int i, x] L = match L[n]? with
    | some (.lst ys) => if ys.length < 10000 ∧ 0 ≤ i ∧ big i = true then some (.ok .non, L.set n (.lst (ys.take i.toNat ++ [x] ++ ys.drop i.toNat))) else none
    | _ => none := rfl
/-- + of two lists -/
theorem opAdd_lists {x y : D} {a b : List D} (hx : look L x = some a) (hy : look L y = some b) (hl : a.length + b.length ≤ 100000) : opAdd x y L = some (.ok (.ref L.length), L ++ [.lst (a ++ b)]) := by
  cases x <;> first
    | (simp [look] at hx; done)
    | skip
  all_goals
    cases y <;> first
      | (simp [look] at hy; done)
      | (unfold opAdd; simp only [hx, hy, hl, if_true])
end
/-! ### small numbers -/
theorem small_of {i : Int} (h : -1000000000000 < i ∧ i < 1000000000000) : small i = true := Nat.ble_eq.mpr (by omega)
theorem big_of {i : Int} (h : -1000000000000 < i ∧ i < 1000000000000) : big i = true := Nat.ble_eq.mpr (by omega)
theorem fits_of {i : Int} (h : -1000000000 < i ∧ i < 1000000000) : fits i = true := Nat.ble_eq.mpr (by omega)
@[simp] theorem small_lit (n : Nat) : small (no_index (OfNat.ofNat n)) = Nat.ble n 18446744073709551615 := rfl
@[simp] theorem big_lit (n : Nat) : big (no_index (OfNat.ofNat n)) = Nat.ble n 4611686018427387903 := rfl
@[simp] theorem fits_lit (n : Nat) : fits (no_index (OfNat.ofNat n)) = Nat.ble n 1073741823 := rfl
@[simp] theorem stays_items {xs : List D} {L : Hh} : (Src.items xs).stays L = true := rfl
@[simp] theorem xs_items {xs : List D} : (Src.items xs).xs = xs := rfl
@[simp] theorem xs_cell {n : Nat} {xs : List D} : (Src.cell n xs).xs = xs := rfl
@[simp] theorem xs_pair {st : List (Nat × List D)} {xs : List D} : (Src.pair st xs).xs = xs := rfl
theorem stays_pair {st : List (Nat × List D)} {xs : List D} {L : Hh} : ((Src.pair st xs).stays L = true) = ∀ p ∈ st, L[p.1]? = some (.lst p.2) := by simp [Src.stays]
@[simp] theorem stays_cell {n : Nat} {xs : List D} {L : Hh} : ((Src.cell n xs).stays L = true) = (L[n]? = some (.lst xs)) := by simp [Src.stays]
/-! ### places -/
theorem atI_nat {α : Type} {xs : List α} {j : Nat} {v : α} (h : xs[j]? = some v) : atI xs (j : Int) = some v := by
  have hj : j < xs.length := (List.getElem?_eq_some_iff.mp h).1
  unfold atI ixN
  rw [if_pos (by omega), if_pos (by omega)]
  simpa using h
theorem atI_get {α : Type} {xs : List α} {i : Int} {j : Nat} {v : α} (e : i = (j : Int)) (h : xs[j]? = some v) : atI xs i = some v := e ▸ atI_nat h
@[simp] theorem atI_zero {α : Type} {x : α} {xs : List α} : atI (x :: xs) 0 = some x := atI_nat (j := 0) rfl
@[simp] theorem atI_one {α : Type} {x y : α} {xs : List α} : atI (x :: y :: xs) 1 = some y := atI_nat (j := 1) rfl
@[simp] theorem atI_two {α : Type} {x y z : α} {xs : List α} : atI (x :: y :: z :: xs) 2 = some z := atI_nat (j := 2) rfl
/-! ### data that names no cell -/
theorem mapM_id {f : D → Option D} : ∀ {ds : List D}, (∀ d ∈ ds, f d = some d) → ds.mapM f = some ds
  | [], _ => by simp
  | d :: ds, h => by
    rw [List.mapM_cons, h d List.mem_cons_self, mapM_id fun x hx => h x (List.mem_cons_of_mem _ hx)]
    rfl
@[simp] theorem pures_nil : D.pures [] = true := rfl
@[simp] theorem pures_cons {d : D} {ds : List D} : D.pures (d :: ds) = (d.pure && D.pures ds) := rfl
@[simp] theorem pure_tup {ds : List D} : D.pure (.tup ds) = D.pures ds := by simp [D.pure]
@[simp] theorem pure_lst {ds : List D} : D.pure (.lst ds) = D.pures ds := by simp [D.pure]
@[simp] theorem pure_int {i : Int} : D.pure (.int i) = true := by simp [D.pure]
@[simp] theorem pure_bl {i : Bool} : D.pure (.bl i) = true := by simp [D.pure]
@[simp] theorem pure_str {i : Tx} : D.pure (.str i) = true := by simp [D.pure]
@[simp] theorem pure_non : D.pure .non = true := by simp [D.pure]
@[simp] theorem pure_ref {n : Nat} : D.pure (.ref n) = false := by simp [D.pure]
@[simp] theorem pure_scr {n : List Int} : D.pure (.scr n) = false := by simp [D.pure]
theorem pures_iff {ds : List D} : D.pures ds = true ↔ ∀ d ∈ ds, d.pure = true := by
  induction ds with
  | nil => simp
  | cons d ds ih => simp [ih]
theorem pures_map {α : Type} {f : α → D} {l : List α} (h : ∀ a ∈ l, (f a).pure = true) : D.pures (l.map f) = true := pures_iff.mpr fun d hd => by
  obtain ⟨a, ha, rfl⟩ := List.mem_map.mp hd
  exact h a ha
mutual
theorem refs_pure : ∀ {d : D}, d.pure = true → d.refs = []
  | .non, _ => rfl
  | .bl _, _ => rfl
  | .int _, _ => rfl
  | .str _, _ => rfl
  | .tup xs, h => by rw [D.refs, refss_pure (by simpa using h)]
  | .lst xs, h => by rw [D.refs, refss_pure (by simpa using h)]
  | .ref _, h => by simp at h
  | .exn _ _, h => by simp [D.pure] at h
  | .scr _, h => by simp at h
theorem refss_pure : ∀ {ds : List D}, D.pures ds = true → D.refss ds = []
  | [], _ => rfl
  | d :: ds, h => by
    rw [pures_cons, Bool.and_eq_true] at h
    rw [D.refss, refs_pure h.1, refss_pure h.2]
    rfl
end
mutual
theorem ren_pure {f : Nat → Nat} : ∀ {d : D}, d.pure = true → d.ren f = d
  | .non, _ => rfl
  | .bl _, _ => rfl
  | .int _, _ => rfl
  | .str _, _ => rfl
  | .tup xs, h => by rw [D.ren, rens_pure (by simpa using h)]
  | .lst xs, h => by rw [D.ren, rens_pure (by simpa using h)]
  | .ref _, h => by simp at h
  | .exn _ _, h => by simp [D.pure] at h
  | .scr _, h => by simp at h
theorem rens_pure {f : Nat → Nat} : ∀ {ds : List D}, D.pures ds = true → D.rens f ds = ds
  | [], _ => rfl
  | d :: ds, h => by
    rw [pures_cons, Bool.and_eq_true] at h
    rw [D.rens, ren_pure h.1, rens_pure h.2]
end
mutual
theorem shift_pure {k : Nat} : ∀ {d : D}, d.pure = true → d.shift k = d
  | .non, _ => rfl
  | .bl _, _ => rfl
  | .int _, _ => rfl
  | .str _, _ => rfl
  | .tup xs, h => by rw [D.shift, shifts_pure (by simpa using h)]
  | .lst xs, h => by rw [D.shift, shifts_pure (by simpa using h)]
  | .ref _, h => by simp at h
  | .exn _ _, h => by simp [D.pure] at h
  | .scr _, h => by simp at h
theorem shifts_pure {k : Nat} : ∀ {ds : List D}, D.pures ds = true → D.shifts k ds = ds
  | [], _ => rfl
  | d :: ds, h => by
    rw [pures_cons, Bool.and_eq_true] at h
    rw [D.shifts, shift_pure h.1, shifts_pure h.2]
end
mutual
theorem eqv_refl : ∀ {d : D}, d.pure = true → D.eqv d d = true
  | .non, _ => rfl
  | .bl _, _ => by simp [D.eqv]
  | .int _, _ => by simp [D.eqv]
  | .str _, _ => by simp [D.eqv]
  | .tup xs, h => by
    rw [D.eqv]
    exact eqvs_refl (by simpa using h)
  | .lst xs, h => by
    rw [D.eqv]
    exact eqvs_refl (by simpa using h)
  | .ref _, h => by simp at h
  | .exn _ _, h => by simp [D.pure] at h
  | .scr _, h => by simp at h
theorem eqvs_refl : ∀ {ds : List D}, D.pures ds = true → D.eqvs ds ds = true
  | [], _ => rfl
  | d :: ds, h => by
    rw [pures_cons, Bool.and_eq_true] at h
    rw [D.eqvs, eqv_refl h.1, eqvs_refl h.2]
    rfl
end
mutual
/-- how deep it goes -/
def D.dep : D → Nat
  | .tup xs => D.deps xs + 1
  | .lst xs => D.deps xs + 1
  | _ => 1
def D.deps : List D → Nat
  | [] => 0
  | x :: xs => max (D.dep x) (D.deps xs)
end
mutual
theorem deep_flat {L : Hh} : ∀ {d : D} {n : Nat}, d.pure = true → d.dep ≤ n → deep n L d = some d
  | d, 0, _, h => by cases d <;> simp [D.dep] at h
  | .non, n + 1, _, _ => rfl
  | .bl _, n + 1, _, _ => rfl
  | .int _, n + 1, _, _ => rfl
  | .str _, n + 1, _, _ => rfl
  | .tup xs, n + 1, h, hd => by
    rw [deep, deeps_flat (by simpa using h) (by simpa [D.dep] using hd)]
    rfl
  | .lst xs, n + 1, h, hd => by
    rw [deep, deeps_flat (by simpa using h) (by simpa [D.dep] using hd)]
    rfl
  | .ref _, n + 1, h, _ => by simp at h
  | .exn _ _, n + 1, h, _ => by simp [D.pure] at h
  | .scr _, n + 1, h, _ => by simp at h
theorem deeps_flat {L : Hh} : ∀ {ds : List D} {n : Nat}, D.pures ds = true → D.deps ds ≤ n → ds.mapM (deep n L) = some ds
  | [], _, _, _ => by simp
  | d :: ds, n, h, hd => by
    rw [pures_cons, Bool.and_eq_true] at h
    simp only [D.deps] at hd
    rw [List.mapM_cons, deep_flat h.1 (by omega), deeps_flat h.2 (by omega)]
    rfl
end
theorem deps_map {α : Type} {f : α → D} {l : List α} {n : Nat} (h : ∀ a ∈ l, (f a).dep ≤ n) : D.deps (l.map f) ≤ n := by
  induction l with
  | nil => simp [D.deps]
  | cons a l ih =>
    simp only [List.map_cons, D.deps]
    have h1 := h a List.mem_cons_self
    have h2 := ih fun x hx => h x (List.mem_cons_of_mem _ hx)
    omega
/-! ### what a def hands back -/
theorem gc_pure {d : D} {L : Hh} (h : d.pure = true) : gc 0 d L = (d, []) := by
  have h1 : gcList 0 d L = [] := by simp [gcList, refs_pure h]
  unfold gc
  rw [h1, if_pos (by simp [gcOk, refs_pure h]), ren_pure h]
  rfl
theorem gc_list {k : Nat} {xs : List D} {L : Hh} (e : L[k]? = some (.lst xs)) (h : D.pures xs = true) : gc 0 (.ref k) L = (.ref 0, [.lst xs]) := by
  have hk : k < L.length := (List.getElem?_eq_some_iff.mp e).1
  have h0 : refsAt L k = [] := by
    unfold refsAt
    rw [e]
    exact refss_pure h
  have h1 : gcList 0 (.ref k) L = [k] := by simp [gcList, D.refs, h0]
  unfold gc
  rw [h1, if_pos (by simp [gcOk, D.refs, h0, hk])]
  simp [D.ren, gcNum, List.getD_eq_getElem?_getD, e, Cell.ren, rens_pure h]
theorem gc_two {i j : Nat} {xs ys : List D} {L : Hh} (hij : i ≠ j) (e1 : L[i]? = some (.lst xs)) (e2 : L[j]? = some (.lst ys)) (h1 : D.pures xs = true) (h2 : D.pures ys = true) : gc 0 (.tup [.ref i, .ref j]) L = (.tup [.ref 0, .ref 1], [.lst xs, .lst ys]) := by
  have hi : i < L.length := (List.getElem?_eq_some_iff.mp e1).1
  have hj : j < L.length := (List.getElem?_eq_some_iff.mp e2).1
  have r1 : refsAt L i = [] := by
    unfold refsAt
    rw [e1]
    exact refss_pure h1
  have r2 : refsAt L j = [] := by
    unfold refsAt
    rw [e2]
    exact refss_pure h2
  have h0 : gcList 0 (.tup [.ref i, .ref j]) L = [i, j] := by simp [gcList, D.refs, D.refss, r1, r2]
  unfold gc
  rw [h0, if_pos (by simp [gcOk, D.refs, D.refss, r1, r2, hi, hj, hij])]
  simp [D.ren, D.rens, gcNum, List.getD_eq_getElem?_getD, e1, e2, Cell.ren, rens_pure h1, rens_pure h2, List.idxOf_cons, hij, Ne.symm hij, beq_eq_false_iff_ne.mpr hij, beq_eq_false_iff_ne.mpr (Ne.symm hij)]
/-! ### calls -/
theorem frz_flat {d : D} {L : Hh} (h : d.pure = true) (hd : d.dep ≤ 8) : frz L d = some d := by
  cases d with
  | scr _ => simp at h
  | exn _ _ => simp [D.pure] at h
  | _ => exact deep_flat h hd
@[simp] theorem frz_exn {c : String} {fs : List D} {L : Hh} : frz L (.exn c fs) = some (.exn c fs) := rfl
@[simp] theorem iLs_at {a : M D} {env : Env} {L : Hh} : iLs a env L = bnd (a env L) fun x L1 => match x with
  | .ref n => match L1[n]? with
    | some (.lst xs) => some (.ok (.cell n xs), L1)
    | _ => none
  | _ => none := rfl
@[simp] theorem mClear_at {n : Nat} {L : Hh} : mClear (.ref n) [] L = match L[n]? with
    | some (.lst _) => some (.ok .non, L.set n (.lst []))
    | _ => none := rfl
theorem mIndexL_of {o : D} {L : Hh} {ns : List Int} {i : Int} {j : Nat} (h : look L o = some (ns.map .int)) (hj : ns.findIdx? (fun n => decide (n = i)) = some j) : mIndexL o [.int i] L = some (.ok (.int (j : Nat)), L) := by
  have hk : (ns.map D.int).mapM keyI = some ns := by
    clear h hj
    induction ns with
    | nil => rfl
    | cons n ns ih => rw [List.map_cons, List.mapM_cons, ih]; rfl
  unfold mIndexL
  simp only [h, hk, hj]
theorem mCountL_of {n : Nat} {x d : D} {zs : List D} {L : Hh} (h : deep 8 L (.ref n) = some (.lst zs)) (h2 : deep 8 L x = some d) : mCountL (.ref n) [x] L = some (.ok (.int (zs.countP fun z => D.eqv z d : Nat)), L) := by
  unfold mCountL
  simp only [h, h2]
@[simp] theorem opMulT_at {s : Tx} {k : Int} {L : Hh} : opMulT (.str s) (.int k) L = if -100000 ≤ k ∧ k ≤ 100000 ∧ s.length * k.toNat ≤ 100000 then some (.ok (.str (List.replicate k.toNat s).flatten), L) else none := rfl
@[simp] theorem opAbs_at {i : Int} {L : Hh} : opAbs (.int i) L = some (.ok (.int (if i < 0 then -i else i)), L) := rfl
@[simp] theorem opIsP_at {c : String} {a : Nat} {tab : List (String × Bool)} {L : Hh} : opIsP c a none tab (.exn c [.int (a : Nat)]) L = match tab.lookup c with
    | some b => some (.ok (.bl b), L)
    | none => none := by
  unfold opIsP
  simp [fldOk]
  all_goals (cases List.lookup c tab <;> rfl)
@[simp] theorem opIsP_fl {c fn : String} {a dx : Nat} {d : D} {tab : List (String × Bool)} {L : Hh} : opIsP c a (some dx) tab (.exn c [.int (a : Nat), .exn fn [.int (dx : Nat), d]]) L = match tab.lookup c with
    | some b => some (.ok (.bl b), L)
    | none => none := by
  unfold opIsP
  simp [fldOk]
  all_goals (cases List.lookup c tab <;> rfl)
@[simp] theorem opFld_at {c fn : String} {a dx : Nat} {d : D} {cs : List String} {L : Hh} : opFld c a (some dx) cs fn (.exn c [.int (a : Nat), .exn fn [.int (dx : Nat), d]]) L = if c ∈ cs then some (.ok d, L) else none := by
  unfold opFld
  simp
@[simp] theorem opIsT_at {c : String} {a : Nat} {tabs : List (List (String × Bool))} {L : Hh} : opIsT c a none tabs (.exn c [.int (a : Nat)]) L = match anyTab c tabs with
    | some b => some (.ok (.bl b), L)
    | none => none := by
  unfold opIsT
  simp [fldOk]
  all_goals (cases anyTab c tabs <;> rfl)
@[simp] theorem opIsT_fl {c fn : String} {a dx : Nat} {d : D} {tabs : List (List (String × Bool))} {L : Hh} : opIsT c a (some dx) tabs (.exn c [.int (a : Nat), .exn fn [.int (dx : Nat), d]]) L = match anyTab c tabs with
    | some b => some (.ok (.bl b), L)
    | none => none := by
  unfold opIsT
  simp [fldOk]
  all_goals (cases anyTab c tabs <;> rfl)
/-- .. an exception with a field -/
theorem sTryAs_fl {b : Sm} {tab : List (String × Bool)} {i : Nat} {g : String → Nat → Option Nat → Sm} {env env1 : Env} {L L1 : Hh} {c fn : String} {d : D} {r : So} (h : b env L = some (.ex ⟨c, [(fn, d)]⟩, env1, L1)) (ht : tab.lookup c = some true) (hp : d.pure = true) (hn : d.nolst = true) (hg : ∀ a dx, suiteS g i c (some dx) [.exn fn [.int (dx : Nat), d]] env1 L1 a = r) : sTryAs b tab i g env L = r := by
  unfold sTryAs
  simp only [h, ht, if_pos (And.intro hp hn)]
  exact hotS_eq fun dx => hotS_eq fun a => hg a dx
theorem sTryAs_ex {b : Sm} {tab : List (String × Bool)} {i : Nat} {g : String → Nat → Option Nat → Sm} {env env1 : Env} {L L1 : Hh} {c : String} {r : So} (h : b env L = some (.ex ⟨c, []⟩, env1, L1)) (ht : tab.lookup c = some true) (hg : ∀ a, suiteS g i c none [] env1 L1 a = r) : sTryAs b tab i g env L = r := by
  unfold sTryAs
  simp only [h, ht]
  exact hotS_eq hg
theorem sTryAs_no {b : Sm} {tab : List (String × Bool)} {i : Nat} {g : String → Nat → Option Nat → Sm} {env env1 : Env} {L L1 : Hh} {o : Out} (h : b env L = some (o, env1, L1)) (ho : ∀ e, o ≠ .ex e) : sTryAs b tab i g env L = some (o, env1, L1) := by
  unfold sTryAs
  rw [h]
  cases o with
  | ex e => exact absurd rfl (ho e)
  | _ => rfl
/-- a call with data that names no cell -/
theorem callI_flat {f : Fn} {xs : List D} {L : Hh} (h : D.pures xs = true) (hd : D.deps xs ≤ 8) : callI f xs L = match f xs [] with
  | none => none
  | some (.ok r, L2) => some (.ok (r.shift L.length), L ++ L2.map (Cell.shift L.length))
  | some (.ex e, _) => if e.fs.all (fun p => p.2.pure && p.2.nolst) = true then some (.ex e, L) else none := by
  have e : xs.mapM (frz L) = some xs := mapM_id fun d hd' => frz_flat (pures_iff.mp h d hd') (by
    have : ∀ {ds : List D}, d ∈ ds → d.dep ≤ D.deps ds := by
      intro ds
      induction ds with
      | nil => intro z; cases z
      | cons x ds ih =>
        intro z
        simp only [D.deps]
        rcases List.mem_cons.mp z with rfl | z
        · omega
        · have := ih z
          omega
    have := this hd'
    omega)
  unfold callI
  rw [e]
  simp only [h, true_or, if_true]
  all_goals
    cases f xs [] with
    | none => rfl
    | some p =>
      obtain ⟨r, L2⟩ := p
      cases r <;> rfl
theorem callI_val {f : Fn} {xs : List D} {L : Hh} {r : D} {L2 : Hh} (h : D.pures xs = true) (hd : D.deps xs ≤ 8) (e : f xs [] = some (.ok r, L2)) : callI f xs L = some (.ok (r.shift L.length), L ++ L2.map (Cell.shift L.length)) := by
  rw [callI_flat h hd, e]
/-- .. that gives plain data -/
theorem callI_pure {f : Fn} {xs : List D} {L : Hh} {r : D} (h : D.pures xs = true) (hd : D.deps xs ≤ 8) (e : f xs [] = some (.ok r, [])) (hr : r.pure = true) : callI f xs L = some (.ok r, L) := by
  rw [callI_val h hd e, shift_pure hr]
  simp
/-- .. that gives one new list -/
theorem callI_list {f : Fn} {xs : List D} {L : Hh} {ys : List D} (h : D.pures xs = true) (hd : D.deps xs ≤ 8) (e : f xs [] = some (.ok (.ref 0), [.lst ys])) (hr : D.pures ys = true) : callI f xs L = some (.ok (.ref L.length), L ++ [.lst ys]) := by
  rw [callI_val h hd e]
  simp [D.shift, Cell.shift, shifts_pure hr]
/-- the script's cell -/
def cell (ns : List Int) (k : Nat) : Int := ns.getD k 0
theorem callI_scr {f : Fn} {ns : List Int} {k : Nat} {L : Hh} {r : Int} (e : f [.scr ns, .int k] [] = some (.ok (.int r), [])) : callI f [.scr ns, .int k] L = some (.ok (.int r), L) := by
  unfold callI
  have e1 : [D.scr ns, D.int k].mapM (frz L) = some [D.scr ns, D.int k] := by simp [frz, deep]
  rw [e1]
  dsimp only
  rw [e]
  simp [D.nolst, D.shift]
end Rg
/-! Lp: loops by what holds at each turn. -/
namespace Rg
def Res (r : So) (Q : Out → Env → Hh → Prop) : Prop := ∃ o e l, r = some (o, e, l) ∧ Q o e l
@[simp] theorem Res_some {o : Out} {e : Env} {l : Hh} {Q : Out → Env → Hh → Prop} : Res (some (o, e, l)) Q ↔ Q o e l := by
  constructor
  · rintro ⟨_, _, _, h, q⟩
    cases h
    exact q
  · exact fun q => ⟨_, _, _, rfl, q⟩
@[simp] theorem Res_none {Q : Out → Env → Hh → Prop} : Res none Q ↔ False := by
  constructor
  · rintro ⟨_, _, _, h, q⟩
    cases h
  · exact False.elim
theorem Res.mono {r : So} {Q Q' : Out → Env → Hh → Prop} (h : Res r Q) (f : ∀ o e l, Q o e l → Q' o e l) : Res r Q' := by
  obtain ⟨o, e, l, h1, h2⟩ := h
  exact ⟨o, e, l, h1, f _ _ _ h2⟩
theorem Res.eq {r : So} {Q : Out → Env → Hh → Prop} (h : Res r Q) : ∃ o e l, r = some (o, e, l) ∧ Q o e l := h
/-- what a turn of a loop may do -/
def LQ (I : Env → Hh → Prop) (F : Out → Env → Hh → Prop) : Out → Env → Hh → Prop
  | .nx, e, l => I e l
  | .ct, e, l => I e l
  | .bk, e, l => F .nx e l
  | .rt d, e, l => F (.rt d) e l
  | .ex x, e, l => F (.ex x) e l
@[simp] theorem LQ_nx {I : Env → Hh → Prop} {F : Out → Env → Hh → Prop} {e : Env} {l : Hh} : LQ I F .nx e l = I e l := rfl
@[simp] theorem LQ_ct {I : Env → Hh → Prop} {F : Out → Env → Hh → Prop} {e : Env} {l : Hh} : LQ I F .ct e l = I e l := rfl
@[simp] theorem LQ_bk {I : Env → Hh → Prop} {F : Out → Env → Hh → Prop} {e : Env} {l : Hh} : LQ I F .bk e l = F .nx e l := rfl
@[simp] theorem LQ_rt {I : Env → Hh → Prop} {F : Out → Env → Hh → Prop} {e : Env} {l : Hh} {d : D} : LQ I F (.rt d) e l = F (.rt d) e l := rfl
@[simp] theorem LQ_ex {I : Env → Hh → Prop} {F : Out → Env → Hh → Prop} {e : Env} {l : Hh} {d : Ex} : LQ I F (.ex d) e l = F (.ex d) e l := rfl
/-- a target's slots, then the body -/
def tgt (g : Tg) (b : Sm) (x : D) : Sm := fun env L => match g x env L with
  | some (e, l) => b e l
  | none => none
@[simp] theorem tgt_var {i : Nat} {b : Sm} {x : D} {env : Env} {L : Hh} : tgt (gVar i) b x env L = b (env.set i (some x)) L := rfl
theorem forL_cons {s : Src} {g : Tg} {b : Sm} {x : D} {xs : List D} {env : Env} {L : Hh} : forL s g b (x :: xs) env L = if s.stays L = true then (match tgt g b x env L with
      | some (.nx, env2, L2) => forL s g b xs env2 L2
      | some (.ct, env2, L2) => forL s g b xs env2 L2
      | some (.bk, env2, L2) => some (.nx, env2, L2)
      | r => r) else none := by
  rw [forL]
  split
  · unfold tgt
    cases g x env L with
    | none => rfl
    | some p => rfl
  · rfl
theorem forL_from {s : Src} {g : Tg} {b : Sm} {xs : List D} (I : Nat → Env → Hh → Prop) (F : Out → Env → Hh → Prop)
    (stays : ∀ k e l, k ≤ xs.length → I k e l → s.stays l = true)
    (step : ∀ k x e l, xs[k]? = some x → I k e l → Res (tgt g b x e l) (LQ (I (k + 1)) F))
    (done : ∀ e l, I xs.length e l → F .nx e l) : ∀ (n k : Nat) (e : Env) (l : Hh), k + n = xs.length → I k e l → Res (forL s g b (xs.drop k) e l) F := by
  intro n
  induction n with
  | zero =>
    intro k e l hk hI
    have hk : k = xs.length := hk
    subst hk
    rw [List.drop_length, forL, if_pos (stays _ _ _ (Nat.le_refl _) hI)]
    exact Res_some.mpr (done _ _ hI)
  | succ n ih =>
    intro k e l hk hI
    have hlt : k < xs.length := by omega
    rw [List.drop_eq_getElem_cons hlt, forL_cons, if_pos (stays _ _ _ (by omega) hI)]
    obtain ⟨o, e1, l1, h1, h2⟩ := step k xs[k] e l (List.getElem?_eq_getElem hlt) hI
    rw [h1]
    cases o with
    | nx => exact ih _ _ _ (by omega) h2
    | ct => exact ih _ _ _ (by omega) h2
    | bk => exact Res_some.mpr h2
    | rt d => exact Res_some.mpr h2
    | ex d => exact Res_some.mpr h2
/-- a for over items -/
theorem for_items {g : Tg} {b : Sm} {xs : List D} {env : Env} {L : Hh} (I : Nat → Env → Hh → Prop) (F : Out → Env → Hh → Prop) (h0 : I 0 env L)
    (step : ∀ k x e l, xs[k]? = some x → I k e l → Res (tgt g b x e l) (LQ (I (k + 1)) F))
    (done : ∀ e l, I xs.length e l → F .nx e l) : Res (forL (.items xs) g b xs env L) F := by
  have := forL_from (s := .items xs) I F (fun _ _ _ _ _ => rfl) step done xs.length 0 env L (by omega) h0
  simpa using this
/-- a for over a cell's list that stays -/
theorem for_cell {g : Tg} {b : Sm} {n : Nat} {xs : List D} {env : Env} {L : Hh} (I : Nat → Env → Hh → Prop) (F : Out → Env → Hh → Prop) (h0 : I 0 env L)
    (stays : ∀ k e l, k ≤ xs.length → I k e l → l[n]? = some (.lst xs))
    (step : ∀ k x e l, xs[k]? = some x → I k e l → Res (tgt g b x e l) (LQ (I (k + 1)) F))
    (done : ∀ e l, I xs.length e l → F .nx e l) : Res (forL (.cell n xs) g b xs env L) F := by
  have := forL_from (s := .cell n xs) I F (fun k e l hk h => decide_eq_true (stays k e l hk h)) step done xs.length 0 env L (by omega) h0
  simpa using this
theorem rangeL_get {lo : Int} {n k : Nat} {x : D} : (rangeL lo n)[k]? = some x ↔ k < n ∧ x = .int (lo + (k : Nat)) := by
  simp only [rangeL, List.getElem?_map, List.getElem?_range]
  constructor
  · intro h
    by_cases hk : k < n
    · simp [hk] at h
      exact ⟨hk, h.symm⟩
    · simp [hk] at h
  · rintro ⟨hk, rfl⟩
    simp [hk]
@[simp] theorem rangeL_len {lo : Int} {n : Nat} : (rangeL lo n).length = n := by simp [rangeL]
/-- a for over numbers from lo on -/
theorem for_range {g : Tg} {b : Sm} {lo : Int} {n : Nat} {env : Env} {L : Hh} (I : Nat → Env → Hh → Prop) (F : Out → Env → Hh → Prop) (h0 : I 0 env L)
    (step : ∀ k e l, k < n → I k e l → Res (tgt g b (.int (lo + (k : Nat))) e l) (LQ (I (k + 1)) F))
    (done : ∀ e l, I n e l → F .nx e l) : Res (forL (.items (rangeL lo n)) g b (rangeL lo n) env L) F := by
  refine for_items I F h0 (fun k x e l hx hI => ?_) (by simpa using done)
  obtain ⟨hk, rfl⟩ := rangeL_get.mp hx
  exact step k e l hk hI
/-- .. from 0 on -/
theorem for_range0 {g : Tg} {b : Sm} {n : Nat} {env : Env} {L : Hh} (I : Nat → Env → Hh → Prop) (F : Out → Env → Hh → Prop) (h0 : I 0 env L)
    (step : ∀ k e l, k < n → I k e l → Res (tgt g b (.int (k : Nat)) e l) (LQ (I (k + 1)) F))
    (done : ∀ e l, I n e l → F .nx e l) : Res (forL (.items (rangeL 0 n)) g b (rangeL 0 n) env L) F :=
  for_range I F h0 (fun k e l hk h => by
    rw [Int.zero_add]
    exact step k e l hk h) done
/-- a while -/
theorem whl_inv {t : M Bool} {b : Sm} {fuel : Nat} {env : Env} {L : Hh} (I : Nat → Env → Hh → Prop) (F : Out → Env → Hh → Prop)
    (step : ∀ m e l, I m e l → ∃ c l1, t e l = some (.ok c, l1) ∧ if c = true then Res (b e l1) (LQ (fun e2 l2 => ∃ m2, m2 < m ∧ I m2 e2 l2) F) else F .nx e l1)
    {m : Nat} (h0 : I m env L) (hf : m < fuel) : Res (whl t b fuel env L) F := by
  induction fuel generalizing env L m with
  | zero => omega
  | succ n ih =>
    obtain ⟨c, l1, h1, h2⟩ := step m env L h0
    rw [whl, h1, sb_ok]
    cases c with
    | false => exact Res_some.mpr (by simpa using h2)
    | true =>
      rw [if_pos rfl] at h2 ⊢
      obtain ⟨o, e1, l1, h3, h4⟩ := h2
      rw [h3]
      cases o with
      | nx =>
        obtain ⟨m2, hm, hI⟩ := h4
        exact ih hI (by omega)
      | ct =>
        obtain ⟨m2, hm, hI⟩ := h4
        exact ih hI (by omega)
      | bk => exact Res_some.mpr h4
      | rt d => exact Res_some.mpr h4
      | ex d => exact Res_some.mpr h4
/-- statements one behind the other -/
theorem Res_seq {a b : Sm} {env : Env} {L : Hh} {Q : Out → Env → Hh → Prop} (h : Res (a env L) (fun o e l => match o with
    | .nx => Res (b e l) Q
    | o => Q o e l)) : Res (sSeq a b env L) Q := by
  obtain ⟨o, e, l, h1, h2⟩ := h
  rw [sSeq_at, h1]
  cases o with
  | nx => exact h2
  | _ => exact Res_some.mpr h2
/-- a def by its body -/
theorem run_rt {n : Nat} {b : Sm} {ds : List D} {L L' : Hh} {d : D} {e : Env} (h : b (ds.map some ++ List.replicate (n - ds.length) none) L = some (.rt d, e, L')) : run n b ds L = some (.ok (gc L.length d L').1, (gc L.length d L').2) := by
  unfold run
  rw [h]
/-- .. that gives plain data -/
theorem run_pure {n : Nat} {b : Sm} {ds : List D} {d : D} (hp : d.pure = true) (h : Res (b (ds.map some ++ List.replicate (n - ds.length) none) []) (fun o _ _ => o = .rt d)) : run n b ds [] = some (.ok d, []) := by
  obtain ⟨o, e, l, h1, rfl⟩ := h
  rw [run_rt h1]
  simp [gc_pure hp]
/-- .. a new list of plain data -/
theorem run_list {n : Nat} {b : Sm} {ds : List D} {xs : List D} (hp : D.pures xs = true) (h : Res (b (ds.map some ++ List.replicate (n - ds.length) none) []) (fun o _ l => ∃ k, o = .rt (.ref k) ∧ l[k]? = some (.lst xs))) : run n b ds [] = some (.ok (.ref 0), [.lst xs]) := by
  obtain ⟨o, e, l, h1, k, rfl, h2⟩ := h
  rw [run_rt h1]
  simp [gc_list h2 hp]
theorem run_ex {n : Nat} {b : Sm} {ds : List D} {x : Ex} (h : Res (b (ds.map some ++ List.replicate (n - ds.length) none) []) (fun o _ _ => o = .ex x)) : ∃ L, run n b ds [] = some (.ex x, L) := by
  obtain ⟨o, e, l, h1, rfl⟩ := h
  unfold run
  rw [h1]
  exact ⟨_, rfl⟩
theorem run_some {n : Nat} {b : Sm} {ds : List D} {d : D} (hp : d.pure = true) (h : Res (b (ds.map some ++ List.replicate (n - ds.length) none) []) (fun o _ _ => o = .rt d)) : ∃ L', run n b ds [] = some (.ok d, L') := ⟨_, run_pure hp h⟩
end Rg
/-! BrW: words of brackets. -/
namespace Rg
/-- one sign's step -/
def up (c : Nat) : Int := if c = 40 then 1 else -1
/-- the height ahead of sign k -/
def ht (w : Tx) (k : Nat) : Int := ((w.take k).map up).sum
theorem up_cases (c : Nat) : up c = 1 ∨ up c = -1 := by
  unfold up
  split <;> simp
@[simp] theorem ht_zero (w : Tx) : ht w 0 = 0 := by simp [ht]
theorem ht_succ {w : Tx} {k c : Nat} (h : w[k]? = some c) : ht w (k + 1) = ht w k + up c := by
  unfold ht
  rw [List.take_add_one, h]
  simp
theorem ht_append {w : Tx} {v : Tx} {k : Nat} (h : k ≤ w.length) : ht (w ++ v) k = ht w k := by
  unfold ht
  rw [List.take_append_of_le_length h]
theorem ht_snoc {w : Tx} {c : Nat} : ht (w ++ [c]) (w.length + 1) = ht w w.length + up c := by
  rw [ht_succ (c := c) (by simp), ht_append (Nat.le_refl _)]
/-- a word of brackets -/
structure BrW (w : Tx) : Prop where
  sg : ∀ c ∈ w, c = 40 ∨ c = 41
  nn : ∀ k, k ≤ w.length → 0 ≤ ht w k
  fin : ht w w.length = 0
/-- q closes p -/
structure Mate (w : Tx) (p q : Nat) : Prop where
  lt : p < q
  hq : q < w.length
  op : w[p]? = some 40
  ret : ht w (q + 1) = ht w p
  ab : ∀ r, p < r → r ≤ q → ht w p < ht w r
theorem Mate.uniq {w : Tx} {p q q' : Nat} (h : Mate w p q) (h' : Mate w p q') : q = q' := by
  rcases Nat.lt_trichotomy q q' with hl | hl | hl
  · have := h'.ab (q + 1) (by have := h.lt; omega) (by omega)
    have := h.ret
    omega
  · exact hl
  · have := h.ab (q' + 1) (by have := h'.lt; omega) (by omega)
    have := h'.ret
    omega
theorem ht_step {w : Tx} {k : Nat} (h : k < w.length) : ht w (k + 1) = ht w k + 1 ∨ ht w (k + 1) = ht w k - 1 := by
  rw [ht_succ (List.getElem?_eq_getElem h)]
  rcases up_cases w[k] with e | e <;> rw [e]
  · exact .inl rfl
  · exact .inr (by omega)
/-- either it stays above or there is a first return -/
theorem first_ret {w : Tx} {p : Nat} (h : w[p]? = some 40) : ∀ j, p < j → j ≤ w.length → (∀ r, p < r → r ≤ j → ht w p < ht w r) ∨ ∃ q, q < j ∧ Mate w p q := by
  intro j
  induction j with
  | zero => intro h; omega
  | succ j ih =>
    intro h1 h2
    have hp : ht w (p + 1) = ht w p + 1 := by rw [ht_succ h]; simp [up]
    by_cases e : p = j
    · subst e
      refine .inl fun r h3 h4 => ?_
      have : r = p + 1 := by omega
      subst this
      omega
    · rcases ih (by omega) (by omega) with hi | ⟨q, hq, hm⟩
      · have hj := hi j (by omega) (by omega)
        by_cases hc : ht w p < ht w (j + 1)
        · refine .inl fun r h3 h4 => ?_
          rcases Nat.lt_or_ge r (j + 1) with h5 | h5
          · exact hi r h3 (by omega)
          · have : r = j + 1 := by omega
            subst this
            exact hc
        · refine .inr ⟨j, by omega, ⟨by omega, by omega, h, ?_, fun r h3 h4 => hi r h3 h4⟩⟩
          rcases ht_step (w := w) (k := j) (by omega) with e1 | e1 <;> omega
      · exact .inr ⟨q, by omega, hm⟩
theorem BrW.has_mate {w : Tx} (W : BrW w) {p : Nat} (h : w[p]? = some 40) : ∃ q, Mate w p q := by
  have hp : p < w.length := (List.getElem?_eq_some_iff.mp h).1
  rcases first_ret h w.length hp (Nat.le_refl _) with hi | ⟨q, _, hm⟩
  · have h1 := hi w.length hp (Nat.le_refl _)
    have h2 := W.nn p (by omega)
    have h3 := W.fin
    omega
  · exact ⟨q, hm⟩
/-- the place that closes p -/
def mate (w : Tx) (p : Nat) : Nat := ((List.range w.length).find? fun q => decide (p < q) && decide (ht w (q + 1) = ht w p) && (List.range w.length).all fun r => decide (p < r → r ≤ q → ht w p < ht w r)).getD 0
theorem mate_eq {w : Tx} {p q : Nat} (h : Mate w p q) : mate w p = q := by
  unfold mate
  have key : ∀ q', q' < w.length → (decide (p < q') && decide (ht w (q' + 1) = ht w p) && (List.range w.length).all fun r => decide (p < r → r ≤ q' → ht w p < ht w r)) = true → q' = q := by
    intro q' hq' hh
    simp only [Bool.and_eq_true, decide_eq_true_eq, List.all_eq_true, List.mem_range] at hh
    exact (Mate.uniq h ⟨hh.1.1, hq', h.op, hh.1.2, fun r h1 h2 => hh.2 r (by omega) h1 h2⟩).symm
  cases e : (List.range w.length).find? fun q => decide (p < q) && decide (ht w (q + 1) = ht w p) && (List.range w.length).all fun r => decide (p < r → r ≤ q → ht w p < ht w r) with
  | none =>
    have := List.find?_eq_none.mp e q (List.mem_range.mpr h.hq)
    exfalso
    apply this
    simp only [Bool.and_eq_true, decide_eq_true_eq, List.all_eq_true, List.mem_range]
    exact ⟨⟨h.lt, h.ret⟩, fun r _ h1 h2 => h.ab r h1 h2⟩
  | some q' =>
    have h1 := List.find?_some e
    have h2 := List.mem_range.mp (List.mem_of_find?_eq_some e)
    exact key q' h2 h1
theorem BrW.is_mate {w : Tx} (W : BrW w) {p : Nat} (h : w[p]? = some 40) : Mate w p (mate w p) := by
  obtain ⟨q, hq⟩ := W.has_mate h
  rw [mate_eq hq]
  exact hq
/-- the open places ahead of k -/
def ops (w : Tx) (k : Nat) : List Nat := (List.range k).filter fun p => decide (w[p]? = some 40)
theorem ops_succ {w : Tx} {k : Nat} : ops w (k + 1) = ops w k ++ if w[k]? = some 40 then [k] else [] := by
  unfold ops
  rw [List.range_succ, List.filter_append]
  congr 1
  by_cases h : w[k]? = some 40 <;> simp [h]
@[simp] theorem mem_ops {w : Tx} {k p : Nat} : p ∈ ops w k ↔ p < k ∧ w[p]? = some 40 := by simp [ops]
theorem ops_nodup {w : Tx} {k : Nat} : (ops w k).Nodup := List.Pairwise.filter _ List.nodup_range
theorem ops_sorted {w : Tx} {k : Nat} : (ops w k).Pairwise (· < ·) := List.Pairwise.filter _ (List.pairwise_lt_range)
/-- all bows, by their first ends -/
def bows (w : Tx) : List (Nat × Nat) := (ops w w.length).map fun p => (p, mate w p)
/-- the stack that waits at k: open places not closed ahead of k, the last one last -/
def wait (w : Tx) (k : Nat) : List Nat := (ops w k).filter fun p => decide (k ≤ mate w p)
theorem wait_open {w : Tx} {k : Nat} (W : BrW w) (h : w[k]? = some 40) : wait w (k + 1) = wait w k ++ [k] := by
  unfold wait
  rw [ops_succ, if_pos h, List.filter_append]
  have hm := W.is_mate h
  congr 1
  · apply List.filter_congr
    intro p hp
    have hp := mem_ops.mp hp
    have hm2 := W.is_mate hp.2
    have : mate w p ≠ k := by
      intro e
      have h1 := hm2.ret
      have h2 := ht_succ h
      have h3 := hm2.ab k hp.1 (by omega)
      rw [e] at h1
      simp [up] at h2
      omega
    simp only [decide_eq_decide]
    omega
  · have := hm.lt
    simp
    omega
theorem wait_close {w : Tx} {k : Nat} (W : BrW w) (hk : k < w.length) (h : w[k]? ≠ some 40) : ∃ p, wait w k = wait w (k + 1) ++ [p] ∧ mate w p = k ∧ w[p]? = some 40 ∧ p < k := by
  have hst : ht w (k + 1) = ht w k - 1 := by
    rw [ht_succ (List.getElem?_eq_getElem hk)]
    have : w[k] ≠ 40 := fun e => h (by rw [List.getElem?_eq_getElem hk, e])
    simp [up, this]
    omega
  -- the last waiting one
  have hne : ∃ p, p < k ∧ w[p]? = some 40 ∧ ht w p = ht w k - 1 ∧ ∀ r, p < r → r ≤ k → ht w p < ht w r := by
    have aux : ∀ n, n ≤ k → (∀ r, n ≤ r → r ≤ k → ht w k ≤ ht w r) → ∃ p, p < k ∧ w[p]? = some 40 ∧ ht w p = ht w k - 1 ∧ ∀ r, p < r → r ≤ k → ht w p < ht w r := by
      intro n
      induction n with
      | zero =>
        intro _ hr
        have h1 := hr 0 (Nat.le_refl _) (by omega)
        have h2 := W.nn (k + 1) (by omega)
        simp at h1
        omega
      | succ n ih =>
        intro hn hr
        by_cases hc : ht w k ≤ ht w n
        · exact ih (by omega) fun r h1 h2 => by
            rcases Nat.lt_or_ge n r with h3 | h3
            · exact hr r (by omega) h2
            · have : r = n := by omega
              subst this
              exact hc
        · have hnl : n < w.length := by omega
          have h1 := hr (n + 1) (Nat.le_refl _) (by omega)
          have h2 := ht_succ (List.getElem?_eq_getElem hnl)
          have h4 : w[n] = 40 := by
            apply Classical.byContradiction
            intro e
            simp [up, e] at h2
            omega
          rw [h4] at h2
          simp [up] at h2
          refine ⟨n, by omega, ?_, by omega, fun r h5 h6 => ?_⟩
          · rw [List.getElem?_eq_getElem hnl, h4]
          · have := hr r (by omega) h6
            omega
    exact aux k (Nat.le_refl _) fun r h1 h2 => by
      have : r = k := by omega
      subst this
      omega
  obtain ⟨p, hp, ho, he, ha⟩ := hne
  have hM : Mate w p k := ⟨hp, hk, ho, by omega, ha⟩
  refine ⟨p, ?_, mate_eq hM, ho, hp⟩
  have hops : ops w k = ops w p ++ p :: (ops w k).filter fun r => decide (p < r) := by
    have : k = p + 1 + (k - p - 1) := by omega
    unfold ops
    rw [this, List.range_add, List.filter_append, List.range_succ, List.filter_append, List.filter_append, List.filter_append]
    simp only [ho, decide_true, List.filter_cons_of_pos, List.filter_nil, List.append_assoc, List.cons_append, List.nil_append]
    congr 1
    have e1 : ((List.range p).filter fun p => decide (w[p]? = some 40)).filter (fun r => decide (p < r)) = [] := by
      rw [List.filter_eq_nil_iff]
      intro r hr
      have := (List.mem_filter.mp hr).1
      simp at this ⊢
      omega
    have e2 : (((List.range (k - p - 1)).map (p + 1 + ·)).filter fun p => decide (w[p]? = some 40)).filter (fun r => decide (p < r)) = ((List.range (k - p - 1)).map (p + 1 + ·)).filter fun p => decide (w[p]? = some 40) := by
      rw [List.filter_eq_self]
      intro r hr
      have := (List.mem_filter.mp hr).1
      simp at this ⊢
      obtain ⟨a, _, rfl⟩ := this
      omega
    rw [e1, e2]
    simp
  have hin : ∀ r ∈ (ops w k).filter (fun r => decide (p < r)), mate w r < k := by
    intro r hr
    obtain ⟨h1, h2⟩ := List.mem_filter.mp hr
    have h1 := mem_ops.mp h1
    have h2 : p < r := by simpa using h2
    have hm := W.is_mate h1.2
    apply Classical.byContradiction
    intro hc
    have h3 := ha r h2 (by omega)
    rcases Nat.lt_or_ge k (mate w r) with h4 | h4
    · have h5 := hm.ab (k + 1) (by omega) (by omega)
      omega
    · have h5 : mate w r = k := by omega
      have := hm.ret
      rw [h5] at this
      omega
  unfold wait
  rw [ops_succ, if_neg h, List.append_nil, hops, List.filter_append, List.filter_append, List.filter_cons, List.filter_cons, mate_eq hM]
  simp only [Nat.le_refl, decide_true, if_true]
  rw [if_neg (by simp)]
  have e1 : ((ops w k).filter fun r => decide (p < r)).filter (fun p => decide (k ≤ mate w p)) = [] := by
    rw [List.filter_eq_nil_iff]
    intro r hr
    have := hin r hr
    simp
    omega
  have e2 : ((ops w k).filter fun r => decide (p < r)).filter (fun p => decide (k + 1 ≤ mate w p)) = [] := by
    rw [List.filter_eq_nil_iff]
    intro r hr
    have := hin r hr
    simp
    omega
  rw [e1, e2, List.append_nil]
  congr 1
  apply List.filter_congr
  intro r hr
  have hr := mem_ops.mp hr
  have hm := W.is_mate hr.2
  have hne : mate w r ≠ k := by
    intro e
    have h1 := hm.ret
    have h2 := hm.ab p hr.1 (by omega)
    rw [e] at h1
    omega
  simp only [decide_eq_decide]
  omega
/-- the bows closed ahead of k, in some order -/
structure Shut (w : Tx) (k : Nat) (fs : List (Nat × Nat)) : Prop where
  nd : fs.Nodup
  mem : ∀ x : Nat × Nat, x ∈ fs ↔ w[x.1]? = some 40 ∧ mate w x.1 = x.2 ∧ x.2 < k
theorem Shut.nil {w : Tx} : Shut w 0 [] := ⟨List.nodup_nil, fun x => by simp⟩
theorem Shut.open {w : Tx} {k : Nat} {fs : List (Nat × Nat)} (W : BrW w) (h : w[k]? = some 40) (S : Shut w k fs) : Shut w (k + 1) fs := ⟨S.nd, fun x => by
  rw [S.mem]
  constructor
  · rintro ⟨a, b, c⟩
    exact ⟨a, b, by omega⟩
  · rintro ⟨a, b, c⟩
    refine ⟨a, b, ?_⟩
    have hm := W.is_mate a
    rcases Nat.lt_or_ge x.2 k with h1 | h1
    · exact h1
    · exfalso
      have e : mate w x.1 = k := by omega
      rw [e] at hm
      have h1 := hm.ret
      have h2 := ht_succ h
      have h3 := hm.ab k hm.lt (by omega)
      simp [up] at h2
      omega⟩
theorem Shut.close {w : Tx} {k p : Nat} {fs : List (Nat × Nat)} (W : BrW w) (hp : w[p]? = some 40) (hm : mate w p = k) (S : Shut w k fs) : Shut w (k + 1) (fs ++ [(p, k)]) := by
  have hM := W.is_mate hp
  refine ⟨?_, fun x => ?_⟩
  · rw [List.nodup_append]
    refine ⟨S.nd, by simp, fun a ha b hb => ?_⟩
    rintro rfl
    simp at hb
    subst hb
    have := (S.mem _).mp ha
    simp at this
  · rw [List.mem_append, S.mem]
    constructor
    · rintro (⟨a, b, c⟩ | h)
      · exact ⟨a, b, by omega⟩
      · simp at h
        subst h
        exact ⟨hp, hm, Nat.lt_succ_self _⟩
    · rintro ⟨a, b, c⟩
      rcases Nat.lt_or_ge x.2 k with h1 | h1
      · exact .inl ⟨a, b, h1⟩
      · refine .inr ?_
        have hx := W.is_mate a
        have e : x.2 = k := by omega
        rw [b, e] at hx
        rw [hm] at hM
        have hpx : x.1 = p := by
          rcases Nat.lt_trichotomy x.1 p with h2 | h2 | h2
          · have h3 := hx.ab p h2 (by have := hM.lt; omega)
            have h4 := hx.ret
            have h5 := hM.ret
            omega
          · exact h2
          · have h3 := hM.ab x.1 h2 (by have := hx.lt; omega)
            have h4 := hx.ret
            have h5 := hM.ret
            omega
        simp
        exact Prod.ext hpx e
theorem bows_nodup {w : Tx} : (bows w).Nodup := by
  unfold bows
  refine List.Pairwise.map _ (fun a b h => ?_) ops_nodup
  intro e
  exact h (Prod.mk.inj e).1
theorem mem_bows {w : Tx} {x : Nat × Nat} : x ∈ bows w ↔ w[x.1]? = some 40 ∧ mate w x.1 = x.2 := by
  unfold bows
  rw [List.mem_map]
  constructor
  · rintro ⟨p, hp, rfl⟩
    exact ⟨(mem_ops.mp hp).2, rfl⟩
  · rintro ⟨h1, h2⟩
    exact ⟨x.1, mem_ops.mpr ⟨(List.getElem?_eq_some_iff.mp h1).1, h1⟩, Prod.ext rfl h2⟩
theorem Shut.all {w : Tx} {fs : List (Nat × Nat)} (W : BrW w) (S : Shut w w.length fs) : fs.Perm (bows w) := by
  rw [List.perm_ext_iff_of_nodup S.nd bows_nodup]
  intro x
  rw [S.mem, mem_bows]
  constructor
  · rintro ⟨a, b, c⟩
    exact ⟨a, b⟩
  · rintro ⟨a, b⟩
    have := (W.is_mate a).hq
    exact ⟨a, b, by omega⟩
theorem nodup_len {α : Type} [DecidableEq α] : ∀ {l m : List α}, l.Nodup → l ⊆ m → l.length ≤ m.length
  | [], _, _, _ => Nat.zero_le _
  | a :: l, m, h1, h2 => by
    have hm : a ∈ m := h2 List.mem_cons_self
    have h3 := List.nodup_cons.mp h1
    have h4 := nodup_len (m := m.erase a) h3.2 fun x hx => (List.mem_erase_of_ne (fun e => h3.1 (by rw [← e]; exact hx))).mpr (h2 (List.mem_cons_of_mem _ hx))
    rw [List.length_erase_of_mem hm] at h4
    have := List.length_pos_of_mem hm
    simp only [List.length_cons]
    omega
theorem shut_len {w : Tx} {k : Nat} {fs : List (Nat × Nat)} (W : BrW w) (S : Shut w k fs) : fs.length ≤ w.length := by
  have h1 : (fs.map (·.1)).Nodup := by
    have : fs.Pairwise fun a b => a.1 ≠ b.1 := by
      refine List.Pairwise.imp_of_mem (fun {a b} ha hb hab e => ?_) S.nd
      have h1 := (S.mem a).mp ha
      have h2 := (S.mem b).mp hb
      apply hab
      refine Prod.ext e ?_
      rw [← h1.2.1, ← h2.2.1, e]
    exact List.Pairwise.map _ (fun a b h => h) this
  have h2 : (fs.map (·.1)) ⊆ List.range w.length := by
    intro p hp
    obtain ⟨x, hx, rfl⟩ := List.mem_map.mp hp
    exact List.mem_range.mpr (List.getElem?_eq_some_iff.mp ((S.mem x).mp hx).1).1
  have := nodup_len h1 h2
  simpa using this
/-- a row of numbers, a bow as data -/
def rowD (r : List Int) : D := .tup (r.map .int)
def bowR (b : Nat × Nat) : List Int := [(b.1 : Int), (b.2 : Int)]
def bowD (b : Nat × Nat) : D := rowD (bowR b)
theorem bowD_eq {b : Nat × Nat} : bowD b = .tup [.int (b.1 : Nat), .int (b.2 : Nat)] := rfl
@[simp] theorem pure_bowD {b : Nat × Nat} : (bowD b).pure = true := by simp [bowD, rowD, bowR]
@[simp] theorem dep_bowD {b : Nat × Nat} : (bowD b).dep = 2 := by simp [bowD, rowD, bowR, D.dep, D.deps]
theorem keys_int : ∀ r : List Int, (r.map D.int).mapM keyI = some r
  | [] => rfl
  | x :: r => by
    rw [List.map_cons, List.mapM_cons, keys_int r]
    rfl
theorem keyT_rowD {r : List Int} (h : r ≠ []) : keyT (rowD r) = some r := by
  cases r with
  | nil => exact absurd rfl h
  | cons x r => exact keys_int (x :: r)
theorem keys_rowD : ∀ {rs : List (List Int)}, (∀ r ∈ rs, r ≠ []) → (rs.map rowD).mapM keyT = some rs
  | [], _ => rfl
  | x :: rs, h => by
    rw [List.map_cons, List.mapM_cons, keyT_rowD (h x List.mem_cons_self), keys_rowD fun r hr => h r (List.mem_cons_of_mem _ hr)]
    rfl
theorem opSorted_rows {n : Nat} {L : Hh} {rs : List (List Int)} (e : L[n]? = some (.lst (rs.map rowD))) (hl : rs.length ≤ 10000) (h : ∀ r ∈ rs, r ≠ []) : opSorted (.ref n) L = some (.ok (.ref L.length), L ++ [.lst ((rs.mergeSort leT).map rowD)]) := by
  have hs : seqOf L (.ref n) = some (rs.map rowD) := by simp [e]
  unfold opSorted
  rw [hs]
  simp only [List.length_map, hl, if_true]
  cases rs with
  | nil => simp
  | cons r rs =>
    have : ((r :: rs).map rowD).mapM keyI = none := by
      rw [List.map_cons, List.mapM_cons]
      rfl
    rw [this, keys_rowD h]
    rfl
theorem leT_trans (a b c : List Int) : leT a b = true → leT b c = true → leT a c = true := by
  simp only [leT, decide_eq_true_eq]
  exact List.le_trans
theorem leT_total (a b : List Int) : (leT a b || leT b a) = true := by
  simp only [leT, Bool.or_eq_true, decide_eq_true_eq]
  exact List.le_total a b
theorem sort_eq {rs ss : List (List Int)} (h : rs.Perm ss) (hs : ss.Pairwise fun a b => leT a b = true) : rs.mergeSort leT = ss :=
  List.Perm.eq_of_pairwise (le := fun a b => leT a b = true) (fun a b _ _ h1 h2 => List.le_antisymm (by simpa [leT] using h1) (by simpa [leT] using h2)) (List.pairwise_mergeSort leT_trans leT_total rs) hs ((List.mergeSort_perm rs leT).trans h)
theorem leT_lt {a b : Int} {x y : List Int} (h : a < b) : leT (a :: x) (b :: y) = true := by
  simp only [leT, decide_eq_true_eq]
  exact List.cons_le_cons_iff.mpr (.inl h)
theorem bows_sorted {w : Tx} : ((bows w).map bowR).Pairwise fun a b => leT a b = true := by
  unfold bows
  rw [List.map_map]
  refine List.Pairwise.map _ (fun a b h => ?_) ops_sorted
  exact leT_lt (by simpa using h)
theorem Shut.sort {w : Tx} {fs : List (Nat × Nat)} (W : BrW w) (S : Shut w w.length fs) : (fs.map bowR).mergeSort leT = (bows w).map bowR := sort_eq ((S.all W).map _) bows_sorted
end Rg
namespace Rg
/-! ### bows of any whole numbers -/
def bowI (b : Int × Int) : D := .tup [.int b.1, .int b.2]
@[simp] theorem pure_bowI {b : Int × Int} : (bowI b).pure = true := by simp [bowI]
@[simp] theorem dep_bowI {b : Int × Int} : (bowI b).dep = 2 := by simp [bowI, D.dep, D.deps]
def bI (b : Nat × Nat) : Int × Int := (b.1, b.2)
theorem bowD_bI {b : Nat × Nat} : bowD b = bowI (bI b) := rfl
theorem map_bowD {bs : List (Nat × Nat)} : bs.map bowD = (bs.map bI).map bowI := by simp [Function.comp_def, bowD_bI]
theorem bowI_inj {a b : Int × Int} (h : bowI a = bowI b) : a = b := by
  simp [bowI] at h
  exact Prod.ext h.1 h.2
theorem pures_bowI {bs : List (Int × Int)} : D.pures (bs.map bowI) = true := pures_map fun _ _ => pure_bowI
theorem deps_bowI {bs : List (Int × Int)} : D.deps (bs.map bowI) ≤ 2 := deps_map fun _ _ => by simp
theorem deep_bows {bs : List (Int × Int)} {n : Nat} {L : Hh} (e : L[n]? = some (.lst (bs.map bowI))) : deep 8 L (.ref n) = some (.lst (bs.map bowI)) := by
  rw [deep, e]
  dsimp only
  rw [deeps_flat pures_bowI (by have := deps_bowI (bs := bs); omega)]
  rfl
theorem eqv_bows {bs : List (Int × Int)} : D.eqv (.lst (bs.map bowI)) (.lst (bs.map bowI)) = true := eqv_refl (by simp [pures_bowI])
/-- two cells of the same bows are equal -/
theorem eqD_bows {bs : List (Int × Int)} {n m : Nat} {L : Hh} (e : L[n]? = some (.lst (bs.map bowI))) (e2 : L[m]? = some (.lst (bs.map bowI))) : eqD L (.ref n) (.ref m) = some true := by
  unfold eqD
  rw [deep_bows e, deep_bows e2]
  exact congrArg some eqv_bows
theorem eqv_bowI {a b : Int × Int} : D.eqv (bowI a) (bowI b) = decide (a = b) := by
  obtain ⟨a1, a2⟩ := a
  obtain ⟨b1, b2⟩ := b
  simp [bowI, D.eqv, D.eqvs]
  by_cases h1 : a1 = b1 <;> by_cases h2 : a2 = b2 <;> simp [h1, h2]
/-- a bow in a cell's bows -/
theorem in_bows {bs : List (Int × Int)} {b : Int × Int} {n : Nat} {L : Hh} (e : L[n]? = some (.lst (bs.map bowI))) : opInB L (bowI b) (.ref n) = some (decide (b ∈ bs)) := by
  have h1 : deep 8 L (bowI b) = some (bowI b) := deep_flat pure_bowI (by simp)
  have h0 : dGet L (.ref n) (bowI b) = none := by simp [dGet, e]
  unfold opInB
  simp only [h0, deep_bows e, h1]
  congr 1
  rw [Bool.eq_iff_iff]
  simp [eqv_bowI]
/-- a call that is lent lists -/
theorem callI_lent {f : Fn} {xs ds : List D} {L L2 : Hh} {r : D} (h : xs.mapM (frz L) = some ds) (e : f ds [] = some (.ok r, L2)) (h1 : r.nolst = true) (h2 : L2.all Cell.nolst = true) : callI f xs L = some (.ok (r.shift L.length), L ++ L2.map (Cell.shift L.length)) := by
  unfold callI
  rw [h]
  dsimp only
  rw [e]
  dsimp only
  rw [if_pos (.inr ⟨h1, h2⟩)]
theorem frz_bows {bs : List (Int × Int)} {n : Nat} {L : Hh} (e : L[n]? = some (.lst (bs.map bowI))) : frz L (.ref n) = some (.lst (bs.map bowI)) := deep_bows e
theorem nolst_bowI {b : Int × Int} : (bowI b).nolst = true := by simp [bowI, D.nolst, D.nolsts]
theorem set_last {α : Type} {J : List α} {a b : α} : (J ++ [a]).set J.length b = J ++ [b] := by simp
theorem pop_at {n : Nat} {xs : List Int} {i : Int} {L : Hh} (e : L[n]? = some (.lst (xs.map .int))) (h0 : 0 ≤ i) (h1 : i < xs.length) : ∃ x ∈ xs, mPop (.ref n) [.int i] L = some (.ok (.int x), L.set n (.lst ((xs.eraseIdx i.toNat).map .int))) := by
  have hj : i.toNat < xs.length := by omega
  refine ⟨xs[i.toNat], List.getElem_mem hj, ?_⟩
  have h2 : ixN xs.length i = some i.toNat := by
    unfold ixN
    rw [if_pos h0, if_pos h1]
  simp [e, h2, List.getElem?_eq_getElem hj]
  rw [List.eraseIdx_eq_take_drop_succ, List.eraseIdx_eq_take_drop_succ]
  simp
end Rg
/-! Ls: lists: taking out, sorting, comprehensions. -/
namespace Rg
theorem ixN_of {n : Nat} {i : Int} (h0 : 0 ≤ i) (h1 : i < n) : ixN n i = some i.toNat := by
  unfold ixN
  rw [if_pos h0, if_pos h1]
theorem erase_perm {α : Type} {ys : List α} {i : Nat} (h : i < ys.length) : (ys[i] :: ys.eraseIdx i).Perm ys := by
  have e : ys = ys.take i ++ ys[i] :: ys.drop (i + 1) := by
    rw [← List.drop_eq_getElem_cons h, List.take_append_drop]
  rw [List.eraseIdx_eq_take_drop_succ]
  exact List.perm_middle.symm.trans (by rw [← e])
theorem pop_atD {n : Nat} {ys : List D} {i : Int} {L : Hh} (e : L[n]? = some (.lst ys)) (h0 : 0 ≤ i) (h1 : i < ys.length) : ∃ y, (y :: ys.eraseIdx i.toNat).Perm ys ∧ mPop (.ref n) [.int i] L = some (.ok y, L.set n (.lst (ys.eraseIdx i.toNat))) := by
  have hj : i.toNat < ys.length := by omega
  refine ⟨ys[i.toNat], erase_perm hj, ?_⟩
  simp [e, ixN_of h0 h1, List.getElem?_eq_getElem hj]
/-! ### sorted -/
theorem keyI_map : ∀ ns : List Int, (ns.map D.int).mapM keyI = some ns := keys_int
theorem opSorted_ints {x : D} {L : Hh} {ns : List Int} (e : seqOf L x = some (ns.map .int)) (hl : ns.length ≤ 10000) : opSorted x L = some (.ok (.ref L.length), L ++ [.lst ((ns.mergeSort leI).map .int)]) := by
  unfold opSorted
  rw [e]
  simp only [List.length_map, hl, if_true, keyI_map]
theorem opSorted_rowsL {x : D} {L : Hh} {rs : List (List Int)} (e : look L x = some (rs.map rowD)) (hl : rs.length ≤ 10000) (h : ∀ r ∈ rs, r ≠ []) : opSorted x L = some (.ok (.ref L.length), L ++ [.lst ((rs.mergeSort leT).map rowD)]) := by
  have hs : seqOf L x = some (rs.map rowD) := by
    cases x <;> first
      | (simp [look] at e; done)
      | exact e
  unfold opSorted
  rw [hs]
  simp only [List.length_map, hl, if_true]
  cases rs with
  | nil => simp
  | cons r rs =>
    have : ((r :: rs).map rowD).mapM keyI = none := by
      rw [List.map_cons, List.mapM_cons]
      rfl
    rw [this, keys_rowD h]
    cases x <;> first
      | (simp [look] at e; done)
      | rfl
theorem leI_trans (a b c : Int) : leI a b = true → leI b c = true → leI a c = true := by
  simp only [leI, decide_eq_true_eq]
  omega
theorem leI_total (a b : Int) : (leI a b || leI b a) = true := by
  simp only [leI, Bool.or_eq_true, decide_eq_true_eq]
  omega
theorem sortI_eq {rs ss : List Int} (h : rs.Perm ss) (hs : ss.Pairwise fun a b => leI a b = true) : rs.mergeSort leI = ss :=
  List.Perm.eq_of_pairwise (le := fun a b => leI a b = true) (fun a b _ _ h1 h2 => by simp [leI] at h1 h2; omega) (List.pairwise_mergeSort leI_trans leI_total rs) hs ((List.mergeSort_perm rs leI).trans h)
/-! ### plain lists in cells -/
theorem pures_int {ns : List Int} : D.pures (ns.map .int) = true := pures_map fun _ _ => pure_int
theorem deps_int {ns : List Int} : D.deps (ns.map .int) ≤ 1 := deps_map fun _ _ => by simp [D.dep]
theorem deep_cell {xs : List D} {n : Nat} {L : Hh} (e : L[n]? = some (.lst xs)) (hp : D.pures xs = true) (hd : D.deps xs ≤ 7) : deep 8 L (.ref n) = some (.lst xs) := by
  rw [deep, e]
  dsimp only
  rw [deeps_flat hp hd]
  rfl
theorem frz_cell {xs : List D} {n : Nat} {L : Hh} (e : L[n]? = some (.lst xs)) (hp : D.pures xs = true) (hd : D.deps xs ≤ 7) : frz L (.ref n) = some (.lst xs) := deep_cell e hp hd
theorem eqD_cells {xs ys : List D} {n m : Nat} {L : Hh} (e : L[n]? = some (.lst xs)) (e2 : L[m]? = some (.lst ys)) (hp : D.pures xs = true) (hd : D.deps xs ≤ 7) (hp2 : D.pures ys = true) (hd2 : D.deps ys ≤ 7) : eqD L (.ref n) (.ref m) = some (D.eqvs xs ys) := by
  unfold eqD
  rw [deep_cell e hp hd, deep_cell e2 hp2 hd2]
  simp only [D.eqv]
theorem eqD_same {xs : List D} {n m : Nat} {L : Hh} (e : L[n]? = some (.lst xs)) (e2 : L[m]? = some (.lst xs)) (hp : D.pures xs = true) (hd : D.deps xs ≤ 7) : eqD L (.ref n) (.ref m) = some true := by
  rw [eqD_cells e e2 hp hd hp hd, eqvs_refl hp]
theorem eqD_ref_lst {xs ys : List D} {n : Nat} {L : Hh} (e : L[n]? = some (.lst xs)) (hp : D.pures xs = true) (hd : D.deps xs ≤ 7) (hp2 : D.pures ys = true) (hd2 : D.deps ys ≤ 7) : eqD L (.ref n) (.lst ys) = some (D.eqvs xs ys) := by
  unfold eqD
  rw [deep_cell e hp hd, deep_flat (by simpa using hp2) (by simp [D.dep]; omega)]
  simp only [D.eqv]
/-! ### list comprehensions over plain data -/
theorem lcL_plain {s : Src} {g : Tg} {t : M Bool} {e : M D} {n : Nat} {env : Env} (f : D → Option D) :
    ∀ (xs acc : List D) (L : Hh), L[n]? = some (.lst acc) → acc.length + xs.length ≤ 10000 → (∀ acc', s.stays (L.set n (.lst acc')) = true) →
      (∀ x ∈ xs, ∀ acc', ∃ env1, g x env (L.set n (.lst acc')) = some (env1, L.set n (.lst acc')) ∧
        ((f x = none ∧ t env1 (L.set n (.lst acc')) = some (.ok false, L.set n (.lst acc'))) ∨ ∃ y, f x = some y ∧ t env1 (L.set n (.lst acc')) = some (.ok true, L.set n (.lst acc')) ∧ e env1 (L.set n (.lst acc')) = some (.ok y, L.set n (.lst acc')))) →
      lcL s g t e n env xs (L.set n (.lst acc)) = some (.ok (.ref n), L.set n (.lst (acc ++ xs.filterMap f)))
  | [], acc, L, e0, hl, hs, hx => by
    rw [lcL, if_pos (hs acc)]
    simp
  | x :: xs, acc, L, e0, hl, hs, hx => by
    obtain ⟨env1, h1, h2⟩ := hx x List.mem_cons_self acc
    have hn : n < L.length := (List.getElem?_eq_some_iff.mp e0).1
    simp only [List.length_cons] at hl
    rw [lcL, if_pos (hs acc), h1]
    dsimp only
    rcases h2 with ⟨h3, h4⟩ | ⟨y, h3, h4, h5⟩
    · rw [h4]
      dsimp only
      rw [lcL_plain f xs acc L e0 (by omega) hs fun x hx' => hx x (List.mem_cons_of_mem _ hx'), List.filterMap_cons, h3]
    · rw [h4]
      dsimp only
      rw [h5]
      dsimp only
      rw [List.getElem?_set_self hn]
      dsimp only
      rw [if_pos (by omega), List.set_set]
      have h7 := lcL_plain f xs (acc ++ [y]) (L.set n (.lst (acc ++ [y]))) (by rw [List.getElem?_set_self hn]) (by simp; omega) (fun acc' => by rw [List.set_set]; exact hs acc') (fun x hx' acc' => by rw [List.set_set]; exact hx x (List.mem_cons_of_mem _ hx') acc')
      rw [List.set_set, List.set_set] at h7
      rw [h7, List.filterMap_cons, h3]
      simp
/-- the whole: from the cells ahead of it -/
theorem lc_plain {s : Src} {g : Tg} {t : M Bool} {e : M D} {env : Env} {L : Hh} (f : D → Option D) (hl : s.xs.length ≤ 10000) (hs : ∀ acc', s.stays (L ++ [.lst acc']) = true)
    (hx : ∀ x ∈ s.xs, ∀ acc', ∃ env1, g x env (L ++ [.lst acc']) = some (env1, L ++ [.lst acc']) ∧
        ((f x = none ∧ t env1 (L ++ [.lst acc']) = some (.ok false, L ++ [.lst acc'])) ∨ ∃ y, f x = some y ∧ t env1 (L ++ [.lst acc']) = some (.ok true, L ++ [.lst acc']) ∧ e env1 (L ++ [.lst acc']) = some (.ok y, L ++ [.lst acc']))) :
    lcL s g t e L.length env s.xs (L ++ [.lst []]) = some (.ok (.ref L.length), L ++ [.lst (s.xs.filterMap f)]) := by
  have key : ∀ acc', (L ++ [Cell.lst []]).set L.length (.lst acc') = L ++ [.lst acc'] := fun acc' => by simp
  have h := lcL_plain (s := s) (g := g) (t := t) (e := e) (n := L.length) (env := env) f s.xs [] (L ++ [.lst []]) (by simp) (by simpa using hl) (fun acc' => by rw [key]; exact hs acc') (fun x hx' acc' => by rw [key]; exact hx x hx' acc')
  rw [key, key] at h
  simpa using h
theorem joinT_nil : ∀ ys : List Tx, joinT [] ys = ys.flatten
  | [] => rfl
  | [p] => by simp [joinT]
  | p :: q :: r => by
    rw [joinT, joinT_nil (q :: r)]
    simp
theorem strs_map : ∀ ys : List Tx, (ys.map D.str).mapM strD = some ys
  | [] => rfl
  | y :: ys => by
    rw [List.map_cons, List.mapM_cons, strs_map ys]
    rfl
end Rg
namespace Rg
theorem nolsts_bowI {bs : List (Int × Int)} : D.nolsts (bs.map bowI) = true := by
  induction bs with
  | nil => rfl
  | cons b bs ih => rw [List.map_cons, D.nolsts, nolst_bowI, ih]; rfl
/-- all ends of the bows are all places -/
theorem BrW.opener {w : Tx} (W : BrW w) {q : Nat} (hq : q < w.length) (h : w[q]? ≠ some 40) : ∃ p, w[p]? = some 40 ∧ mate w p = q := by
  obtain ⟨p, _, h1, h2, _⟩ := wait_close W hq h
  exact ⟨p, h2, h1⟩
theorem mate_close {w : Tx} (W : BrW w) {p : Nat} (h : w[p]? = some 40) : w[mate w p]? ≠ some 40 := by
  intro e
  have M := W.is_mate h
  have h1 := ht_succ e
  have h2 := M.ret
  have h3 := M.ab (mate w p) M.lt (Nat.le_refl _)
  simp [up] at h1
  omega
theorem mate_inj {w : Tx} (W : BrW w) {p p' : Nat} (h : w[p]? = some 40) (h' : w[p']? = some 40) (e : mate w p = mate w p') : p = p' := by
  have M := W.is_mate h
  have M' := W.is_mate h'
  rcases Nat.lt_trichotomy p p' with hl | hl | hl
  · have h1 := M.ab p' hl (by have := M'.lt; omega)
    have h2 := M.ret
    have h3 := M'.ret
    rw [e] at h2
    omega
  · exact hl
  · have h1 := M'.ab p hl (by have := M.lt; omega)
    have h2 := M.ret
    have h3 := M'.ret
    rw [e] at h2
    omega
theorem flat_perm : ∀ l : List (Nat × Nat), (l.flatMap fun b => [b.1, b.2]).Perm (l.map (·.1) ++ l.map (·.2))
  | [] => by simp
  | b :: l => by
    have h := flat_perm l
    simp only [List.flatMap_cons, List.map_cons, List.cons_append, List.nil_append]
    refine List.Perm.cons _ ?_
    exact (List.Perm.cons b.2 h).trans List.perm_middle.symm
theorem ends_perm {w : Tx} (W : BrW w) {bs : List (Nat × Nat)} (hp : bs.Perm (bows w)) : (bs.flatMap fun b => [b.1, b.2]).Perm (List.range w.length) := by
  have h1 : (bs.flatMap fun b => [b.1, b.2]).Perm ((bows w).map (·.1) ++ (bows w).map (·.2)) := (flat_perm bs).trans ((hp.map _).append (hp.map _))
  refine h1.trans ?_
  have e1 : (bows w).map (·.1) = ops w w.length := by simp [bows, Function.comp_def]
  have e2 : (bows w).map (·.2) = (ops w w.length).map (mate w) := by simp [bows, Function.comp_def]
  rw [e1, e2]
  rw [List.perm_ext_iff_of_nodup]
  · intro a
    rw [List.mem_append, List.mem_range, mem_ops, List.mem_map]
    constructor
    · rintro (⟨h, _⟩ | ⟨p, h, rfl⟩)
      · exact h
      · exact (W.is_mate (mem_ops.mp h).2).hq
    · intro h
      by_cases hc : w[a]? = some 40
      · exact .inl ⟨h, hc⟩
      · obtain ⟨p, h1, h2⟩ := W.opener h hc
        exact .inr ⟨p, mem_ops.mpr ⟨(List.getElem?_eq_some_iff.mp h1).1, h1⟩, h2⟩
  · rw [List.nodup_append]
    refine ⟨ops_nodup, ?_, fun a ha b hb => ?_⟩
    · have : (ops w w.length).Pairwise fun a b => mate w a ≠ mate w b := by
        refine List.Pairwise.imp_of_mem (fun {a b} ha hb hab e => ?_) ops_nodup
        exact hab (mate_inj W (mem_ops.mp ha).2 (mem_ops.mp hb).2 e)
      exact List.Pairwise.map _ (fun a b h => h) this
    · rintro rfl
      obtain ⟨p, hp, rfl⟩ := List.mem_map.mp hb
      exact mate_close W (mem_ops.mp hp).2 (mem_ops.mp ha).2
  · exact List.nodup_range
theorem bows_half {w : Tx} (W : BrW w) : 2 * (bows w).length = w.length := by
  have h := (ends_perm W (List.Perm.refl _)).length_eq
  have : ∀ l : List (Nat × Nat), (l.flatMap fun b => [b.1, b.2]).length = 2 * l.length := by
    intro l
    induction l with
    | nil => rfl
    | cons x l ih => simp [ih]; omega
  rw [this] at h
  simpa using h
end Rg
namespace Rg
/-- signs: open at the places os -/
def sgD (n : Nat) (os : List Nat) : List D := (List.range n).map fun i => D.str [if i ∈ os then 40 else 41]
@[simp] theorem sgD_len {n : Nat} {os : List Nat} : (sgD n os).length = n := by simp [sgD]
theorem sgD_nil {n : Nat} : sgD n [] = List.replicate n (.str [41]) := by
  refine List.ext_getElem (by simp) fun i h1 h2 => ?_
  simp [sgD]
theorem sgD_set {n j : Nat} {os : List Nat} : (sgD n os).set j (.str [40]) = sgD n (os ++ [j]) := by
  refine List.ext_getElem (by simp) fun i h1 h2 => ?_
  simp only [sgD, List.getElem_set, List.getElem_map, List.getElem_range, List.mem_append, List.mem_singleton]
  by_cases hi : j = i
  · subst hi
    simp
  · have : ¬ i = j := fun e => hi e.symm
    simp [hi, this]
theorem sgD_all {w : Tx} (W : BrW w) {os : List Nat} (h : ∀ i, i < w.length → (i ∈ os ↔ w[i]? = some 40)) : sgD w.length os = (w.map fun c => [c]).map D.str := by
  refine List.ext_getElem (by simp) fun i h1 h2 => ?_
  rw [sgD_len] at h1
  have hg : w[i]? = some w[i] := List.getElem?_eq_getElem h1
  simp only [sgD, List.getElem_map, List.getElem_range]
  by_cases h4 : w[i] = 40
  · rw [if_pos ((h i h1).mpr (by rw [hg, h4])), h4]
  · rw [if_neg (fun hm => h4 (by
      have := (h i h1).mp hm
      rw [hg] at this
      simpa using this))]
    rcases W.sg w[i] (List.getElem_mem h1) with e | e
    · exact absurd e h4
    · rw [e]
theorem sum_ones : ∀ w : Tx, ((w.map fun c => [c]).map (·.length)).sum = w.length
  | [] => rfl
  | c :: w => by
    rw [List.map_cons, List.map_cons, List.sum_cons, sum_ones w]
    simp
    omega
theorem flatten_ones : ∀ w : Tx, (w.map fun c => [c]).flatten = w
  | [] => rfl
  | c :: w => by
    rw [List.map_cons, List.flatten_cons, flatten_ones w]
    rfl
/-- ''.join of single signs -/
theorem join_ones {w : Tx} (h : w.length ≤ 100000) {n : Nat} {L : Hh} (e : L[n]? = some (.lst ((w.map fun c => [c]).map D.str))) : mJoin [] (.ref n) L = some (.ok (.str w), L) := by
  unfold mJoin
  rw [seqOf_ref, e]
  dsimp only
  rw [strs_map]
  dsimp only
  rw [sum_ones, if_pos (by simpa using h), joinT_nil, flatten_ones]
end Rg
namespace Rg
theorem at_end {α : Type} (J K : List α) (i : Nat) : (J ++ K)[J.length + i]? = K[i]? := by
  rw [List.getElem?_append_right (by omega)]
  congr 1
  omega
@[simp] theorem at_end0 {α : Type} (J K : List α) : (J ++ K)[J.length]? = K[0]? := at_end J K 0
@[simp] theorem at_end1 {α : Type} (J K : List α) : (J ++ K)[J.length + 1]? = K[1]? := at_end J K 1
@[simp] theorem at_end2 {α : Type} (J K : List α) : (J ++ K)[J.length + 1 + 1]? = K[2]? := at_end J K 2
@[simp] theorem at_end3 {α : Type} (J K : List α) : (J ++ K)[J.length + 1 + 1 + 1]? = K[3]? := at_end J K 3
end Rg
namespace Rg
theorem deep_at {xs : List D} {n k : Nat} {L : Hh} (e : L[k]? = some (.lst xs)) (hp : D.pures xs = true) (hd : D.deps xs ≤ n) : deep (n + 1) L (.ref k) = some (.lst xs) := by
  rw [deep, e]
  dsimp only
  rw [deeps_flat hp hd]
  rfl
/-! ### bows sorted -/
def rI (b : Int × Int) : List Int := [b.1, b.2]
theorem bowI_rI {b : Int × Int} : bowI b = rowD (rI b) := rfl
theorem map_bowI {bs : List (Int × Int)} : bs.map bowI = (bs.map rI).map rowD := by simp [Function.comp_def, bowI_rI]
def SortedB (bs : List (Int × Int)) : Prop := (bs.map rI).Pairwise fun a b => leT a b = true
theorem rI_ne {bs : List (Int × Int)} : ∀ r ∈ bs.map rI, r ≠ [] := fun r hr => by
  obtain ⟨b, _, rfl⟩ := List.mem_map.mp hr
  exact List.cons_ne_nil _ _
theorem sort_bows (bs : List (Int × Int)) : ∃ bs' : List (Int × Int), bs'.Perm bs ∧ SortedB bs' ∧ (bs.map rI).mergeSort leT = bs'.map rI := by
  have hperm := List.mergeSort_perm (bs.map rI) leT
  have hs := List.pairwise_mergeSort leT_trans leT_total (bs.map rI)
  generalize hm : (bs.map rI).mergeSort leT = ms at hperm hs
  have inv : ∀ r ∈ ms, rI (r.getD 0 0, r.getD 1 0) = r := fun r hr => by
    obtain ⟨b, _, rfl⟩ := List.mem_map.mp (hperm.mem_iff.mp hr)
    rfl
  have e : ms = (ms.map fun r => (r.getD 0 0, r.getD 1 0)).map rI := by
    rw [List.map_map]
    conv => lhs; rw [← List.map_id ms]
    exact List.map_congr_left fun r hr => (inv r hr).symm
  refine ⟨ms.map fun r => (r.getD 0 0, r.getD 1 0), ?_, ?_, e⟩
  · have := hperm.map fun r : List Int => (r.getD 0 0, r.getD 1 0)
    rw [List.map_map] at this
    have e2 : ((fun r : List Int => (r.getD 0 0, r.getD 1 0)) ∘ rI) = id := by
      funext b
      rfl
    rw [e2, List.map_id] at this
    exact this
  · unfold SortedB
    rw [← e]
    exact hs
theorem opSorted_bows {bs : List (Int × Int)} (hl : bs.length ≤ 10000) : ∃ bs' : List (Int × Int), bs'.Perm bs ∧ SortedB bs' ∧ ∀ (x : D) (L : Hh), look L x = some (bs.map bowI) → opSorted x L = some (.ok (.ref L.length), L ++ [.lst (bs'.map bowI)]) := by
  obtain ⟨bs', h1, h2, h3⟩ := sort_bows bs
  refine ⟨bs', h1, h2, fun x L e => ?_⟩
  rw [map_bowI] at e
  rw [opSorted_rowsL e (by simpa using hl) rI_ne, h3, ← map_bowI]
theorem opSorted_sortedB {bs : List (Int × Int)} (hl : bs.length ≤ 10000) (h : SortedB bs) {x : D} {L : Hh} (e : look L x = some (bs.map bowI)) : opSorted x L = some (.ok (.ref L.length), L ++ [.lst (bs.map bowI)]) := by
  rw [map_bowI] at e
  rw [opSorted_rowsL e (by simpa using hl) rI_ne, sort_eq (List.Perm.refl _) h, ← map_bowI]
theorem in_bow {L : Hh} {r : Int} {b : Int × Int} : opInB L (.int r) (bowI b) = some (decide (b.1 = r ∨ b.2 = r)) := by
  unfold opInB bowI
  simp [flatD, D.eqv]
  by_cases h1 : b.1 = r <;> by_cases h2 : b.2 = r <;> simp [h1, h2]
/-! ### the bows between rows, one behind the other -/
def bwAt (R : List Int) (m : Nat) : Int × Int := (if R.getD (m + 1) 0 < R.getD m 0 then R.getD (m + 1) 0 else R.getD m 0, if R.getD m 0 < R.getD (m + 1) 0 then R.getD (m + 1) 0 else R.getD m 0)
def bwPar (R : List Int) (n j : Nat) : List (Int × Int) := ((List.range n).filter fun m => decide (m % 2 = j)).map (bwAt R)
theorem bwPar_succ {R : List Int} {n j : Nat} : bwPar R (n + 1) j = bwPar R n j ++ if n % 2 = j then [bwAt R n] else [] := by
  unfold bwPar
  rw [List.range_succ, List.filter_append, List.map_append]
  congr 1
  by_cases h : n % 2 = j <;> simp [h]
theorem bwPar_len {R : List Int} {n j : Nat} : (bwPar R n j).length ≤ n := by
  unfold bwPar
  rw [List.length_map]
  have := List.length_filter_le (fun m => decide (m % 2 = j)) (List.range n)
  simpa using this
theorem bwPar_both {R : List Int} : ∀ n, (bwPar R n 0).length + (bwPar R n 1).length = n
  | 0 => rfl
  | n + 1 => by
    have := bwPar_both (R := R) n
    rw [bwPar_succ, bwPar_succ, List.length_append, List.length_append]
    rcases Nat.mod_two_eq_zero_or_one n with h | h <;> simp [h] <;> omega
theorem getD_inj {R : List Int} (nd : R.Nodup) {i j : Nat} (hi : i < R.length) (hj : j < R.length) (e : R.getD i 0 = R.getD j 0) : i = j := by
  rw [List.getD_eq_getElem?_getD, List.getD_eq_getElem?_getD, List.getElem?_eq_getElem hi, List.getElem?_eq_getElem hj] at e
  exact (List.getElem_inj nd).mp e
theorem bwAt_lt {R : List Int} (nd : R.Nodup) {m : Nat} (h : m + 1 < R.length) : (bwAt R m).1 < (bwAt R m).2 := by
  have hne : R.getD m 0 ≠ R.getD (m + 1) 0 := fun e => by
    have := getD_inj nd (by omega) h e
    omega
  unfold bwAt
  dsimp only
  by_cases h1 : R.getD (m + 1) 0 < R.getD m 0
  · rw [if_pos h1, if_neg (by omega)]
    exact h1
  · rw [if_neg h1, if_pos (by omega)]
    omega
theorem bwAt_sum {R : List Int} {m : Nat} : (bwAt R m).1 + (bwAt R m).2 = R.getD m 0 + R.getD (m + 1) 0 := by
  unfold bwAt
  dsimp only
  by_cases h1 : R.getD (m + 1) 0 < R.getD m 0
  · rw [if_pos h1, if_neg (by omega)]
    omega
  · rw [if_neg h1]
    by_cases h2 : R.getD m 0 < R.getD (m + 1) 0
    · rw [if_pos h2]
    · rw [if_neg h2]
      omega
theorem bwAt_has {R : List Int} (nd : R.Nodup) {m i : Nat} (h : m + 1 < R.length) (hi : i < R.length) : ((bwAt R m).1 = R.getD i 0 ∨ (bwAt R m).2 = R.getD i 0) ↔ (m = i ∨ m + 1 = i) := by
  have e1 : R.getD m 0 = R.getD i 0 ↔ m = i := ⟨fun e => getD_inj nd (by omega) hi e, fun e => by rw [e]⟩
  have e2 : R.getD (m + 1) 0 = R.getD i 0 ↔ m + 1 = i := ⟨fun e => getD_inj nd h hi e, fun e => by rw [e]⟩
  rw [← e1, ← e2]
  unfold bwAt
  dsimp only
  by_cases h1 : R.getD (m + 1) 0 < R.getD m 0
  · rw [if_pos h1, if_neg (by omega)]
    exact ⟨fun h => h.symm, fun h => h.symm⟩
  · rw [if_neg h1]
    by_cases h2 : R.getD m 0 < R.getD (m + 1) 0
    · rw [if_pos h2]
    · rw [if_neg h2]
      have : R.getD m 0 = R.getD (m + 1) 0 := by omega
      rw [this]
theorem filter_one {α : Type} {p : α → Bool} {a : α} : ∀ {l : List α}, l.Nodup → a ∈ l → (∀ x ∈ l, p x = true ↔ x = a) → l.filter p = [a]
  | x :: l, nd, ha, h => by
    have hn := List.nodup_cons.mp nd
    by_cases e : x = a
    · subst e
      rw [List.filter_cons_of_pos ((h x List.mem_cons_self).mpr rfl)]
      congr 1
      rw [List.filter_eq_nil_iff]
      intro y hy hp
      have := (h y (List.mem_cons_of_mem _ hy)).mp hp
      subst this
      exact hn.1 hy
    · have hx : ¬ p x = true := fun hp => e ((h x List.mem_cons_self).mp hp)
      rw [List.filter_cons_of_neg hx]
      refine filter_one hn.2 ?_ fun y hy => h y (List.mem_cons_of_mem _ hy)
      rcases List.mem_cons.mp ha with h1 | h1
      · exact absurd h1.symm e
      · exact h1
/-- just one bow of this parity has the row i -/
theorem bwPar_filter {R : List Int} (nd : R.Nodup) {n j i m : Nat} (hn : n + 1 ≤ R.length) (hm : m < n) (hj : m % 2 = j) (hi : i < R.length) (hmi : m = i ∨ m + 1 = i) :
    (bwPar R n j).filter (fun b => decide (b.1 = R.getD i 0 ∨ b.2 = R.getD i 0)) = [bwAt R m] := by
  unfold bwPar
  rw [List.filter_map]
  have : ((List.range n).filter fun m => decide (m % 2 = j)).filter ((fun b : Int × Int => decide (b.1 = R.getD i 0 ∨ b.2 = R.getD i 0)) ∘ bwAt R) = [m] := by
    rw [List.filter_filter]
    refine filter_one List.nodup_range (List.mem_range.mpr hm) fun x hx => ?_
    have hx := List.mem_range.mp hx
    have h1 := bwAt_has nd (m := x) (i := i) (by omega) hi
    simp only [Function.comp, Bool.and_eq_true, decide_eq_true_eq, h1]
    omega
  rw [this]
  rfl
end Rg
namespace Rg
mutual
theorem deep_mono {L K : Hh} : ∀ {n : Nat} {d d' : D}, deep n L d = some d' → deep n (L ++ K) d = some d'
  | 0, _, _, h => by cases h
  | n + 1, .non, _, h => h
  | n + 1, .bl _, _, h => h
  | n + 1, .int _, _, h => h
  | n + 1, .str _, _, h => h
  | n + 1, .tup xs, d', h => by
    simp only [deep] at h ⊢
    cases e : xs.mapM (deep n L) with
    | none => rw [e] at h; cases h
    | some ys =>
      rw [e] at h
      rw [deeps_mono e]
      exact h
  | n + 1, .lst xs, d', h => by
    simp only [deep] at h ⊢
    cases e : xs.mapM (deep n L) with
    | none => rw [e] at h; cases h
    | some ys =>
      rw [e] at h
      rw [deeps_mono e]
      exact h
  | n + 1, .ref k, d', h => by
    simp only [deep] at h ⊢
    cases e : L[k]? with
    | none => rw [e] at h; cases h
    | some c =>
      rw [e] at h
      rw [List.getElem?_append_left (List.getElem?_eq_some_iff.mp e).1, e]
      cases c with
      | lst xs =>
        dsimp only at h ⊢
        cases e : xs.mapM (deep n L) with
        | none => rw [e] at h; cases h
        | some ys =>
          rw [e] at h
          rw [deeps_mono e]
          exact h
      | _ => cases h
  | n + 1, .exn _ _, _, h => by cases h
  | n + 1, .scr _, _, h => by cases h
termination_by n => (n, 0)
theorem deeps_mono {L K : Hh} : ∀ {n : Nat} {ds ds' : List D}, ds.mapM (deep n L) = some ds' → ds.mapM (deep n (L ++ K)) = some ds'
  | n, [], _, h => by simpa using h
  | n, d :: ds, ds', h => by
    rw [List.mapM_cons] at h ⊢
    cases e : deep n L d with
    | none => rw [e] at h; cases h
    | some d1 =>
      rw [e] at h
      rw [deep_mono e]
      cases e2 : ds.mapM (deep n L) with
      | none => rw [e2] at h; cases h
      | some ds1 =>
        rw [e2] at h
        rw [deeps_mono e2]
        exact h
termination_by n ds => (n, ds.length + 1)
end
theorem frz_mono {L K : Hh} {d d' : D} (h : frz L d = some d') : frz (L ++ K) d = some d' := by
  cases d with
  | scr ns => exact h
  | exn c fs => exact h
  | _ => exact deep_mono h
/-- a test called on one value -/
theorem callI_bl {f : Fn} {x d : D} {b : Bool} {L : Hh} (h : frz L x = some d) (e : f [d] [] = some (.ok (.bl b), [])) : callI f [x] L = some (.ok (.bl b), L) := by
  rw [callI_lent (ds := [d]) (by simp [h]) e rfl rfl]
  simp [D.shift]
theorem perm_of_nodup {α : Type} [DecidableEq α] {l m : List α} (h1 : l.Nodup) (h2 : m.Nodup) (h3 : l ⊆ m) (h4 : m.length ≤ l.length) : l.Perm m := by
  rw [List.perm_ext_iff_of_nodup h1 h2]
  intro a
  refine ⟨fun h => h3 h, fun hm => ?_⟩
  apply Classical.byContradiction
  intro ha
  have h5 : l ⊆ m.erase a := fun x hx => (List.mem_erase_of_ne (fun e => ha (by rw [← e]; exact hx))).mpr (h3 hx)
  have h6 := nodup_len h1 h5
  rw [List.length_erase_of_mem hm] at h6
  have := List.length_pos_of_mem hm
  omega
/-- the numbers 1 .. n -/
def upTo (n : Nat) : List Int := (List.range n).map fun k : Nat => (k : Int) + 1
@[simp] theorem upTo_len {n : Nat} : (upTo n).length = n := by simp [upTo]
theorem mem_upTo {n : Nat} {x : Int} : x ∈ upTo n ↔ 1 ≤ x ∧ x ≤ n := by
  unfold upTo
  rw [List.mem_map]
  constructor
  · rintro ⟨k, hk, rfl⟩
    have := List.mem_range.mp hk
    omega
  · rintro ⟨h1, h2⟩
    exact ⟨(x - 1).toNat, List.mem_range.mpr (by omega), by omega⟩
theorem upTo_nd {n : Nat} : (upTo n).Nodup := List.Pairwise.map _ (fun a b h => by omega) List.nodup_range
theorem upTo_sorted {n : Nat} : (upTo n).Pairwise fun a b => leI a b = true := List.Pairwise.map _ (fun a b h => by simp [leI]; omega) List.pairwise_lt_range
theorem rangeL_upTo {n : Nat} : rangeL 1 n = (upTo n).map .int := by simp [rangeL, upTo, Function.comp_def, Int.add_comm]
/-- as a tuple of data: an order of rings -/
def ordB : D → Bool
  | .tup xs => match xs.mapM keyI with
    | some ns => decide (xs.length ≤ 20) && decide (ns.mergeSort leI = upTo xs.length)
    | none => false
  | _ => false
theorem ord_iff {ns : List Int} : ns.mergeSort leI = upTo ns.length ↔ (∀ x ∈ ns, 1 ≤ x ∧ x ≤ ns.length) ∧ ns.Nodup := by
  constructor
  · intro h
    have hp : ns.Perm (upTo ns.length) := by
      rw [← h]
      exact (List.mergeSort_perm ns leI).symm
    exact ⟨fun x hx => mem_upTo.mp (hp.mem_iff.mp hx), hp.nodup_iff.mpr upTo_nd⟩
  · rintro ⟨h1, h2⟩
    exact sortI_eq (perm_of_nodup h2 upTo_nd (fun x hx => mem_upTo.mpr (h1 x hx)) (by simp)) upTo_sorted
theorem mapM_keyI_some : ∀ {xs : List D} {ns : List Int}, xs.mapM keyI = some ns → xs = ns.map .int
  | [], ns, h => by
    simp at h
    subst h
    rfl
  | x :: xs, ns, h => by
    rw [List.mapM_cons] at h
    cases x with
    | int i =>
      cases e : xs.mapM keyI with
      | none => rw [e] at h; simp [keyI] at h
      | some ms =>
        rw [e] at h
        simp [keyI] at h
        subst h
        rw [mapM_keyI_some e]
        rfl
    | _ => simp [keyI] at h
theorem mapM_keyI_none {xs : List D} {x : D} (hx : x ∈ xs) (h : keyI x = none) : xs.mapM keyI = none := by
  cases e : xs.mapM keyI with
  | none => rfl
  | some ns =>
    have := mapM_keyI_some e
    subst this
    obtain ⟨i, _, rfl⟩ := List.mem_map.mp hx
    cases h
/-- whole numbers among plain data -/
def wholeB : D → Bool
  | .int _ => true
  | _ => false
theorem pures_mem {ds : List D} {d : D} (h : D.pures ds = true) (hd : d ∈ ds) : d.pure = true := pures_iff.mp h d hd
theorem deps_mem : ∀ {ds : List D} {d : D}, d ∈ ds → d.dep ≤ D.deps ds
  | x :: ds, d, h => by
    simp only [D.deps]
    rcases List.mem_cons.mp h with rfl | h
    · omega
    · have := deps_mem h
      omega
end Rg
namespace Rg
theorem atI_any {α : Type} {xs : List α} {i : Int} (h0 : 0 ≤ i) (h1 : i < xs.length) : ∃ x ∈ xs, atI xs i = some x := by
  have hj : i.toNat < xs.length := by omega
  exact ⟨xs[i.toNat], List.getElem_mem hj, atI_get (j := i.toNat) (by omega) (List.getElem?_eq_getElem hj)⟩
/-- plain data, n deep -/
def PlD (n : Nat) (d : D) : Prop := d.pure = true ∧ d.dep ≤ n
def PlDs (n : Nat) (ds : List D) : Prop := D.pures ds = true ∧ D.deps ds ≤ n
theorem PlDs.mem {n : Nat} {ds : List D} (h : PlDs n ds) {d : D} (hd : d ∈ ds) : PlD n d := ⟨pures_mem h.1 hd, by have := deps_mem hd; have := h.2; omega⟩
theorem PlDs.of {n : Nat} {ds : List D} (h : ∀ d ∈ ds, PlD n d) : PlDs n ds := by
  refine ⟨pures_iff.mpr fun d hd => (h d hd).1, ?_⟩
  induction ds with
  | nil => simp [D.deps]
  | cons d ds ih =>
    have h1 := (h d List.mem_cons_self).2
    have h2 := ih fun x hx => h x (List.mem_cons_of_mem _ hx)
    simp only [D.deps]
    omega
theorem PlDs.sub {n : Nat} {ds es : List D} (h : PlDs n ds) (hs : ∀ d ∈ es, d ∈ ds) : PlDs n es := PlDs.of fun d hd => h.mem (hs d hd)
theorem PlDs.set {n i : Nat} {ds : List D} {d : D} (h : PlDs n ds) (hd : PlD n d) : PlDs n (ds.set i d) := PlDs.of fun x hx => by
  rcases List.mem_or_eq_of_mem_set hx with h1 | h1
  · exact h.mem h1
  · rw [h1]
    exact hd
theorem PlDs.ints {ns : List Int} {n : Nat} (hn : 1 ≤ n) : PlDs n (ns.map .int) := ⟨pures_int, by have := deps_int (ns := ns); omega⟩
/-- what a def hands back: plain data, or a new list of plain data; od: what it reads as -/
def Back (n : Nat) (x : D) (K : Hh) (od : D) : Prop := (PlD n x ∧ K = [] ∧ od = x) ∨ ∃ ys, x = .ref 0 ∧ K = [.lst ys] ∧ PlDs n ys ∧ od = .lst ys
end Rg
namespace Rg
def sideB (d : D) : Bool := decide (d = .str [108] ∨ d = .str [114])
/-- no side stands in it -/
def NoSd (ds : List D) : Prop := ∀ d ∈ ds, sideB d = false
def NoS (d : D) : Prop := ∀ xs, d = .tup xs → NoSd xs
theorem NoSd.ints {ns : List Int} : NoSd (ns.map .int) := fun d hd => by
  obtain ⟨i, _, rfl⟩ := List.mem_map.mp hd
  simp [sideB]
theorem NoSd.sub {ds es : List D} (h : NoSd ds) (hs : ∀ d ∈ es, d ∈ ds) : NoSd es := fun d hd => h d (hs d hd)
theorem NoSd.set {i : Nat} {ds : List D} {d : D} (h : NoSd ds) (hd : sideB d = false) : NoSd (ds.set i d) := fun x hx => by
  rcases List.mem_or_eq_of_mem_set hx with h1 | h1
  · exact h x h1
  · rw [h1]
    exact hd
end Rg
namespace Rg
def isTup : D → Bool
  | .tup _ => true
  | _ => false
end Rg
namespace Rg
/-! ### slices -/
section
variable {L : Hh}
@[simp] theorem opSl_str {s : Tx} {lo hi : Option Int} : opSl (.str s) lo hi L = if s.length ≤ 100000 then some (.ok (.str (cut s lo hi)), L) else none := rfl
@[simp] theorem opSl_tup {s : List D} {lo hi : Option Int} : opSl (.tup s) lo hi L = some (.ok (.tup (cut s lo hi)), L) := rfl
@[simp] theorem opSl_scr {s : List Int} {lo hi : Option Int} : opSl (.scr s) lo hi L = some (.ok (.ref L.length), L ++ [.lst (cut (s.map .int) lo hi)]) := rfl
@[simp] theorem opSl_lst {s : List D} {lo hi : Option Int} : opSl (.lst s) lo hi L = some (.ok (.ref L.length), L ++ [.lst (cut s lo hi)]) := rfl
@[simp] theorem opSl_ref {n : Nat} {lo hi : Option Int} : opSl (.ref n) lo hi L = match L[n]? with
    | some (.lst s) => some (.ok (.ref L.length), L ++ [.lst (cut s lo hi)])
    | _ => none := by
  simp only [opSl, look_ref]
  cases h : L[n]? with
  | none => rfl
  | some c => cases c <;> rfl
theorem sIx_nat {n d i : Nat} : sIx n d (some (i : Int)) = min i n := by
  show (if (i : Int) < 0 then ((i : Int) + (n : Int)).toNat else min (i : Int).toNat n) = _
  rw [if_neg (by omega), Int.toNat_natCast]
theorem sIx_neg {n d : Nat} : sIx n d (some (-1)) = n - 1 := by
  show (if (-1 : Int) < 0 then (-1 + (n : Int)).toNat else min (-1 : Int).toNat n) = _
  rw [if_pos (by omega)]
  omega
theorem sIx_none {n d : Nat} : sIx n d none = d := rfl
theorem cut_take {α : Type} {xs : List α} {i : Nat} : cut xs none (some (i : Int)) = xs.take i := by
  unfold cut
  rw [sIx_nat, sIx_none, List.drop_zero, Nat.sub_zero]
  by_cases h : i ≤ xs.length
  · rw [Nat.min_eq_left h]
  · rw [Nat.min_eq_right (by omega), List.take_of_length_le (Nat.le_refl _), List.take_of_length_le (by omega)]
theorem cut_drop {α : Type} {xs : List α} {i : Nat} : cut xs (some (i : Int)) none = xs.drop i := by
  unfold cut
  rw [sIx_nat, sIx_none]
  by_cases h : i ≤ xs.length
  · rw [Nat.min_eq_left h, List.take_of_length_le (by simp)]
  · rw [Nat.min_eq_right (by omega), List.drop_length, List.drop_of_length_le (by omega)]
    simp
theorem cut_takeI {α : Type} {xs : List α} {i : Int} (h : 0 ≤ i) : cut xs none (some i) = xs.take i.toNat := by
  obtain ⟨j, rfl⟩ := Int.eq_ofNat_of_zero_le h
  exact cut_take
theorem cut_dropI {α : Type} {xs : List α} {i : Int} (h : 0 ≤ i) : cut xs (some i) none = xs.drop i.toNat := by
  obtain ⟨j, rfl⟩ := Int.eq_ofNat_of_zero_le h
  exact cut_drop
@[simp] theorem cut_init {α : Type} {xs : List α} : cut xs none (some (-1)) = xs.dropLast := by
  unfold cut
  rw [sIx_neg, sIx_none, List.drop_zero, Nat.sub_zero, List.dropLast_eq_take]
@[simp] theorem cut_last {α : Type} {xs : List α} : cut xs (some (-1)) none = xs.drop (xs.length - 1) := by
  unfold cut
  rw [sIx_neg, sIx_none, List.take_of_length_le (by simp)]
theorem last_drop {α : Type} {xs : List α} {x : α} : (xs ++ [x]).drop ((xs ++ [x]).length - 1) = [x] := by simp
theorem chars_ones {s : Tx} : charsD s = (s.map fun c => [c]).map D.str := by simp [charsD]
theorem join_chars {w : Tx} (h : w.length ≤ 100000) {n : Nat} (e : L[n]? = some (.lst (charsD w))) : mJoin [] (.ref n) L = some (.ok (.str w), L) := join_ones h (by rw [e, chars_ones])
theorem chars_len {s : Tx} : (charsD s).length = s.length := by simp [charsD]
theorem chars_set {s : Tx} {i c : Nat} : (charsD s).set i (.str [c]) = charsD (s.set i c) := by
  unfold charsD
  rw [List.map_set]
theorem chars_take {s : Tx} {i : Nat} : (charsD s).take i = charsD (s.take i) := by simp [charsD, List.map_take]
theorem chars_drop {s : Tx} {i : Nat} : (charsD s).drop i = charsD (s.drop i) := by simp [charsD, List.map_drop]
theorem pures_chars {s : Tx} : D.pures (charsD s) = true := pures_map fun _ _ => pure_str
theorem deps_chars {s : Tx} : D.deps (charsD s) ≤ 1 := deps_map fun _ _ => by simp [D.dep]
theorem atI_last {α : Type} {xs : List α} {x : α} : atI (xs ++ [x]) (-1) = some x := by
  unfold atI ixN
  rw [if_neg (by omega), if_pos (by simp; omega)]
  simp
  have : (-1 + (((xs.length : Int) + 1))).toNat = xs.length := by omega
  rw [this]
  simp
@[simp] theorem opAdd_ll {a b : List D} : opAdd (.lst a) (.lst b) L = if a.length + b.length ≤ 100000 then some (.ok (.ref L.length), L ++ [.lst (a ++ b)]) else none := rfl
theorem opAdd_lr {a b : List D} {n : Nat} (h : L[n]? = some (.lst b)) : opAdd (.lst a) (.ref n) L = if a.length + b.length ≤ 100000 then some (.ok (.ref L.length), L ++ [.lst (a ++ b)]) else none := by
  simp only [opAdd, look_lst, look_ref, h]
theorem opAdd_rl {a b : List D} {n : Nat} (h : L[n]? = some (.lst a)) : opAdd (.ref n) (.lst b) L = if a.length + b.length ≤ 100000 then some (.ok (.ref L.length), L ++ [.lst (a ++ b)]) else none := by
  simp only [opAdd, look_lst, look_ref, h]
theorem opAdd_rr {a b : List D} {n m : Nat} (h : L[n]? = some (.lst a)) (h2 : L[m]? = some (.lst b)) : opAdd (.ref n) (.ref m) L = if a.length + b.length ≤ 100000 then some (.ok (.ref L.length), L ++ [.lst (a ++ b)]) else none := by
  simp only [opAdd, look_ref, h, h2]
/-- the greatest one -/
def mx : List Int → Int
  | [] => 0
  | n :: ns => ns.foldl max n
theorem foldl_le : ∀ (ns : List Int) (n : Int), ∀ y ∈ n :: ns, y ≤ ns.foldl max n
  | [], n, y, hy => by simp at hy; subst hy; exact Int.le_refl _
  | m :: ns, n, y, hy => by
    rw [List.foldl_cons]
    have h3 := foldl_le ns (max n m) (max n m) List.mem_cons_self
    rcases List.mem_cons.mp hy with rfl | hy
    · omega
    · rcases List.mem_cons.mp hy with rfl | hy
      · omega
      · exact foldl_le ns (max n m) y (List.mem_cons_of_mem _ hy)
theorem mx_le {l : List Int} {y : Int} (h : y ∈ l) : y ≤ mx l := by
  cases l with
  | nil => cases h
  | cons n ns => exact foldl_le ns n y h
theorem mx_mem {l : List Int} (h : l ≠ []) : mx l ∈ l := by
  cases l with
  | nil => exact absurd rfl h
  | cons n ns =>
    show ns.foldl max n ∈ n :: ns
    clear h
    induction ns generalizing n with
    | nil => simp
    | cons m ns ih =>
      rw [List.foldl_cons]
      have := ih (max n m)
      rcases List.mem_cons.mp this with h | h
      · rw [h]
        rcases Int.le_total n m with q | q
        · rw [Int.max_eq_right q]; simp
        · rw [Int.max_eq_left q]; simp
      · simp [h]
theorem opMax1_ints {n : Nat} {ns : List Int} (h : L[n]? = some (.lst (ns.map .int))) (h0 : ns ≠ []) : opMax1 (.ref n) L = some (.ok (.int (mx ns)), L) := by
  simp only [opMax1, look_ref, h, keys_int]
  cases ns with
  | nil => exact absurd rfl h0
  | cons a ns => rfl
/-! ### a comprehension whose items leave new cells behind -/
theorem lcL_grow {s : Src} {g : Tg} {t : M Bool} {e : M D} {env : Env} {L : Hh} (f : D → Option D) : ∀ (xs acc : List D) (K : Hh), acc.length + xs.length ≤ 10000 → (∀ L' : Hh, (∀ k, k < L.length → L'[k]? = L[k]?) → s.stays L' = true) →
      (∀ x ∈ xs, ∀ L' : Hh, (∀ k, k < L.length → L'[k]? = L[k]?) → ∃ env1, g x env L' = some (env1, L') ∧ ((f x = none ∧ t env1 L' = some (.ok false, L')) ∨ ∃ y K, f x = some y ∧ t env1 L' = some (.ok true, L') ∧ e env1 L' = some (.ok y, L' ++ K))) →
      ∃ K', lcL s g t e L.length env xs (L ++ .lst acc :: K) = some (.ok (.ref L.length), L ++ .lst (acc ++ xs.filterMap f) :: K')
  | [], acc, K, hl, hs, hx => by
    refine ⟨K, ?_⟩
    rw [lcL, if_pos (hs _ fun k hk => List.getElem?_append_left hk)]
    simp
  | x :: xs, acc, K, hl, hs, hx => by
    have hst : ∀ J : Hh, ∀ k, k < L.length → (L ++ J)[k]? = L[k]? := fun J k hk => List.getElem?_append_left hk
    obtain ⟨env1, h1, h2⟩ := hx x List.mem_cons_self (L ++ .lst acc :: K) (hst _)
    simp only [List.length_cons] at hl
    rw [lcL, if_pos (hs _ (hst _)), h1]
    dsimp only
    rcases h2 with ⟨h3, h4⟩ | ⟨y, K2, h3, h4, h5⟩
    · rw [h4]
      dsimp only
      obtain ⟨K', ih⟩ := lcL_grow f xs acc K (by omega) hs fun x hx' => hx x (List.mem_cons_of_mem _ hx')
      refine ⟨K', ?_⟩
      rw [ih, List.filterMap_cons, h3]
    · rw [h4]
      dsimp only
      rw [h5]
      dsimp only
      have e1 : (L ++ .lst acc :: K ++ K2)[L.length]? = some (.lst acc) := by simp
      rw [e1]
      dsimp only
      rw [if_pos (by omega)]
      have e2 : (L ++ .lst acc :: K ++ K2).set L.length (.lst (acc ++ [y])) = L ++ .lst (acc ++ [y]) :: (K ++ K2) := by simp
      rw [e2]
      obtain ⟨K', ih⟩ := lcL_grow f xs (acc ++ [y]) (K ++ K2) (by simp; omega) hs fun x hx' => hx x (List.mem_cons_of_mem _ hx')
      refine ⟨K', ?_⟩
      rw [ih, List.filterMap_cons, h3]
      simp
theorem lc_grow {s : Src} {g : Tg} {t : M Bool} {e : M D} {env : Env} {L : Hh} (f : D → Option D) (hl : s.xs.length ≤ 10000) (hs : ∀ L' : Hh, (∀ k, k < L.length → L'[k]? = L[k]?) → s.stays L' = true)
    (hx : ∀ x ∈ s.xs, ∀ L' : Hh, (∀ k, k < L.length → L'[k]? = L[k]?) → ∃ env1, g x env L' = some (env1, L') ∧ ((f x = none ∧ t env1 L' = some (.ok false, L')) ∨ ∃ y K, f x = some y ∧ t env1 L' = some (.ok true, L') ∧ e env1 L' = some (.ok y, L' ++ K))) :
    ∃ K, lcL s g t e L.length env s.xs (L ++ [.lst []]) = some (.ok (.ref L.length), L ++ .lst (s.xs.filterMap f) :: K) := by
  obtain ⟨K, h⟩ := lcL_grow (s := s) (g := g) (t := t) (e := e) (env := env) (L := L) f s.xs [] [] (by simpa using hl) hs hx
  exact ⟨K, by simpa using h⟩
end
end Rg
/-! SnZ: zip of two rows, each a list (false) or a tuple (true). -/
namespace Rg
open PySem PySem.Spec L2
open PySem.Sem (wp)
open PyProof.Rows hiding St
/-- the row at l, of the kind t; an iterator over it -/
def RowIs (t : Bool) (h : Heap) (l : Addr) (xs : Array Value) : Prop := match t with
  | false => h.IsList l xs
  | true => h.IsTuple l xs
def WalkIs (t : Bool) (h : Heap) (it l : Addr) (k : Nat) : Prop := match t with
  | false => h.IsListIter it l k
  | true => h.IsTupleIter it l k
theorem RowIs.ext {t : Bool} {h h' : Heap} {l b : Addr} {xs : Array Value} (r : RowIs t h l xs) (hs : Heap.ExtBut b h h') (hne : l ≠ b) : RowIs t h' l xs := by
  cases t with
  | false => exact Heap.IsList.extBut r hs hne
  | true => exact Heap.IsTuple.extBut r hs hne
theorem WalkIs.ext {t : Bool} {h h' : Heap} {it l b : Addr} {k : Nat} (r : WalkIs t h it l k) (hs : Heap.ExtBut b h h') (hne : it ≠ b) : WalkIs t h' it l k := by
  cases t with
  | false => exact Heap.IsListIter.extBut r hs hne
  | true => exact Heap.IsTupleIter.extBut r hs hne
theorem WalkIs.kept {t : Bool} {h h' : Heap} {it l : Addr} {k : Nat} (r : WalkIs t h it l k) (hk : ∀ o, h.get? it = some o → h'.get? it = some o) : WalkIs t h' it l k := by
  cases t with
  | false =>
    obtain ⟨o, ho, q⟩ := r
    exact ⟨o, hk o ho, q⟩
  | true =>
    obtain ⟨o, ho, q⟩ := r
    exact ⟨o, hk o ho, q⟩
theorem WalkIs.obj {t : Bool} {h : Heap} {it l : Addr} {k : Nat} (r : WalkIs t h it l k) : ∃ o, h.get? it = some o ∧ ∃ fs, o.data = .fields fs := by
  cases t with
  | false =>
    obtain ⟨o, ho, _, hd⟩ := r
    exact ⟨o, ho, _, hd⟩
  | true =>
    obtain ⟨o, ho, _, hd⟩ := r
    exact ⟨o, ho, _, hd⟩
theorem WalkIs.lt {t : Bool} {h : Heap} {it l : Addr} {k : Nat} (r : WalkIs t h it l k) : it < h.objs.size := by
  obtain ⟨o, ho, _⟩ := r.obj
  exact Heap.lt_size ho
section
variable {prog : Program} {w : World} {A : Around} {E : Value → Shared → Prop} {s : Shared}
theorem walk_item {t : Bool} {it l : Addr} {k : Nat} {xs : Array Value} {x : Value} {Q : Value → Shared → Prop} (r : WalkIs t s.heap it l k) (hl : RowIs t s.heap l xs) (hx : xs[k]? = some x)
    (hQ : ∀ h', WalkIs t h' it l (k + 1) → Heap.SameBut it s.heap h' → Q x { s with heap := h' }) : wpAny (model prog w) A (Builtin.SmallTypes.nextOf (.ref it)) Q E s := by
  cases t with
  | false => exact wpAny_nextOf_list_item r hl hx hQ
  | true => exact RZ.nextOf_tuple_item r hl hx hQ
theorem walk_end {t : Bool} {it l : Addr} {k : Nat} {xs : Array Value} {Q : Value → Shared → Prop} (hh : A.handled = none) (r : WalkIs t s.heap it l k) (hl : RowIs t s.heap l xs) (hx : xs[k]? = none)
    (hE : ∀ h' e, Heap.ExtBut it s.heap h' → (∃ o, h'.get? e = some o ∧ o.cls = .type "StopIteration") → E (.ref e) { s with heap := h' }) : wpAny (model prog w) A (Builtin.SmallTypes.nextOf (.ref it)) Q E s := by
  cases t with
  | false => exact wpAny_nextOf_list_end hh r hl hx hE
  | true => exact RZ.nextOf_tuple_end hh r hl hx hE
/-- what a zip's parts are -/
structure ZipSt (t1 t2 : Bool) (h : Heap) (z TI TO i1 i2 l1 l2 : Addr) (f0 a b : Value) (k1 k2 : Nat) : Prop where
  zip : IsZip h z TI TO f0
  ti : IsPair h TI (.ref i1) (.ref i2)
  to : IsPair h TO a b
  w1 : WalkIs t1 h i1 l1 k1
  w2 : WalkIs t2 h i2 l2 k2
/-- everything but the zip's own cells stays -/
def Rest (z TO i1 i2 : Addr) (h h' : Heap) : Prop := ∀ c o, c ≠ z → c ≠ TO → c ≠ i1 → c ≠ i2 → h.get? c = some o → h'.get? c = some o
theorem zipX_next {t1 t2 : Bool} {z TI TO i1 i2 l1 l2 : Addr} {k1 k2 : Nat} {xs ys : Array Value} {x y a b : Value} {Q : Value → Shared → Prop} (D : ZipApart z TI TO i1 i2 l1 l2)
    (Z : ZipSt t1 t2 s.heap z TI TO i1 i2 l1 l2 .none a b k1 k2) (r1 : RowIs t1 s.heap l1 xs) (r2 : RowIs t2 s.heap l2 ys) (hx : xs[k1]? = some x) (hy : ys[k2]? = some y)
    (hQ : ∀ h', ZipSt t1 t2 h' z TI TO i1 i2 l1 l2 (rawInt s.heap.objs.size) x y (k1 + 1) (k2 + 1) → IsPair h' s.heap.objs.size x y → h'.objs.size = s.heap.objs.size + 1 → Rest z TO i1 i2 s.heap h' → Q (.ref s.heap.objs.size) { s with heap := h' }) :
    wpAny (model prog w) A (Builtin.«zip.__next__» ⟨[.ref z], []⟩) (fun fin s' => ∃ v, fin = .done (.ret v) ∧ Q v s') E s := by
  obtain ⟨hz, hTI, hTO, w1, w2⟩ := Z
  show wpAny _ _ (field (.ref z) 2 >>= _) _ _ _
  refine wpAny_bind (wpAny_field hz rfl (x := .bool false) rfl ?_)
  show wpAny _ _ (field (.ref z) 3 >>= _) _ _ _
  refine wpAny_bind (wpAny_field hz rfl (x := .ref TI) rfl ?_)
  refine wpAny_bind (wpAny_seqItems hTI rfl ?_)
  show wpAny _ _ (Builtin.SmallTypes.ownedTupleIsFree (.ref z) >>= _) _ _ _
  refine wpAny_bind ?_
  unfold Builtin.SmallTypes.ownedTupleIsFree
  refine wpAny_bind (wpAny_field hz rfl (x := .none) rfl (wpAny_pure ?_))
  simp only [if_true]
  refine wpAny_bind (wpAny_rule ?_)
  refine wpAny_bind (wpAny_field hz rfl (x := .ref TO) rfl ?_)
  refine wpAny_bind (wpAny_setField_rec hz (by simp) fun g1 z1 s1 => ?_)
  replace z1 : IsZip g1 z TI TO .ellipsis := z1
  refine wpAny_bind ?_
  simp only [List.zipIdx_cons, List.zipIdx_nil, List.forIn_cons, List.forIn_nil]
  -- the first row's item
  refine wpAny_bind (wpAny_bind (wpAny_onRaise ?_))
  show wpAny _ _ (Builtin.SmallTypes.nextOf (.ref i1) >>= _) _ _ _
  refine wpAny_bind (walk_item (w1.ext s1.extBut D.i1z) (r1.ext s1.extBut D.l1z) hx fun g2 w1' s2 => wpAny_pure ?_)
  have to2 : IsPair g2 TO a b := s2.extBut _ _ D.TOi1 (s1.extBut _ _ D.TOz hTO)
  refine wpAny_bind (wpAny_seqItems to2 rfl ?_)
  refine wpAny_bind (wpAny_updateSeq_pair to2 fun g3 to3 s3 => ?_)
  replace to3 : IsPair g3 TO x b := to3
  refine wpAny_bind (wpAny_letGo (wpAny_pure ?_))
  -- the second row's item
  refine wpAny_bind (wpAny_bind (wpAny_onRaise ?_))
  show wpAny _ _ (Builtin.SmallTypes.nextOf (.ref i2) >>= _) _ _ _
  refine wpAny_bind (walk_item (((w2.ext s1.extBut D.i2z).ext s2.extBut D.i12.symm).ext s3.extBut D.TOi2.symm) (((r2.ext s1.extBut D.l2z).ext s2.extBut D.l2i1).ext s3.extBut D.l2TO) hy fun g4 w2' s4 => wpAny_pure ?_)
  have to4 : IsPair g4 TO x b := s4.extBut _ _ D.TOi2 to3
  refine wpAny_bind (wpAny_seqItems to4 rfl ?_)
  refine wpAny_bind (wpAny_updateSeq_pair to4 fun g5 to5 s5 => ?_)
  replace to5 : IsPair g5 TO x y := to5
  refine wpAny_bind (wpAny_letGo (wpAny_pure (wpAny_pure ?_)))
  -- the pair handed out
  refine wpAny_bind (wpAny_seqItems to5 rfl ?_)
  refine wpAny_bind (wpAny_newTuple ?_)
  have hsz : g5.objs.size = s.heap.objs.size := by rw [s5.1, s4.1, s3.1, s2.1, s1.1]
  have z5 : IsZip g5 z TI TO .ellipsis := s5.extBut _ _ D.TOz.symm (s4.extBut _ _ D.i2z.symm (s3.extBut _ _ D.TOz.symm (s2.extBut _ _ D.i1z.symm z1)))
  have k5 : Rest z TO i1 i2 s.heap g5 := fun c o c1 c2 c3 c4 e => s5.extBut _ _ c2 (s4.extBut _ _ c4 (s3.extBut _ _ c2 (s2.extBut _ _ c3 (s1.extBut _ _ c1 e))))
  have w15 : WalkIs t1 g5 i1 l1 (k1 + 1) := ((w1'.ext s3.extBut D.TOi1.symm).ext s4.extBut D.i12).ext s5.extBut D.TOi1.symm
  have w25 : WalkIs t2 g5 i2 l2 (k2 + 1) := w2'.ext s5.extBut D.TOi2.symm
  have zlt : z < g5.objs.size := Heap.lt_size z5
  show wpAny _ _ (Builtin.SmallTypes.ownedTupleHandOut (.ref z) (.ref g5.objs.size) >>= _) _ _ _
  refine wpAny_bind ?_
  unfold Builtin.SmallTypes.ownedTupleHandOut
  have z6 : IsZip (g5.push { cls := .type "tuple", data := .seq #[x, y] }) z TI TO .ellipsis := Heap.get?_push_of_some _ z5
  refine wpAny_bind (wpAny_setField_rec z6 (by simp) fun g7 z7 s7 => ?_)
  replace z7 : IsZip g7 z TI TO (rawInt g5.objs.size) := z7
  refine wpAny_setField_rec z7 (by simp) fun g8 z8 s8 => ?_
  replace z8 : IsZip g8 z TI TO (rawInt g5.objs.size) := z8
  have up : ∀ c o, c ≠ z → g5.get? c = some o → g8.get? c = some o := fun c o c1 e => s8.extBut _ _ c1 (s7.extBut _ _ c1 (Heap.get?_push_of_some _ e))
  have t8 : IsPair g8 g5.objs.size x y := s8.extBut _ _ (Nat.ne_of_gt zlt) (s7.extBut _ _ (Nat.ne_of_gt zlt) (Heap.get?_push_size _ rfl))
  have n8 : g8.objs.size = g5.objs.size + 1 := by rw [s8.1, s7.1, Heap.size_push]
  rw [hsz] at z8 t8 n8
  refine wpAny_pure ⟨_, rfl, ?_⟩
  show Q (.ref g5.objs.size) _
  rw [hsz]
  refine hQ g8 ⟨z8, up _ _ D.TIz (k5 _ _ D.TIz D.TITO D.TIi1 D.TIi2 hTI), up _ _ D.TOz to5, w15.kept fun o e => up _ o D.i1z e, w25.kept fun o e => up _ o D.i2z e⟩ t8 n8 fun c o c1 c2 c3 c4 e => up c o c1 (k5 c o c1 c2 c3 c4 e)
theorem zipX_end {t1 t2 : Bool} {z TI TO i1 i2 l1 l2 : Addr} {k1 k2 : Nat} {xs ys : Array Value} {a b : Value} {Q : Fin → Shared → Prop} (hh : A.handled = none) (D : ZipApart z TI TO i1 i2 l1 l2)
    (Z : ZipSt t1 t2 s.heap z TI TO i1 i2 l1 l2 .none a b k1 k2) (r1 : RowIs t1 s.heap l1 xs) (r2 : RowIs t2 s.heap l2 ys) (hend : xs[k1]? = none ∨ ys[k2]? = none)
    (hE : ∀ h' e, Rest z TO i1 i2 s.heap h' → (∃ o, h'.get? e = some o ∧ o.cls = .type "StopIteration") → E (.ref e) { s with heap := h' }) :
    wpAny (model prog w) A (Builtin.«zip.__next__» ⟨[.ref z], []⟩) Q E s := by
  obtain ⟨hz, hTI, hTO, w1, w2⟩ := Z
  show wpAny _ _ (field (.ref z) 2 >>= _) _ _ _
  refine wpAny_bind (wpAny_field hz rfl (x := .bool false) rfl ?_)
  show wpAny _ _ (field (.ref z) 3 >>= _) _ _ _
  refine wpAny_bind (wpAny_field hz rfl (x := .ref TI) rfl ?_)
  refine wpAny_bind (wpAny_seqItems hTI rfl ?_)
  show wpAny _ _ (Builtin.SmallTypes.ownedTupleIsFree (.ref z) >>= _) _ _ _
  refine wpAny_bind ?_
  unfold Builtin.SmallTypes.ownedTupleIsFree
  refine wpAny_bind (wpAny_field hz rfl (x := .none) rfl (wpAny_pure ?_))
  simp only [if_true]
  refine wpAny_bind (wpAny_rule ?_)
  refine wpAny_bind (wpAny_field hz rfl (x := .ref TO) rfl ?_)
  refine wpAny_bind (wpAny_setField_rec hz (by simp) fun g1 z1 s1 => ?_)
  replace z1 : IsZip g1 z TI TO .ellipsis := z1
  refine wpAny_bind ?_
  simp only [List.zipIdx_cons, List.zipIdx_nil, List.forIn_cons, List.forIn_nil]
  refine wpAny_bind (wpAny_bind (wpAny_onRaise ?_))
  show wpAny _ _ (Builtin.SmallTypes.nextOf (.ref i1) >>= _) _ _ _
  cases hx : xs[k1]? with
  | none =>
    refine wpAny_bind (walk_end hh (w1.ext s1.extBut D.i1z) (r1.ext s1.extBut D.l1z) hx fun g2 e s2 he => ?_)
    obtain ⟨oe, hoe, hce⟩ := he
    have z2 : IsZip g2 z TI TO .ellipsis := s2 _ _ D.i1z.symm z1
    have hez : e ≠ z := fun q => by subst q; rw [z2] at hoe; cases hoe; simp at hce
    exact wpAny_setField_rec z2 (by simp) fun g3 _ s3 => hE g3 e (fun c o c1 _ c3 _ q => s3.extBut _ _ c1 (s2 _ _ c3 (s1.extBut _ _ c1 q))) ⟨oe, s3.extBut _ _ hez hoe, hce⟩
  | some x =>
    have hy : ys[k2]? = none := by
      rcases hend with q | q
      · rw [hx] at q
        cases q
      · exact q
    refine wpAny_bind (walk_item (w1.ext s1.extBut D.i1z) (r1.ext s1.extBut D.l1z) hx fun g2 w1' s2 => wpAny_pure ?_)
    have to2 : IsPair g2 TO a b := s2.extBut _ _ D.TOi1 (s1.extBut _ _ D.TOz hTO)
    refine wpAny_bind (wpAny_seqItems to2 rfl ?_)
    refine wpAny_bind (wpAny_updateSeq_pair to2 fun g3 to3 s3 => ?_)
    refine wpAny_bind (wpAny_letGo (wpAny_pure ?_))
    refine wpAny_bind (wpAny_bind (wpAny_onRaise ?_))
    show wpAny _ _ (Builtin.SmallTypes.nextOf (.ref i2) >>= _) _ _ _
    refine wpAny_bind (walk_end hh (((w2.ext s1.extBut D.i2z).ext s2.extBut D.i12.symm).ext s3.extBut D.TOi2.symm) (((r2.ext s1.extBut D.l2z).ext s2.extBut D.l2i1).ext s3.extBut D.l2TO) hy fun g4 e s4 he => ?_)
    obtain ⟨oe, hoe, hce⟩ := he
    have z4 : IsZip g4 z TI TO .ellipsis := s4 _ _ D.i2z.symm (s3.extBut _ _ D.TOz.symm (s2.extBut _ _ D.i1z.symm z1))
    have hez : e ≠ z := fun q => by subst q; rw [z4] at hoe; cases hoe; simp at hce
    exact wpAny_setField_rec z4 (by simp) fun g5 _ s5 => hE g5 e (fun c o c1 c2 c3 c4 q => s5.extBut _ _ c1 (s4 _ _ c4 (s3.extBut _ _ c2 (s2.extBut _ _ c3 (s1.extBut _ _ c1 q))))) ⟨oe, s5.extBut _ _ hez hoe, hce⟩
theorem pyNext_zipX {t1 t2 : Bool} {z TI TO i1 i2 l1 l2 : Addr} {k1 k2 : Nat} {xs ys : Array Value} {x y a b : Value} {Q : Option Value → Shared → Prop} (D : ZipApart z TI TO i1 i2 l1 l2)
    (Z : ZipSt t1 t2 s.heap z TI TO i1 i2 l1 l2 .none a b k1 k2) (r1 : RowIs t1 s.heap l1 xs) (r2 : RowIs t2 s.heap l2 ys) (hx : xs[k1]? = some x) (hy : ys[k2]? = some y)
    (hQ : ∀ h', ZipSt t1 t2 h' z TI TO i1 i2 l1 l2 (rawInt s.heap.objs.size) x y (k1 + 1) (k2 + 1) → IsPair h' s.heap.objs.size x y → h'.objs.size = s.heap.objs.size + 1 → Rest z TO i1 i2 s.heap h' → Q (some (.ref s.heap.objs.size)) { s with heap := h' }) :
    wpAny (model prog w) A (pyNext (.ref z)) Q E s := by
  have hT : s.TypeIs (.ref z) "zip" := ⟨_, Z.zip, rfl⟩
  unfold pyNext
  exact wpAny_bind (wpAny_attempt (wpAny_callSpecial?_slot (name := Str.ofString "__next__") hT F.slot_zip_next
    (wpAny_call_entry F.slot_zip_next hT F.entry_zip_next (zipX_next D Z r1 r2 hx hy fun h' a1 a2 a3 a4 => wpAny_pure (hQ h' a1 a2 a3 a4)) (F.args_zip_next_1 _))))
theorem pyNext_zipX_end {t1 t2 : Bool} {z TI TO i1 i2 l1 l2 : Addr} {k1 k2 : Nat} {xs ys : Array Value} {a b : Value} {Q : Option Value → Shared → Prop} (hh : A.handled = none) (D : ZipApart z TI TO i1 i2 l1 l2)
    (Z : ZipSt t1 t2 s.heap z TI TO i1 i2 l1 l2 .none a b k1 k2) (r1 : RowIs t1 s.heap l1 xs) (r2 : RowIs t2 s.heap l2 ys) (hend : xs[k1]? = none ∨ ys[k2]? = none)
    (hQ : ∀ h', Rest z TO i1 i2 s.heap h' → Q none { s with heap := h' }) : wpAny (model prog w) A (pyNext (.ref z)) Q E s := by
  have hT : s.TypeIs (.ref z) "zip" := ⟨_, Z.zip, rfl⟩
  unfold pyNext
  refine wpAny_bind (wpAny_attempt (wpAny_callSpecial?_slot (name := Str.ofString "__next__") hT F.slot_zip_next
    (wpAny_call_entry F.slot_zip_next hT F.entry_zip_next (zipX_end hh D Z r1 r2 hend fun h' e hk he => ?_) (F.args_zip_next_1 _))))
  obtain ⟨o, ho, hc⟩ := he
  exact wpAny_bind (wpAny_isInstance (T := "StopIteration") (b := true) ⟨o, ho, hc⟩ isSubtype_stop (wpAny_pure (hQ _ hk)))
end
/-! the call zip(x, y) -/
def rowObj (t : Bool) (l : Addr) : Obj := match t with
  | false => { cls := .type "list_iterator", data := .fields #[.ref l, .int 0 0] }
  | true => { cls := .type "tuple_iterator", data := .fields #[.ref l, .int 0 0] }
abbrev zx1 (t1 : Bool) (h : Heap) (l1 : Addr) : Heap := h.push (rowObj t1 l1)
abbrev zx2 (t1 t2 : Bool) (h : Heap) (l1 l2 : Addr) : Heap := (zx1 t1 h l1).push (rowObj t2 l2)
abbrev zx3 (t1 t2 : Bool) (h : Heap) (l1 l2 : Addr) : Heap := (zx2 t1 t2 h l1 l2).push { cls := .type "tuple", data := .seq #[.ref h.objs.size, .ref (zx1 t1 h l1).objs.size] }
abbrev zx4 (t1 t2 : Bool) (h : Heap) (l1 l2 : Addr) : Heap := (zx3 t1 t2 h l1 l2).push { cls := .type "tuple", data := .seq #[.none, .none] }
abbrev zx5 (t1 t2 : Bool) (h : Heap) (l1 l2 : Addr) : Heap := (zx4 t1 t2 h l1 l2).push { cls := .type "zip", data := .fields #[.none, .bool false, .bool false, .ref (zx2 t1 t2 h l1 l2).objs.size, .ref (zx3 t1 t2 h l1 l2).objs.size] }
theorem meets_lt (l1 l2 : Addr) (xs ys : Array Value) :
    Meets (Builtin.«zip.__new__» ⟨[.type "zip", .ref l1, .ref l2], []⟩) (fun _ R s => s.heap.IsList l1 xs ∧ s.heap.IsTuple l2 ys ∧
      R (.ok (.ret (.ref (zx4 false true s.heap l1 l2).objs.size))) { s with heap := zx5 false true s.heap l1 l2 }) :=
  .of_wp fun prog w A R s h => by
    obtain ⟨hp, g, d, tk, os⟩ := s; obtain ⟨hl1, hl2, h⟩ := h
    have hsub := sub_zip
    have hL1 : Heap.IsList (Shared.heap ⟨hp, g, d, tk, os⟩) l1 xs := hl1
    have hL2 : Heap.IsTuple (Shared.heap ⟨hp.push { cls := .type "list_iterator", data := .fields #[.ref l1, .int 0 0] }, g, d, tk, os⟩) l2 ys := Heap.IsTuple.push hl2 _
    wp_walk using wpAny_pyIter_list hL1, wpAny_pyIter_tuple hL2
    exact ⟨_, rfl, h⟩
theorem meets_x (t1 t2 : Bool) (ht : (t1 && !t2) = false) (l1 l2 : Addr) (xs ys : Array Value) :
    Meets (Builtin.«zip.__new__» ⟨[.type "zip", .ref l1, .ref l2], []⟩) (fun _ R s => RowIs t1 s.heap l1 xs ∧ RowIs t2 s.heap l2 ys ∧
      R (.ok (.ret (.ref (zx4 t1 t2 s.heap l1 l2).objs.size))) { s with heap := zx5 t1 t2 s.heap l1 l2 }) := by
  cases t1 <;> cases t2
  · exact meets_zip_new l1 l2 xs ys
  · exact meets_lt l1 l2 xs ys
  · cases ht
  · exact RZ.meets_zipT_new l1 l2 xs ys
theorem walk_new {t : Bool} {h : Heap} {l : Addr} {it : Addr} (e : h.get? it = some (rowObj t l)) : WalkIs t h it l 0 := by
  cases t <;> exact ⟨_, e, rfl, rfl⟩
theorem call_zipX {prog : Program} {w : World} {A : Around} {E : Value → Shared → Prop} {s : Shared} {t1 t2 : Bool} {l1 l2 : Addr} {xs ys : Array Value} {Q : Value → Shared → Prop} (ht : (t1 && !t2) = false) (r1 : RowIs t1 s.heap l1 xs) (r2 : RowIs t2 s.heap l2 ys)
    (h : ∀ h', ZipSt t1 t2 h' (s.heap.objs.size + 4) (s.heap.objs.size + 2) (s.heap.objs.size + 3) s.heap.objs.size (s.heap.objs.size + 1) l1 l2 .none .none .none 0 0 →
      (∀ c o, s.heap.get? c = some o → h'.get? c = some o) → Q (.ref (s.heap.objs.size + 4)) { s with heap := h' }) :
    wpAny (model prog w) A (call (.type "zip") [.ref l1, .ref l2]) Q E s := by
  refine callType_new F.called_zip (by decide) (F.typeCall_zip_2 _ _) (F.newCall_zip_2 _ _) (fun obj => F.args_object_init_3 obj _ _) F.entry_zip_new
    (meets_x t1 t2 ht l1 l2 xs ys) ⟨r1, r2, ?_⟩
  have n1 : (zx1 t1 s.heap l1).objs.size = s.heap.objs.size + 1 := Heap.size_push ..
  have n2 : (zx2 t1 t2 s.heap l1 l2).objs.size = s.heap.objs.size + 2 := by rw [Heap.size_push, n1]
  have n3 : (zx3 t1 t2 s.heap l1 l2).objs.size = s.heap.objs.size + 3 := by rw [Heap.size_push, n2]
  have n4 : (zx4 t1 t2 s.heap l1 l2).objs.size = s.heap.objs.size + 4 := by rw [Heap.size_push, n3]
  have rf : ∀ t l, (rowObj t l).isFreed = false := fun t l => by cases t <;> rfl
  have p5 : (zx5 t1 t2 s.heap l1 l2).get? (zx4 t1 t2 s.heap l1 l2).objs.size = some _ := Heap.get?_push_size _ rfl
  have p4 : (zx5 t1 t2 s.heap l1 l2).get? (zx3 t1 t2 s.heap l1 l2).objs.size = some _ := Heap.get?_push_of_some _ (Heap.get?_push_size _ rfl)
  have p3 : (zx5 t1 t2 s.heap l1 l2).get? (zx2 t1 t2 s.heap l1 l2).objs.size = some _ := Heap.get?_push_of_some _ (Heap.get?_push_of_some _ (Heap.get?_push_size _ rfl))
  have p2 : (zx5 t1 t2 s.heap l1 l2).get? (zx1 t1 s.heap l1).objs.size = some (rowObj t2 l2) := Heap.get?_push_of_some _ (Heap.get?_push_of_some _ (Heap.get?_push_of_some _ (Heap.get?_push_size _ (rf _ _))))
  have p1 : (zx5 t1 t2 s.heap l1 l2).get? s.heap.objs.size = some (rowObj t1 l1) := Heap.get?_push_of_some _ (Heap.get?_push_of_some _ (Heap.get?_push_of_some _ (Heap.get?_push_of_some _ (Heap.get?_push_size _ (rf _ _)))))
  show _ ∧ _
  rw [n2, n3, n4] at p5
  rw [n1, n2] at p3
  rw [n3] at p4
  rw [n1] at p2
  rw [n4]
  exact ⟨⟨_, p5, rfl⟩, h _ ⟨p5, p3, p4, walk_new p1, walk_new p2⟩ fun c o q =>
    Heap.get?_push_of_some _ (Heap.get?_push_of_some _ (Heap.get?_push_of_some _ (Heap.get?_push_of_some _ (Heap.get?_push_of_some _ q))))⟩
/-! at the level of HandS -/
def SqX (t : Bool) (K : PySem.W.Frag) (H : Hp) (a : Addr) (vs : List V) : Prop := match t with
  | false => SqL K H a vs
  | true => SqT K H a vs
def Itx (t1 t2 : Bool) (K : PySem.W.Frag) (a b : Addr) : It :=
  ⟨fun i H => ∃ (xs ys : List V) (x y : V), SqX t1 K H a xs ∧ SqX t2 K H b ys ∧ xs[i]? = some x ∧ ys[i]? = some y,
    fun i H v H' => ∃ T x y, v = .ref T ∧ H T = none ∧ H' = upd H T (.tup [x, y]) ∧ (∀ xs, SqX t1 K H a xs → xs[i]? = some x) ∧ ∀ ys, SqX t2 K H b ys → ys[i]? = some y,
    fun i H => ∃ xs ys : List V, SqX t1 K H a xs ∧ SqX t2 K H b ys ∧ (xs.length ≤ i ∨ ys.length ≤ i)⟩
theorem SqX.row {X : Cx} {pins : List (Addr × Obj)} {σ : L2.St} {H : Hp} {s : Shared} {t : Bool} {a : Addr} {xs : List V} (I : Inv X pins σ H s) (h : SqX t X.K H a xs) : ∃ its : List Value, Vals xs its ∧ RowIs t s.heap a its.toArray ∧ a < s.heap.objs.size := by
  cases t with
  | false =>
    obtain ⟨its, rv, p, _⟩ := I.list h
    exact ⟨its, rv, p.isList, p.lt⟩
  | true =>
    obtain ⟨its, rv, p, _⟩ := I.tuple h
    refine ⟨its, rv, p, ?_⟩
    obtain ⟨o, ho, _⟩ := id p
    exact Heap.lt_size ho
theorem SqX.inj {X : Cx} {pins : List (Addr × Obj)} {σ : L2.St} {H : Hp} {s : Shared} {t : Bool} {a : Addr} {xs ys : List V} (I : Inv X pins σ H s) (h1 : SqX t X.K H a xs) (h2 : SqX t X.K H a ys) : xs = ys := by
  cases t with
  | false => exact I.list_inj h1 h2
  | true => exact I.tuple_inj h1 h2
theorem turn_zipX {P : Program} {w : World} {K : PySem.W.Frag} {elts : List Expr} {kk : Nat} {tpos : Pos} {t1 t2 : Bool} {a b z TI TO i1 i2 : Addr} (D : ZipApart z TI TO i1 i2 a b) :
    Turn P w K (.Tuple elts kk tpos) (Itx t1 t2 K a b) [z, TI, TO, i1, i2] z (fun i h => ∃ x y, ZipSt t1 t2 h z TI TO i1 i2 a b .none x y i i) where
  mem := by simp
  obj := fun i h st c hc => by
    obtain ⟨x, y, Z⟩ := st
    obtain ⟨o1, e1, f1, d1⟩ := Z.w1.obj
    obtain ⟨o2, e2, f2, d2⟩ := Z.w2.obj
    have e' : c = z ∨ c = TI ∨ c = TO ∨ c = i1 ∨ c = i2 := by simpa using hc
    rcases e' with q | q | q | q | q <;> subst q
    · exact ⟨_, Z.zip, fun v q => nomatch q⟩
    · exact ⟨_, Z.ti, fun v q => nomatch q⟩
    · exact ⟨_, Z.to, fun v q => nomatch q⟩
    · exact ⟨o1, e1, fun v q => by rw [d1] at q; cases q⟩
    · exact ⟨o2, e2, fun v q => by rw [d2] at q; cases q⟩
  keep := fun i h h' st k => by
    obtain ⟨x, y, Z⟩ := st
    exact ⟨x, y, k z (by simp) _ Z.zip, k TI (by simp) _ Z.ti, k TO (by simp) _ Z.to, Z.w1.kept fun o q => k i1 (by simp) o q, Z.w2.kept fun o q => k i2 (by simp) o q⟩
  item := by
    intro X hP hw hK hc i pins s σ H E I hf st hg
    subst hP hw hK
    obtain ⟨x0, y0, Z⟩ := st
    obtain ⟨xs, ys, x, y, qx, qy, hx, hy⟩ := hg
    obtain ⟨its, rv, p, _⟩ := SqX.row I qx
    obtain ⟨its2, rv2, p2, _⟩ := SqX.row I qy
    obtain ⟨u, hu, ru⟩ := rv.get hx
    obtain ⟨u2, hu2, ru2⟩ := rv2.get hy
    have zl : z < s.heap.objs.size := Heap.lt_size Z.zip
    refine pyNext_zipX D Z p p2 (x := u) (y := u2) (by simpa using hu) (by simpa using hu2) fun h' Z' hT hsz hk => ?_
    refine ⟨_, rfl, wpAny_letOwnedTupleGo_zip (s := { s with heap := h' }) Z'.zip fun h'' z'' sb => ?_⟩
    have hT2 : h''.get? s.heap.objs.size = some { cls := .type "tuple", data := .seq #[u, u2] } := (sb.2 _ (Nat.ne_of_gt zl)).trans hT
    have new : ObjOk X.prog X.w (upd H s.heap.objs.size (.tup [x, y])) h'' s.heap.objs.size (.tup [x, y]) :=
      ⟨by show 2 ≤ sizeLine; decide, [u, u2], .cons ru (.cons ru2 .nil), ⟨_, hT2, rfl, _, rfl⟩⟩
    have I1 : Inv X pins σ (upd H s.heap.objs.size (.tup [x, y])) { s with heap := h'' } :=
      I.turnedNew (t' := s.toks) (ch := [z, TI, TO, i1, i2]) (fun c o hb q => (sb.2 c (fun q' => hb (by simp [q']))).trans (hk c o (fun q' => hb (by simp [q'])) (fun q' => hb (by simp [q'])) (fun q' => hb (by simp [q'])) (fun q' => hb (by simp [q'])) q)) hf (Nat.le_refl _) new
    refine ⟨.ref s.heap.objs.size, _, I1, rfl, ⟨_, x, y, rfl, I.hok.fresh (Nat.le_refl _), rfl, fun l hl => by rw [SqX.inj I hl qx]; exact hx, fun l hl => by rw [SqX.inj I hl qy]; exact hy⟩, ⟨u, u2, z'', ?_, ?_, ?_, ?_⟩, fun c hcm => ?_⟩
    · exact (sb.2 _ D.TIz).trans Z'.ti
    · exact (sb.2 _ D.TOz).trans Z'.to
    · exact Z'.w1.kept fun o q => (sb.2 _ D.i1z).trans q
    · exact Z'.w2.kept fun o q => (sb.2 _ D.i2z).trans q
    · have hlt : c < s.heap.objs.size := by
        have e' : c = z ∨ c = TI ∨ c = TO ∨ c = i1 ∨ c = i2 := by simpa using hcm
        rcases e' with q | q | q | q | q <;> rw [q]
        · exact zl
        · exact Heap.lt_size Z.ti
        · exact Heap.lt_size Z.to
        · exact Z.w1.lt
        · exact Z.w2.lt
      rw [upd_ne (Nat.ne_of_lt hlt)]
      exact (hf c hcm).1
  done := by
    intro X hP hw hK hc i pins s σ H E I hf st hg
    subst hP hw hK
    obtain ⟨x0, y0, Z⟩ := st
    obtain ⟨xs, ys, qx, qy, hend⟩ := hg
    obtain ⟨its, rv, p, _⟩ := SqX.row I qx
    obtain ⟨its2, rv2, p2, _⟩ := SqX.row I qy
    have e1 := rv.length
    have e2 := rv2.length
    have he : its.toArray[i]? = none ∨ its2.toArray[i]? = none := by
      rcases hend with q | q
      · exact .inl (by simp; omega)
      · exact .inr (by simp; omega)
    exact pyNext_zipX_end (I.ok.hd hc) D Z p p2 he fun h' hk => ⟨rfl, I.turnedL (t' := s.toks) (ch := [z, TI, TO, i1, i2]) (fun c o hb q =>
      hk c o (fun q' => hb (by simp [q'])) (fun q' => hb (by simp [q'])) (fun q' => hb (by simp [q'])) (fun q' => hb (by simp [q'])) q) hf⟩
  self := fun A i s Q E st h => by
    obtain ⟨x, y, Z⟩ := st
    exact wpAny_pyIter_zip Z.zip h
def iZipX (K : PySem.W.Frag) (ta : TA) : TI := fun σ H R => ta σ H fun vs H1 => ∃ t1 t2 a b xs ys, vs = [.ref a, .ref b] ∧ (t1 && !t2) = false ∧ SqX t1 K H1 a xs ∧ SqX t2 K H1 b ys ∧ R (Itx t1 t2 K a b) H1
theorem pi_zipX {X : Cx} {e e2 : Expr} {ta : TA} {p pos tpos : Pos} {elts : List Expr} {kk : Nat} (hg : Gl X "zip") (hm : X.mg "zip" = none) (ha : PA X [e, e2] ta)
    (hs : starEach [e, e2] X.env = (false, eval e X.env) :: starEach [e2] X.env := by rfl) (hpl : (backTo pos (starEach [e2] X.env)).any (·.1) = false := by rfl) :
    PI X (.Tuple elts kk tpos) (.Call (.Name "zip" p) [e, e2] [] pos) (iZipX X.K ta) := by
  refine ⟨fun pins s σ H R I h => ?_⟩
  refine Call_ (ld_blt I hg hm PyProof.Rows.boot_zip (PyProof.Rows.callWith_type1 (thn (ha.run pos pins s σ H _ I h) fun us s1 ⟨vs, H1, I1, r1, q1⟩ => ?_) hs hpl))
  obtain ⟨t1, t2, a, b, xs, ys, ex, ht, qx, qy, q⟩ := q1
  subst ex
  cases r1 with
  | cons r rr =>
    cases rr with
    | cons r' rr =>
      cases rr
      cases r
      cases r'
      obtain ⟨its, rv, p1, la⟩ := SqX.row I1 qx
      obtain ⟨its2, rv2, p2, lb⟩ := SqX.row I1 qy
      refine call_zipX ht p1 p2 fun h' Z hk => wpAny_pyIter_zip Z.zip ?_
      have I2 : Inv X pins σ H1 { s1 with heap := h' } := I1.kept (t' := s1.toks) hk
      refine ⟨s1.heap.objs.size + 4, [s1.heap.objs.size + 4, s1.heap.objs.size + 2, s1.heap.objs.size + 3, s1.heap.objs.size, s1.heap.objs.size + 1], _, _, H1, rfl, I2, turn_zipX (PySem.W.ktu_apart s1.heap.objs.size a b la lb), ⟨_, _, Z⟩, fun c hcm => ?_, q⟩
      have hle : s1.heap.objs.size ≤ c := by
        have e' : c = s1.heap.objs.size + 4 ∨ c = s1.heap.objs.size + 2 ∨ c = s1.heap.objs.size + 3 ∨ c = s1.heap.objs.size ∨ c = s1.heap.objs.size + 1 := by simpa using hcm
        rcases e' with q | q | q | q | q <;> rw [q] <;> omega
      exact I1.fpOk hle (I1.hok.fresh hle)
end Rg
/-! Sn1: what data stands for, the state that a data state stands for, the judgements. -/
namespace Rg
open PySem PySem.Spec L2
open PyProof.Rows hiding St
/-- the exceptions in the air have the context None -/
abbrev Takes := @L2N.Takes
theorem passAt {X : Cx} {W : WX} (tk : Takes X W) (σ : L2.St) : PassesAt (L2N.CX X.prog X.w) X σ (WE W σ) := L2N.passAt tk σ

def tx (l : Tx) : Str := ⟨l.toArray⟩
/-- real signs -/
def okT (l : Tx) : Bool := l.all fun c => decide (c < 1114112)
theorem okT_app {a b : Tx} (h1 : okT a = true) (h2 : okT b = true) : okT (a ++ b) = true := by
  unfold okT at *
  rw [List.all_append, h1, h2]
  rfl
theorem okT_sub {a b : Tx} (h1 : okT a = true) (h : ∀ c ∈ b, c ∈ a) : okT b = true := by
  unfold okT at *
  rw [List.all_eq_true] at *
  exact fun c hc => h1 c (h c hc)
theorem tx_len (l : Tx) : (tx l).length = l.length := by simp [tx, Str.length]
theorem tx_inj {a b : Tx} (h : tx a = tx b) : a = b := by
  have := congrArg (fun s => s.cps.toList) h
  simpa [tx] using this
theorem tx_app (a b : Tx) : tx a ++ tx b = tx (a ++ b) := by
  show Str.append _ _ = _
  simp [tx, Str.append]
def kx : Ky → Key
  | .inl i => .inl i
  | .inr x => .inr (tx x)

/-- a world: what is laid for good (read only), and where the cells stand -/
structure Wd where
  F : Hp
  io : List Addr
def Wd.le (w w' : Wd) : Prop := Same w.F w'.F ∧ ∃ t, w'.io = w.io ++ t
theorem Wd.le.refl (w : Wd) : w.le w := ⟨Same.refl _, [], by simp⟩
theorem Wd.le.trans {a b c : Wd} (h1 : a.le b) (h2 : b.le c) : a.le c := by
  obtain ⟨s1, t1, e1⟩ := h1
  obtain ⟨s2, t2, e2⟩ := h2
  exact ⟨s1.trans s2, t1 ++ t2, by rw [e2, e1, List.append_assoc]⟩
theorem Wd.le.io {a b : Wd} (h : a.le b) {n : Nat} {x : Addr} (e : a.io[n]? = some x) : b.io[n]? = some x := by
  obtain ⟨_, t, e1⟩ := h
  rw [e1, List.getElem?_append_left (List.getElem?_eq_some_iff.mp e).1]
  exact e

mutual
inductive Rep (K : PySem.W.Frag) (w : Wd) : V → D → Prop
  | non : Rep K w .non .non
  | bl (b : Bool) : Rep K w (.bl b) (.bl b)
  | int (i : Int) : Rep K w (.int i) (.int i)
  | str {x : Tx} : okT x = true → Rep K w (.str (tx x)) (.str x)
  | tup {a : Addr} {vs : List V} {ds : List D} : w.F a = some (.tup vs) → Reps K w vs ds → Rep K w (.ref a) (.tup ds)
  | lst {a : Addr} {vs : List V} {ds : List D} : w.F a = some (.lst vs) → Reps K w vs ds → Rep K w (.ref a) (.lst ds)
  | scr {a : Addr} {ns : List Int} : SqL K w.F a (ns.map V.int) → Rep K w (.ref a) (.scr ns)
  | ref {a : Addr} {n : Nat} : w.io[n]? = some a → Rep K w (.ref a) (.ref n)
  | exn {a : Addr} {c : String} : Rep K w (.ref a) (.exn c [.int (a : Nat)])
  | exf {a dx : Addr} {c fn : String} {v : V} {d : D} : w.F dx = some (.xd [(Str.ofString fn, v)]) → Rep K w v d → D.pure d = true → D.nolst d = true → Rep K w (.ref a) (.exn c [.int (a : Nat), .exn fn [.int (dx : Nat), d]])
inductive Reps (K : PySem.W.Frag) (w : Wd) : List V → List D → Prop
  | nil : Reps K w [] []
  | cons {v : V} {vs : List V} {d : D} {ds : List D} : Rep K w v d → Reps K w vs ds → Reps K w (v :: vs) (d :: ds)
end
theorem SqT.mono {K : PySem.W.Frag} {H H' : Hp} {a : Addr} {xs : List V} (e : Same H H') (h : SqT K H a xs) : SqT K H' a xs := by
  rcases h with (h | ⟨o, h⟩) | h
  · exact .inl (.inl (e _ _ h))
  · exact .inl (.inr ⟨o, e _ _ h⟩)
  · exact .inr h
mutual
theorem Rep.mono {K : PySem.W.Frag} {w w' : Wd} (l : w.le w') : ∀ {v : V} {d : D}, Rep K w v d → Rep K w' v d
  | _, _, .non => .non
  | _, _, .bl b => .bl b
  | _, _, .int i => .int i
  | _, _, .str h => .str h
  | _, _, .tup h r => .tup (l.1 _ _ h) (Reps.mono l r)
  | _, _, .lst h r => .lst (l.1 _ _ h) (Reps.mono l r)
  | _, _, .scr h => .scr (l.1.seq h)
  | _, _, .ref e => .ref (l.io e)
  | _, _, .exn => .exn
  | _, _, .exf h r p q => .exf (l.1 _ _ h) (Rep.mono l r) p q
theorem Reps.mono {K : PySem.W.Frag} {w w' : Wd} (l : w.le w') : ∀ {vs : List V} {ds : List D}, Reps K w vs ds → Reps K w' vs ds
  | _, _, .nil => .nil
  | _, _, .cons h r => .cons (Rep.mono l h) (Reps.mono l r)
end
theorem Reps.length {K : PySem.W.Frag} {w : Wd} : ∀ {vs : List V} {ds : List D}, Reps K w vs ds → vs.length = ds.length
  | _, _, .nil => rfl
  | _, _, .cons _ r => by simp [Reps.length r]
theorem Reps.get {K : PySem.W.Frag} {w : Wd} : ∀ {vs : List V} {ds : List D} {i : Nat} {d : D}, Reps K w vs ds → ds[i]? = some d → ∃ v, vs[i]? = some v ∧ Rep K w v d
  | _, _, _, _, .nil, e => by simp at e
  | _, _, 0, _, .cons h r, e => by simp at e; subst e; exact ⟨_, rfl, h⟩
  | _, _, i + 1, _, .cons h r, e => by
    obtain ⟨v, e1, h1⟩ := Reps.get (i := i) r (by simpa using e)
    exact ⟨v, by simpa using e1, h1⟩
theorem Reps.append {K : PySem.W.Frag} {w : Wd} : ∀ {vs us : List V} {ds es : List D}, Reps K w vs ds → Reps K w us es → Reps K w (vs ++ us) (ds ++ es)
  | _, _, _, _, .nil, r => r
  | _, _, _, _, .cons h t, r => .cons h (Reps.append t r)
theorem Reps.set {K : PySem.W.Frag} {w : Wd} {v : V} {d : D} (h : Rep K w v d) : ∀ {vs : List V} {ds : List D} (i : Nat), Reps K w vs ds → Reps K w (vs.set i v) (ds.set i d)
  | _, _, _, .nil => .nil
  | _, _, 0, .cons _ t => .cons h t
  | _, _, i + 1, .cons q t => .cons q (Reps.set h i t)
theorem Reps.take {K : PySem.W.Frag} {w : Wd} : ∀ {vs : List V} {ds : List D} (n : Nat), Reps K w vs ds → Reps K w (vs.take n) (ds.take n)
  | _, _, 0, _ => .nil
  | _, _, _ + 1, .nil => .nil
  | _, _, n + 1, .cons h t => .cons h (Reps.take n t)
theorem Reps.drop {K : PySem.W.Frag} {w : Wd} : ∀ {vs : List V} {ds : List D} (n : Nat), Reps K w vs ds → Reps K w (vs.drop n) (ds.drop n)
  | _, _, 0, h => h
  | _, _, _ + 1, .nil => .nil
  | _, _, n + 1, .cons _ t => Reps.drop n t
theorem Reps.eraseIdx {K : PySem.W.Frag} {w : Wd} : ∀ {vs : List V} {ds : List D} (n : Nat), Reps K w vs ds → Reps K w (vs.eraseIdx n) (ds.eraseIdx n)
  | _, _, _, .nil => .nil
  | _, _, 0, .cons _ t => t
  | _, _, n + 1, .cons h t => .cons h (Reps.eraseIdx n t)
theorem Reps.dropLast {K : PySem.W.Frag} {w : Wd} {vs : List V} {ds : List D} (h : Reps K w vs ds) : Reps K w vs.dropLast ds.dropLast := by
  rw [List.dropLast_eq_take, List.dropLast_eq_take, h.length]
  exact h.take _
theorem Reps.reverse {K : PySem.W.Frag} {w : Wd} : ∀ {vs : List V} {ds : List D}, Reps K w vs ds → Reps K w vs.reverse ds.reverse
  | _, _, .nil => .nil
  | _, _, .cons h t => by
    rw [List.reverse_cons, List.reverse_cons]
    exact (Reps.reverse t).append (.cons h .nil)
theorem Reps.ints {K : PySem.W.Frag} {w : Wd} : ∀ (ns : List Int), Reps K w (ns.map V.int) (ns.map D.int)
  | [] => .nil
  | n :: ns => .cons (.int n) (Reps.ints ns)
theorem Reps.ints_of {K : PySem.W.Frag} {w : Wd} : ∀ {vs : List V} {ns : List Int}, Reps K w vs (ns.map D.int) → vs = ns.map V.int
  | [], [], _ => rfl
  | v :: vs, n :: ns, h => by
    cases h with
    | cons h t =>
      cases h
      rw [Reps.ints_of t]
      rfl
  | [], n :: ns, h => by cases h
  | v :: vs, [], h => by cases h

/-- pairs of a dict -/
def RepK (K : PySem.W.Frag) (w : Wd) (f : Ky → Key) (kvs : List (Key × V)) (ds : List (Ky × D)) : Prop := Paired (fun p q => p.1 = f q.1 ∧ Rep K w p.2 q.2) kvs ds
def RepT (K : PySem.W.Frag) (w : Wd) (kvs : List (List Key × V)) (ds : List (List Ky × D)) : Prop := Paired (fun p q => p.1 = q.1.map kx ∧ Rep K w p.2 q.2) kvs ds
def RepF (K : PySem.W.Frag) (w : Wd) (fs : List (Str × V)) (ds : List (String × D)) : Prop := Paired (fun p q => p.1 = Str.ofString q.1 ∧ Rep K w p.2 q.2) fs ds
theorem Paired.imp {α β : Type} {R S : α → β → Prop} (h : ∀ a b, R a b → S a b) : ∀ {xs : List α} {ys : List β}, Paired R xs ys → Paired S xs ys
  | _, _, .nil => .nil
  | _, _, .cons r t => .cons (h _ _ r) (Paired.imp h t)
/-- what stands at a cell -/
inductive CellR (K : PySem.W.Frag) (mg : Str → Option Value) (w : Wd) : Option HO → Cell → Prop
  | lst {vs : List V} {ds : List D} : Reps K w vs ds → CellR K mg w (some (.lst vs)) (.lst ds)
  | dK {kvs : List (Key × V)} {ds : List (Ky × D)} : RepK K w kx kvs ds → CellR K mg w (some (.dK kvs)) (.dK ds)
  | dT {kvs : List (List Key × V)} {ds : List (List Ky × D)} : RepT K w kvs ds → CellR K mg w (some (.dT kvs)) (.dT ds)
  | ins {C dx : Addr} {c : String} {fs : List (Str × V)} {ds : List (String × D)} : mg (Str.ofString c) = some (.ref C) → RepF K w fs ds → CellR K mg w (some (.ins C dx fs)) (.ins c ds)
theorem CellR.mono {K : PySem.W.Frag} {mg : Str → Option Value} {w w' : Wd} {o : Option HO} {c : Cell} (l : w.le w') (h : CellR K mg w o c) : CellR K mg w' o c := by
  cases h with
  | lst r => exact .lst (r.mono l)
  | dK r => exact .dK (Paired.imp (fun _ _ z => ⟨z.1, z.2.mono l⟩) r)
  | dT r => exact .dT (Paired.imp (fun _ _ z => ⟨z.1, z.2.mono l⟩) r)
  | ins e r => exact .ins e (Paired.imp (fun _ _ z => ⟨z.1, z.2.mono l⟩) r)

/-- the entry of a def: its world, its heap -/
structure Bs where
  w : Wd
  H : Hp
/-- what may come to be known late: a tuple, an exception's dict -/
def KnO (o : HO) : Prop := (∃ vs, o = .tup vs) ∨ ∃ fs, o = .xd fs
/-- the heap H bears the world w and the cells L, from the entry B on -/
structure StR (K : PySem.W.Frag) (mg : Str → Option Value) (B : Bs) (w : Wd) (H : Hp) (L : Hh) : Prop where
  sub : Same w.F H
  len : w.io.length = L.length
  nd : w.io.Nodup
  out : ∀ (n : Nat) (a : Addr), w.io[n]? = some a → w.F a = none
  cell : ∀ (n : Nat) (a : Addr) (c : Cell), w.io[n]? = some a → L[n]? = some c → CellR K mg w (H a) c
  ge : B.w.le w
  keep : ∀ (b : Addr) (o : HO), B.H b = some o → b ∉ B.w.io → H b = some o
  newF : ∀ (b : Addr), w.F b ≠ none → B.w.F b ≠ none ∨ B.H b = none ∨ ∃ o, B.H b = some o ∧ KnO o
  newI : ∀ (n : Nat) (a : Addr), w.io[n]? = some a → n < B.w.io.length ∨ B.H a = none
def EnvR (K : PySem.W.Frag) (w : Wd) (env : Env) (σ : St) : Prop := env.length = σ.length ∧ ∀ (i : Nat) (d : D), env[i]? = some (some d) → ∃ v, σ[i]? = some (some v) ∧ Rep K w v d
theorem EnvR.mono {K : PySem.W.Frag} {w w' : Wd} {env : Env} {σ : St} (l : w.le w') (h : EnvR K w env σ) : EnvR K w' env σ :=
  ⟨h.1, fun i d e => let ⟨v, e1, r⟩ := h.2 i d e; ⟨v, e1, r.mono l⟩⟩
theorem EnvR.set {K : PySem.W.Frag} {w : Wd} {env : Env} {σ : St} {v : V} {d : D} (h : EnvR K w env σ) (i : Nat) (r : Rep K w v d) : EnvR K w (env.set i (some d)) (σ.set i (some v)) := by
  refine ⟨by rw [List.length_set, List.length_set]; exact h.1, fun j e he => ?_⟩
  by_cases hj : i = j
  · subst hj
    by_cases hl : i < env.length
    · rw [List.getElem?_set_self hl] at he
      cases he
      exact ⟨v, by rw [List.getElem?_set_self (by rw [← h.1]; exact hl)], r⟩
    · rw [List.getElem?_eq_none (by rw [List.length_set]; omega)] at he
      cases he
  · rw [List.getElem?_set_ne hj] at he
    rw [List.getElem?_set_ne hj]
    exact h.2 j e he

/-- an exception as it lies -/
def ExR (K : PySem.W.Frag) (mg : Str → Option Value) (w : Wd) (H : Hp) (cls : Value) (dd : Option Addr) (e : Ex) : Prop :=
  ∃ C, mg (Str.ofString e.c) = some (.ref C) ∧ cls = .ref C ∧ ((e.fs = [] ∧ dd = none) ∨ ∃ p fs, e.fs ≠ [] ∧ dd = some p ∧ H p = some (.xd fs) ∧ RepF K w fs e.fs)

section
variable (K : PySem.W.Frag) (mg : Str → Option Value)
def PostE (B : Bs) (w : Wd) (σ : St) (W : WX) (r : Ro D) (Q : VK) : Prop := match r with
  | none => False
  | some (.ok d, L') => ∀ w' v H', w.le w' → StR K mg B w' H' L' → Rep K w' v d → Q v H'
  | some (.ex e, L') => ∀ w' H' cls dd, w.le w' → StR K mg B w' H' L' → ExR K mg w' H' cls dd e → W cls dd σ H'
def PostA (B : Bs) (w : Wd) (σ : St) (W : WX) (r : Ro (List D)) (Q : List V → Hp → Prop) : Prop := match r with
  | none => False
  | some (.ok ds, L') => ∀ w' vs H', w.le w' → StR K mg B w' H' L' → Reps K w' vs ds → Q vs H'
  | some (.ex e, L') => ∀ w' H' cls dd, w.le w' → StR K mg B w' H' L' → ExR K mg w' H' cls dd e → W cls dd σ H'
def PostT (B : Bs) (w : Wd) (σ : St) (W : WX) (r : Ro Bool) (Q : Bool → Hp → Prop) : Prop := match r with
  | none => False
  | some (.ok b, L') => ∀ w' H', w.le w' → StR K mg B w' H' L' → Q b H'
  | some (.ex e, L') => ∀ w' H' cls dd, w.le w' → StR K mg B w' H' L' → ExR K mg w' H' cls dd e → W cls dd σ H'
def PostS (B : Bs) (w : Wd) (W : WX) (r : So) (E : Ends) : Prop := match r with
  | none => False
  | some (.nx, env', L') => ∀ w' σ' H', w.le w' → StR K mg B w' H' L' → EnvR K w' env' σ' → E.nx σ' H'
  | some (.bk, env', L') => ∀ w' σ' H', w.le w' → StR K mg B w' H' L' → EnvR K w' env' σ' → E.bk σ' H'
  | some (.ct, env', L') => ∀ w' σ' H', w.le w' → StR K mg B w' H' L' → EnvR K w' env' σ' → E.ct σ' H'
  | some (.rt d, env', L') => ∀ w' v H', w.le w' → StR K mg B w' H' L' → Rep K w' v d → E.rt v H'
  | some (.ex e, env', L') => ∀ w' σ' H' cls dd, w.le w' → StR K mg B w' H' L' → EnvR K w' env' σ' → ExR K mg w' H' cls dd e → W cls dd σ' H'
/-- the reading of an expression that does what f does -/
def tE (W : WX) (f : M D) : TE := fun σ H Q => ∃ B w env L, StR K mg B w H L ∧ EnvR K w env σ ∧ PostE K mg B w σ W (f env L) Q
def tA (W : WX) (f : M (List D)) : TA := fun σ H Q => ∃ B w env L, StR K mg B w H L ∧ EnvR K w env σ ∧ PostA K mg B w σ W (f env L) Q
def tB1 (W : WX) (f : M Bool) : TT := fun σ H Q => ∃ B w env L, StR K mg B w H L ∧ EnvR K w env σ ∧ PostT K mg B w σ W (f env L) Q
def tS1 (W : WX) (g : Sm) : TS := fun E σ H => ∃ B w env L, StR K mg B w H L ∧ EnvR K w env σ ∧ PostS K mg B w W (g env L) E
end
/-- the syntax does what the data function does -/
def PDE (X : Cx) (e : Expr) (f : M D) : Prop := ∀ W, Takes X W → PE X e (tE X.K X.mg W f)
def PDA (X : Cx) (es : List Expr) (f : M (List D)) : Prop := ∀ W, Takes X W → PA X es (tA X.K X.mg W f)
def PDT (X : Cx) (e : Expr) (f : M Bool) : Prop := ∀ W, Takes X W → PT X e (tB1 X.K X.mg W f)
def PDW (X : Cx) (e : Expr) (f : M Bool) : Prop := ∀ W, Takes X W → PW X e (tB1 X.K X.mg W f)
def PDS (X : Cx) (s : Stmt) (g : Sm) : Prop := ∀ W, Takes X W → PS X s (tS1 X.K X.mg W g)
def PDSs (X : Cx) (s : List Stmt) (g : Sm) : Prop := ∀ W, Takes X W → PSs X s (tS1 X.K X.mg W g)

/-! ### the judgements' readings are monotone -/
section
variable {X : Cx}
theorem _root_.L2.PE.imp {e : Expr} {t t' : TE} (h : PE X e t) (hi : ∀ σ H Q, t' σ H Q → t σ H Q) : PE X e t' := ⟨fun pins s σ H Q I q => h.run pins s σ H Q I (hi σ H Q q)⟩
theorem _root_.L2.PA.imp {e : List Expr} {t t' : TA} (h : PA X e t) (hi : ∀ σ H Q, t' σ H Q → t σ H Q) : PA X e t' := ⟨fun pos pins s σ H Q I q => h.run pos pins s σ H Q I (hi σ H Q q)⟩
theorem _root_.L2.PT.imp {e : Expr} {t t' : TT} (h : PT X e t) (hi : ∀ σ H Q, t' σ H Q → t σ H Q) : PT X e t' := ⟨fun pins s σ H Q I q => h.run pins s σ H Q I (hi σ H Q q)⟩
theorem _root_.L2.PW.imp {e : Expr} {t t' : TT} (h : PW X e t) (hi : ∀ σ H Q, t' σ H Q → t σ H Q) : PW X e t' := ⟨fun wh pins s σ H Q I q => h.run wh pins s σ H Q I (hi σ H Q q)⟩
theorem _root_.L2.PS.imp {e : Stmt} {t t' : TS} (h : PS X e t) (hi : ∀ D σ H, t' D σ H → t D σ H) : PS X e t' := ⟨fun pins s σ H D I q => h.run pins s σ H D I (hi D σ H q)⟩
theorem _root_.L2.PSs.imp {e : List Stmt} {t t' : TS} (h : PSs X e t) (hi : ∀ D σ H, t' D σ H → t D σ H) : PSs X e t' := ⟨fun pins s σ H D I q => h.run pins s σ H D I (hi D σ H q)⟩
end
/-! ### posts -/
section
variable {K : PySem.W.Frag} {mg : Str → Option Value} {B : Bs} {w w1 : Wd} {σ : St} {W : WX}
theorem PostE.le {r : Ro D} {Q : VK} (l : w.le w1) (h : PostE K mg B w σ W r Q) : PostE K mg B w1 σ W r Q := by
  match r, h with
  | some (.ok d, L'), h => exact fun w' v H' l' => h w' v H' (l.trans l')
  | some (.ex e, L'), h => exact fun w' H' cls dd l' => h w' H' cls dd (l.trans l')
theorem PostA.le {r : Ro (List D)} {Q : List V → Hp → Prop} (l : w.le w1) (h : PostA K mg B w σ W r Q) : PostA K mg B w1 σ W r Q := by
  match r, h with
  | some (.ok d, L'), h => exact fun w' v H' l' => h w' v H' (l.trans l')
  | some (.ex e, L'), h => exact fun w' H' cls dd l' => h w' H' cls dd (l.trans l')
theorem PostT.le {r : Ro Bool} {Q : Bool → Hp → Prop} (l : w.le w1) (h : PostT K mg B w σ W r Q) : PostT K mg B w1 σ W r Q := by
  match r, h with
  | some (.ok d, L'), h => exact fun w' H' l' => h w' H' (l.trans l')
  | some (.ex e, L'), h => exact fun w' H' cls dd l' => h w' H' cls dd (l.trans l')
theorem PostS.le {r : So} {E : Ends} (l : w.le w1) (h : PostS K mg B w W r E) : PostS K mg B w1 W r E := by
  match r, h with
  | some (.nx, env', L'), h => exact fun w' v H' l' => h w' v H' (l.trans l')
  | some (.bk, env', L'), h => exact fun w' v H' l' => h w' v H' (l.trans l')
  | some (.ct, env', L'), h => exact fun w' v H' l' => h w' v H' (l.trans l')
  | some (.rt d, env', L'), h => exact fun w' v H' l' => h w' v H' (l.trans l')
  | some (.ex e, env', L'), h => exact fun w' v H' cls dd l' => h w' v H' cls dd (l.trans l')
/-- an expression, then more -/
theorem tE_bnd {f : M D} {k : D → Hh → Ro D} {env : Env} {L : Hh} {H : Hp} {Q : VK} {Q1 : VK} (S : StR K mg B w H L) (R : EnvR K w env σ) (h : PostE K mg B w σ W (bnd (f env L) k) Q)
    (hk : ∀ w' v H' d L', w.le w' → StR K mg B w' H' L' → Rep K w' v d → PostE K mg B w' σ W (k d L') Q → Q1 v H') : tE K mg W f σ H Q1 := by
  refine ⟨B, w, env, L, S, R, ?_⟩
  revert h
  cases f env L with
  | none => exact fun h => h
  | some p =>
    obtain ⟨r, L'⟩ := p
    cases r with
    | ok d => exact fun h w' v H' l S' r' => hk w' v H' d L' l S' r' (h.le l)
    | ex e => exact fun h => h
end
end Rg
namespace Rg
open PySem PySem.Spec L2
open PyProof.Rows hiding St
/-! ### the state changes -/
section
variable {K : PySem.W.Frag} {mg : Str → Option Value} {B : Bs} {w : Wd} {H : Hp} {L : Hh}
theorem StR.some_of (S : StR K mg B w H L) {n : Nat} {a : Addr} (e : w.io[n]? = some a) : ∃ o, H a = some o := by
  have hn : n < L.length := by rw [← S.len]; exact (List.getElem?_eq_some_iff.mp e).1
  have := S.cell n a L[n] e (List.getElem?_eq_getElem hn)
  cases h : H a with
  | none => rw [h] at this; cases this
  | some o => exact ⟨o, rfl⟩
theorem StR.bnone (S : StR K mg B w H L) {p : Addr} (h : H p = none) : B.H p = none := by
  cases q : B.H p with
  | none => rfl
  | some o =>
    exfalso
    by_cases hb : p ∈ B.w.io
    · obtain ⟨n, hn⟩ := List.getElem?_of_mem hb
      obtain ⟨o', e⟩ := S.some_of (S.ge.io hn)
      rw [e] at h
      cases h
    · rw [S.keep p o q hb] at h
      cases h
theorem StR.nin (S : StR K mg B w H L) {p : Addr} (h : H p = none) : p ∉ w.io := fun hm => by
  obtain ⟨n, hn⟩ := List.getElem?_of_mem hm
  obtain ⟨o', e⟩ := S.some_of hn
  rw [e] at h
  cases h
theorem StR.ninF (S : StR K mg B w H L) {p : Addr} (h : H p = none) : w.F p = none := S.sub.free h
/-- a new cell -/
theorem StR.alloc (S : StR K mg B w H L) {p : Addr} (hp : H p = none) {o : HO} {c : Cell} (hc : CellR K mg w (some o) c) :
    w.le ⟨w.F, w.io ++ [p]⟩ ∧ StR K mg B ⟨w.F, w.io ++ [p]⟩ (upd H p o) (L ++ [c]) := by
  have l : w.le ⟨w.F, w.io ++ [p]⟩ := ⟨Same.refl _, [p], rfl⟩
  have ne : ∀ {n : Nat} {a : Addr}, w.io[n]? = some a → a ≠ p := fun {n a} e z => S.nin hp (z ▸ List.mem_of_getElem? e)
  have at' : ∀ {n : Nat} {a : Addr}, (w.io ++ [p])[n]? = some a → w.io[n]? = some a ∨ (n = w.io.length ∧ a = p) := fun {n a} e => by
    by_cases hn : n < w.io.length
    · rw [List.getElem?_append_left hn] at e
      exact .inl e
    · rw [List.getElem?_append_right (by omega)] at e
      by_cases h0 : n - w.io.length = 0
      · rw [h0] at e
        simp at e
        exact .inr ⟨by omega, e.symm⟩
      · rw [List.getElem?_eq_none (by simp; omega)] at e
        cases e
  refine ⟨l, ⟨fun b o' e => ?_, by simp [S.len], ?_, fun n a e => ?_, fun n a c' e e' => ?_, S.ge.trans l, fun b o' e hb => ?_, S.newF, fun n a e => ?_⟩⟩
  · have hb : b ≠ p := fun z => by
      have e' : w.F b = some o' := e
      rw [z, S.ninF hp] at e'
      cases e'
    rw [upd_ne hb]
    exact S.sub b o' e
  · rw [List.nodup_append]
    refine ⟨S.nd, by simp, fun x hx y hy => ?_⟩
    rw [List.mem_singleton.mp hy]
    exact fun z => S.nin hp (z ▸ hx)
  · rcases at' e with e | ⟨_, rfl⟩
    · exact S.out n a e
    · exact S.ninF hp
  · rcases at' e with e | ⟨h1, rfl⟩
    · have hn : n < L.length := by rw [← S.len]; exact (List.getElem?_eq_some_iff.mp e).1
      rw [List.getElem?_append_left hn] at e'
      rw [upd_ne (ne e)]
      exact (S.cell n a c' e e').mono l
    · have h2 : n = L.length := by rw [← S.len]; exact h1
      subst h2
      rw [List.getElem?_append_right (Nat.le_refl _)] at e'
      simp at e'
      subst e'
      rw [upd_same]
      exact hc.mono l
  · have hb' : b ≠ p := fun z => by
      rw [z, S.bnone hp] at e
      cases e
    rw [upd_ne hb']
    exact S.keep b o' e hb
  · rcases at' e with e | ⟨h1, rfl⟩
    · exact S.newI n a e
    · exact .inr (S.bnone hp)
/-- a new thing that stands for good -/
theorem StR.laid (S : StR K mg B w H L) {p : Addr} (hp : H p = none) (o : HO) : w.le ⟨upd w.F p o, w.io⟩ ∧ StR K mg B ⟨upd w.F p o, w.io⟩ (upd H p o) L := by
  have fp : w.F p = none := S.ninF hp
  have l : w.le ⟨upd w.F p o, w.io⟩ := ⟨fun b u e => by
    show upd w.F p o b = some u
    rw [upd_ne (ne_of_none e fp)]
    exact e, [], by simp⟩
  have ne : ∀ {n : Nat} {a : Addr}, w.io[n]? = some a → a ≠ p := fun {n a} e z => S.nin hp (z ▸ List.mem_of_getElem? e)
  refine ⟨l, ⟨fun b o' e => ?_, S.len, S.nd, fun n a e => ?_, fun n a c' e e' => ?_, S.ge.trans l, fun b o' e hb => ?_, fun b hb => ?_, S.newI⟩⟩
  · by_cases hb : b = p
    · subst hb
      have e' : upd w.F b o b = some o' := e
      rw [upd_same] at e' ⊢
      exact e'
    · have e' : upd w.F p o b = some o' := e
      rw [upd_ne hb] at e' ⊢
      exact S.sub b o' e'
  · show upd w.F p o a = none
    rw [upd_ne (ne e)]
    exact S.out n a e
  · rw [upd_ne (ne e)]
    exact (S.cell n a c' e e').mono l
  · have hb' : b ≠ p := fun z => by
      rw [z, S.bnone hp] at e
      cases e
    rw [upd_ne hb']
    exact S.keep b o' e hb
  · by_cases hbp : b = p
    · subst hbp
      exact .inr (.inl (S.bnone hp))
    · have hb' : upd w.F p o b ≠ none := hb
      rw [upd_ne hbp] at hb'
      exact S.newF b hb'
/-- a cell changed -/
theorem StR.store (S : StR K mg B w H L) {n : Nat} {a : Addr} (ha : w.io[n]? = some a) {o : HO} {c : Cell} (hc : CellR K mg w (some o) c) : StR K mg B w (upd H a o) (L.set n c) := by
  have hn : n < L.length := by rw [← S.len]; exact (List.getElem?_eq_some_iff.mp ha).1
  refine ⟨fun b o' e => ?_, by rw [List.length_set]; exact S.len, S.nd, S.out, fun m b c' e e' => ?_, S.ge, fun b o' e hb => ?_, S.newF, S.newI⟩
  · have hb : b ≠ a := fun z => by
      rw [z, S.out n a ha] at e
      cases e
    rw [upd_ne hb]
    exact S.sub b o' e
  · by_cases hm : m = n
    · subst hm
      rw [ha] at e
      cases e
      rw [List.getElem?_set_self hn] at e'
      cases e'
      rw [upd_same]
      exact hc
    · rw [List.getElem?_set_ne (Ne.symm hm)] at e'
      have hb : b ≠ a := fun z => by
        subst z
        have h1 := List.getElem?_eq_some_iff.mp e
        have h2 := List.getElem?_eq_some_iff.mp ha
        obtain ⟨l1, e1⟩ := h1
        obtain ⟨l2, e2⟩ := h2
        exact hm ((List.getElem_inj S.nd).mp (e1.trans e2.symm))
      rw [upd_ne hb]
      exact S.cell m b c' e e'
  · have hb' : b ≠ a := fun z => by
      subst z
      rcases S.newI n b ha with h | h
      · obtain ⟨x, hx⟩ : ∃ x, B.w.io[n]? = some x := ⟨_, List.getElem?_eq_getElem h⟩
        have := S.ge.io hx
        rw [ha] at this
        cases this
        exact hb (List.mem_of_getElem? hx)
      · rw [h] at e
        cases e
    rw [upd_ne hb']
    exact S.keep b o' e hb
/-- a list that is read -/
theorem StR.look (S : StR K mg B w H L) {v : V} {d : D} {ds : List D} (r : Rep K w v d) (e : look L d = some ds) : ∃ a vs, v = .ref a ∧ H a = some (.lst vs) ∧ Reps K w vs ds := by
  cases r with
  | lst hs rs =>
    simp only [Rg.look, Option.some.injEq] at e
    subst e
    exact ⟨_, _, rfl, S.sub _ _ hs, rs⟩
  | @ref a n ha =>
    simp only [Rg.look] at e
    split at e
    · rename_i xs hx
      cases e
      have := S.cell n a _ ha hx
      cases h : H a with
      | none => rw [h] at this; cases this
      | some o =>
        rw [h] at this
        cases this with
        | lst rs => exact ⟨a, _, rfl, h, rs⟩
    · cases e
  | _ => cases e
theorem StR.seqOf (S : StR K mg B w H L) {v : V} {d : D} {ds : List D} (r : Rep K w v d) (e : seqOf L d = some ds) : ∃ a vs, v = .ref a ∧ (H a = some (.lst vs) ∨ H a = some (.tup vs)) ∧ Reps K w vs ds := by
  cases r with
  | tup hs rs =>
    simp only [Rg.seqOf, Option.some.injEq] at e
    subst e
    exact ⟨_, _, rfl, .inr (S.sub _ _ hs), rs⟩
  | lst hs rs =>
    obtain ⟨a, vs, h1, h2, h3⟩ := S.look (.lst hs rs) e
    exact ⟨a, vs, h1, .inl h2, h3⟩
  | ref h =>
    obtain ⟨a, vs, h1, h2, h3⟩ := S.look (.ref h) e
    exact ⟨a, vs, h1, .inl h2, h3⟩
  | _ => cases e
/-- a cell's list, to be written -/
theorem StR.lcell (S : StR K mg B w H L) {v : V} {n : Nat} {ds : List D} (r : Rep K w v (.ref n)) (e : L[n]? = some (.lst ds)) : ∃ a vs, v = .ref a ∧ w.io[n]? = some a ∧ H a = some (.lst vs) ∧ Reps K w vs ds := by
  cases r with
  | @ref a n ha =>
    have := S.cell n a _ ha e
    cases h : H a with
    | none => rw [h] at this; cases this
    | some o =>
      rw [h] at this
      cases this with
      | lst rs => exact ⟨a, _, rfl, ha, h, rs⟩
end
/-! ### names, constants -/
section
variable {X : Cx}
theorem pde_var (i : Nat) {x : Str} {pos : Pos} (hN : X.N[i]? = some x := by rfl) (hv : Vis X.env.scope x := by first | exact Or.inl rfl | exact Or.inr (Or.inl rfl) | exact Or.inr (Or.inr rfl)) (hd : (x == ("__debug__" : Str)) = false := by decide)
    (hcd : (x == ("__classdict__" : Str)) = false := by decide) : PDE X (.Name x pos) (eVar i) := fun W _ => (pe_var hN hv hd hcd).imp fun σ H Q ⟨B, w, env, L, S, R, h⟩ => by
  simp only [eVar] at h
  split at h
  · rename_i d e
    obtain ⟨v, e1, r⟩ := R.2 i d e
    exact ⟨v, e1, h w v H (Wd.le.refl _) S r⟩
  · exact h.elim
theorem pde_c {e : Expr} {v : V} {d : D} (h : PE X e (tC v)) (r : ∀ (K : PySem.W.Frag) (w : Wd), Rep K w v d) : PDE X e (eC d) := fun W _ => h.imp fun σ H Q ⟨B, w, env, L, S, R, h⟩ => h w v H (Wd.le.refl _) S (r _ _)
theorem pde_int {i : Int} {j pos} : PDE X (.Constant (.int i) j pos) (eC (.int i)) := pde_c pe_int fun _ _ => .int i
theorem pde_bl {b : Bool} {j pos} : PDE X (.Constant (.bool b) j pos) (eC (.bl b)) := pde_c pe_bl fun _ _ => .bl b
theorem pde_non {j pos} : PDE X (.Constant .none j pos) (eC .non) := pde_c pe_non fun _ _ => .non
theorem pde_str {x : Str} (l : Tx) {j pos} (e : x = tx l := by decide +kernel) (h : okT l = true := by decide +kernel) : PDE X (.Constant (.str x) j pos) (eC (.str l)) := by
  subst e
  exact pde_c pe_str fun _ _ => .str h
/-- a module's constant -/
theorem pde_gint {x : Str} {i : Int} {t : Tok} {pos : Pos} (hm : X.mg x = some (.int i t)) (hg : Gl X x := by rfl) (hd : (x == ("__debug__" : Str)) = false := by decide) : PDE X (.Name x pos) (eC (.int i)) :=
  pde_c (v := .int i) (pe_glob hg hm ⟨t, rfl⟩ hd) fun _ _ => .int i
theorem pde_gstr {x s : Str} (l : Tx) {t : Tok} {pos : Pos} (hm : X.mg x = some (.str s t)) (e : s = tx l := by decide +kernel) (ho : okT l = true := by decide +kernel) (hg : Gl X x := by rfl) (hd : (x == ("__debug__" : Str)) = false := by decide) : PDE X (.Name x pos) (eC (.str l)) := by
  subst e
  exact pde_c (v := .str (tx l)) (pe_glob hg hm ⟨t, rfl⟩ hd) fun _ _ => .str ho

/-! ### arguments -/
theorem tA_bnd {K : PySem.W.Frag} {mg : Str → Option Value} {B : Bs} {w : Wd} {σ : L2.St} {W : WX} {f : M (List D)} {k : List D → Hh → Ro D} {env : Env} {L : Hh} {H : Hp} {Q : VK} {Q1 : List V → Hp → Prop} (S : StR K mg B w H L) (R : EnvR K w env σ) (h : PostE K mg B w σ W (bnd (f env L) k) Q)
    (hk : ∀ w' v H' d L', w.le w' → StR K mg B w' H' L' → Reps K w' v d → PostE K mg B w' σ W (k d L') Q → Q1 v H') : tA K mg W f σ H Q1 := by
  refine ⟨B, w, env, L, S, R, ?_⟩
  revert h
  cases f env L with
  | none => exact fun h => h
  | some p =>
    obtain ⟨r, L'⟩ := p
    cases r with
    | ok d => exact fun h w' v H' l S' r' => hk w' v H' d L' l S' r' (h.le l)
    | ex e => exact fun h => h
theorem pda_nil : PDA X [] aNil := fun W _ => pa_nil.imp fun σ H Q ⟨B, w, env, L, S, R, h⟩ => h w [] H (Wd.le.refl _) S .nil
theorem pda_cons {e : Expr} {es : List Expr} {f : M D} {r : M (List D)} (ha : PDE X e f) (hr : PDA X es r) (hs : starEach (e :: es) X.env = (false, eval e X.env) :: starEach es X.env := by rfl) : PDA X (e :: es) (aCons f r) := fun W tk =>
  (pa_cons (ha W tk) (hr W tk) hs).imp fun σ H Q ⟨B, w, env, L, S, R, h⟩ => by
    refine ⟨B, w, env, L, S, R, ?_⟩
    simp only [aCons] at h
    revert h
    cases f env L with
    | none => exact fun h => h
    | some p =>
      obtain ⟨r1, L'⟩ := p
      cases r1 with
      | ex e => exact fun h => h
      | ok d =>
        intro h w1 v H1 l1 S1 r1
        refine ⟨B, w1, env, L', S1, R.mono l1, ?_⟩
        simp only [bnd_ok] at h
        revert h
        cases r env L' with
        | none => exact fun h => h.elim
        | some p2 =>
          obtain ⟨r2, L2⟩ := p2
          cases r2 with
          | ex e => exact fun h w2 H2 cls dd l2 => h w2 H2 cls dd (l1.trans l2)
          | ok ds => exact fun h w2 vs H2 l2 S2 r2 => h w2 (v :: vs) H2 (l1.trans l2) S2 (.cons (r1.mono l2) r2)

/-! ### operators, built-ins, methods by values -/
/-- a reading by values that does what g does -/
def DOp2 (X : Cx) (r : R2) (g : Op2) : Prop := ∀ (B : Bs) (w : Wd) (σ : L2.St) (W : WX) (H : Hp) (L : Hh) (x y : V) (dx dy : D) (Q : VK), StR X.K X.mg B w H L → Rep X.K w x dx → Rep X.K w y dy → PostE X.K X.mg B w σ W (g dx dy L) Q → r x y H Q
def DOp1 (X : Cx) (r : V → Hp → VK → Prop) (g : Op1) : Prop := ∀ (B : Bs) (w : Wd) (σ : L2.St) (W : WX) (H : Hp) (L : Hh) (x : V) (dx : D) (Q : VK), StR X.K X.mg B w H L → Rep X.K w x dx → PostE X.K X.mg B w σ W (g dx L) Q → r x H Q
def DOpN (X : Cx) (r : List V → Hp → VK → Prop) (g : OpN) : Prop := ∀ (B : Bs) (w : Wd) (σ : L2.St) (W : WX) (H : Hp) (L : Hh) (xs : List V) (ds : List D) (Q : VK), StR X.K X.mg B w H L → Reps X.K w xs ds → PostE X.K X.mg B w σ W (g ds L) Q → r xs H Q
def DMt (X : Cx) (r : V → List V → Hp → VK → Prop) (g : D → OpN) : Prop := ∀ (B : Bs) (w : Wd) (σ : L2.St) (W : WX) (H : Hp) (L : Hh) (x : V) (xs : List V) (dx : D) (ds : List D) (Q : VK), StR X.K X.mg B w H L → Rep X.K w x dx → Reps X.K w xs ds → PostE X.K X.mg B w σ W (g dx ds L) Q → r x xs H Q
/-- one operator by several rules: the rule is chosen by the data -/
def OpD (X : Cx) (f : Value → Value → Sem Value) (g : Op2) : Prop := ∀ (B : Bs) (w : Wd) (σ : L2.St) (W : WX) (H : Hp) (L : Hh) (x y : V) (dx dy : D) (Q : VK), StR X.K X.mg B w H L → Rep X.K w x dx → Rep X.K w y dy → PostE X.K X.mg B w σ W (g dx dy L) Q → ∃ r, OpR X f r ∧ r x y H Q
theorem OpD.of {f : Value → Value → Sem Value} {r : R2} {g : Op2} (ho : OpR X f r) (h : DOp2 X r g) : OpD X f g := fun B w σ W H L x y dx dy Q S rx ry q => ⟨r, ho, h B w σ W H L x y dx dy Q S rx ry q⟩
def rAny2 (X : Cx) (f : Value → Value → Sem Value) : R2 := fun x y H Q => ∃ r, OpR X f r ∧ r x y H Q
theorem opR_any {f : Value → Value → Sem Value} : OpR X f (rAny2 X f) := fun pins s σ H x y v u Q I rx ry ⟨_, ho, q⟩ => ho pins s σ H x y v u Q I rx ry q
theorem OpD.d {f : Value → Value → Sem Value} {g : Op2} (h : OpD X f g) : DOp2 X (rAny2 X f) g := fun B w σ W H L x y dx dy Q S rx ry q => h B w σ W H L x y dx dy Q S rx ry q
theorem bin_imp {r : R2} {g : Op2} {fa fb : M D} {W : WX} (hd : DOp2 X r g) (σ : L2.St) (H : Hp) (Q : VK) (h : tE X.K X.mg W (eBin g fa fb) σ H Q) : tOp r (tE X.K X.mg W fa) (tE X.K X.mg W fb) σ H Q := by
  obtain ⟨B, w, env, L, S, R, h⟩ := h
  refine tE_bnd S R h fun w1 v H1 d L1 l1 S1 r1 h1 => ?_
  refine tE_bnd S1 (R.mono l1) h1 fun w2 u H2 e L2 l2 S2 r2 h2 => ?_
  exact hd _ _ _ _ _ _ _ _ _ _ _ S2 (r1.mono l2) r2 h2
theorem pde_bin {op : Operator} {g : Op2} {a b : Expr} {fa fb : M D} {pos : Pos} (ho : OpD X (binaryOp op) g) (ha : PDE X a fa) (hb : PDE X b fb) : PDE X (.BinOp a op b pos) (eBin g fa fb) := fun W tk =>
  (pe_op opR_any (ha W tk) (hb W tk)).imp fun σ H Q h => bin_imp ho.d σ H Q h
theorem pde_cmp {op : CmpOp} {g : Op2} {a b : Expr} {fa fb : M D} {pos : Pos} (ho : OpD X (compareOp op) g) (ha : PDE X a fa) (hb : PDE X b fb) (hm : behindInMarks op b = false := by first | exact nomark _ | rfl) : PDE X (.Compare a [op] [b] pos) (eBin g fa fb) := fun W tk =>
  (pe_cmpR opR_any (ha W tk) (hb W tk) hm).imp fun σ H Q h => bin_imp ho.d σ H Q h
theorem pde_un {op : UnaryOp} {r : V → Hp → VK → Prop} {g : Op1} {a : Expr} {fa : M D} {pos : Pos} (ho : UnR X (unaryOp op) r) (hd : DOp1 X r g) (ha : PDE X a fa) : PDE X (.UnaryOp op a pos) (eUn g fa) := fun W tk =>
  (pe_un ho (ha W tk)).imp fun σ H Q ⟨B, w, env, L, S, R, h⟩ => by
    refine tE_bnd S R h fun w1 v H1 d L1 l1 S1 r1 h1 => ?_
    exact hd _ _ _ _ _ _ _ _ _ S1 r1 h1
/-- a call by values, the rule chosen by the data -/
def CallD (X : Cx) (f : Value) (g : OpN) : Prop := ∀ (B : Bs) (w : Wd) (σ : L2.St) (W : WX) (H : Hp) (L : Hh) (xs : List V) (ds : List D) (Q : VK), StR X.K X.mg B w H L → Reps X.K w xs ds → PostE X.K X.mg B w σ W (g ds L) Q → ∃ r, CallR X f r ∧ r xs H Q
def rAnyN (X : Cx) (f : Value) : List V → Hp → VK → Prop := fun xs H Q => ∃ r, CallR X f r ∧ r xs H Q
theorem callR_any {f : Value} : CallR X f (rAnyN X f) := fun pins s σ H xs us Q I rx ⟨_, ho, q⟩ => ho pins s σ H xs us Q I rx q
theorem nary_imp {r : List V → Hp → VK → Prop} {g : OpN} {fa : M (List D)} {W : WX} (hd : DOpN X r g) (σ : L2.St) (H : Hp) (Q : VK) (h : tE X.K X.mg W (eNary g fa) σ H Q) : tCB r (tA X.K X.mg W fa) σ H Q := by
  obtain ⟨B, w, env, L, S, R, h⟩ := h
  refine tA_bnd S R h fun w1 v H1 d L1 l1 S1 r1 h1 => ?_
  exact hd _ _ _ _ _ _ _ _ _ S1 r1 h1
theorem CallD.d {f : Value} {g : OpN} (h : CallD X f g) : DOpN X (rAnyN X f) g := fun B w σ W H L xs ds Q S rx q => h B w σ W H L xs ds Q S rx q
theorem pde_callB {x : Str} {id : String} {g : OpN} {e : Expr} {es : List Expr} {fa : M (List D)} {p pos : Pos} (hc : CallD X (.builtin id) g) (hv : bootBuiltins x = some (.builtin id)) (hm : X.mg x = none) (ha : PDA X (e :: es) fa) (hg : Gl X x := by rfl) (hn : x ≠ "__name__" := by decide) (hdb : (x == ("__debug__" : Str)) = false := by decide)
    (he : starEach (e :: es) X.env = (false, eval e X.env) :: starEach es X.env := by rfl) (hpl : (backTo pos (starEach es X.env)).any (·.1) = false := by rfl) : PDE X (.Call (.Name x p) (e :: es) [] pos) (eNary g fa) := fun W tk =>
  (pe_callB callR_any hg hm hv (ha W tk) hn hdb he hpl).imp fun σ H Q h => nary_imp hc.d σ H Q h
theorem pde_callTy {x : Str} {T : String} {g : OpN} {e : Expr} {es : List Expr} {fa : M (List D)} {p pos : Pos} (hc : CallD X (.type T) g) (hv : bootBuiltins x = some (.type T)) (hm : X.mg x = none) (ha : PDA X (e :: es) fa) (hg : Gl X x := by rfl) (hn : x ≠ "__name__" := by decide) (hdb : (x == ("__debug__" : Str)) = false := by decide)
    (he : starEach (e :: es) X.env = (false, eval e X.env) :: starEach es X.env := by rfl) (hpl : (backTo pos (starEach es X.env)).any (·.1) = false := by rfl) : PDE X (.Call (.Name x p) (e :: es) [] pos) (eNary g fa) := fun W tk =>
  (pe_callTy callR_any hg hm hv (ha W tk) hn hdb he hpl).imp fun σ H Q h => nary_imp hc.d σ H Q h
end
end Rg
namespace Rg
open PySem PySem.Spec L2
open PyProof.Rows hiding St
section
variable {X : Cx}
/-! ### displays -/
theorem le_line {n m : Nat} (h : n ≤ m) (h2 : m ≤ 16777216 := by decide) : n ≤ sizeLine := by
  rw [sizeLine_eq]
  omega
theorem lt_line {n m : Nat} (h : n < m) (h2 : m ≤ 16777216 := by decide) : n < sizeLine := by
  rw [sizeLine_eq]
  omega
theorem pde_tup {es : List Expr} {f : M (List D)} {x1 : Nat} {pos : Pos} (ha : PDA X es f) : PDE X (.Tuple es x1 pos) (eTup f) := fun W tk =>
  (pe_tup (ha W tk)).imp fun σ H Q ⟨B, w, env, L, S, R, h⟩ => by
    refine tA_bnd S R h fun w1 vs H1 ds L1 l1 S1 r1 h1 => ?_
    split at h1
    · rename_i hl
      refine ⟨le_line (m := 10000) (by rw [r1.length]; exact hl), fun p hp => ?_⟩
      obtain ⟨l2, S2⟩ := S1.laid hp (.tup vs)
      exact h1 _ _ _ l2 S2 (.tup upd_same (r1.mono l2))
    · exact h1.elim
theorem pde_lst {es : List Expr} {f : M (List D)} {pos : Pos} (ha : PDA X es f) : PDE X (.List es pos) (eLst f) := fun W tk =>
  (pe_lst (ha W tk)).imp fun σ H Q ⟨B, w, env, L, S, R, h⟩ => by
    refine tA_bnd S R h fun w1 vs H1 ds L1 l1 S1 r1 h1 => ?_
    split at h1
    · rename_i hl
      refine ⟨le_line (m := 10000) (by rw [r1.length]; exact hl), fun p hp => ?_⟩
      obtain ⟨l2, S2⟩ := S1.alloc hp (CellR.lst r1)
      exact h1 _ _ _ l2 S2 (.ref (by rw [← S1.len]; simp))
    · exact h1.elim
/-- a new list of items -/
theorem new_list {B : Bs} {w : Wd} {σ : L2.St} {W : WX} {H : Hp} {L : Hh} {vs : List V} {ds : List D} {Q : VK} (S : StR X.K X.mg B w H L) (r : Reps X.K w vs ds) (h : PostE X.K X.mg B w σ W (some (.ok (.ref L.length), L ++ [.lst ds])) Q) :
    ∀ p, H p = none → Q (.ref p) (upd H p (.lst vs)) := fun p hp => by
  obtain ⟨l2, S2⟩ := S.alloc hp (CellR.lst r)
  exact h _ _ _ l2 S2 (.ref (by rw [← S.len]; simp))
theorem new_tup {B : Bs} {w : Wd} {σ : L2.St} {W : WX} {H : Hp} {L : Hh} {vs : List V} {ds : List D} {Q : VK} (S : StR X.K X.mg B w H L) (r : Reps X.K w vs ds) (h : PostE X.K X.mg B w σ W (some (.ok (.tup ds), L)) Q) :
    ∀ p, H p = none → Q (.ref p) (upd H p (.tup vs)) := fun p hp => by
  obtain ⟨l2, S2⟩ := S.laid hp (.tup vs)
  exact h _ _ _ l2 S2 (.tup upd_same (r.mono l2))
/-! ### tests -/
theorem tE_bndT {K : PySem.W.Frag} {mg : Str → Option Value} {B : Bs} {w : Wd} {σ : L2.St} {W : WX} {f : M D} {k : D → Hh → Ro Bool} {env : Env} {L : Hh} {H : Hp} {Q : Bool → Hp → Prop} {Q1 : VK} (S : StR K mg B w H L) (R : EnvR K w env σ) (h : PostT K mg B w σ W (bnd (f env L) k) Q)
    (hk : ∀ w' v H' d L', w.le w' → StR K mg B w' H' L' → Rep K w' v d → PostT K mg B w' σ W (k d L') Q → Q1 v H') : tE K mg W f σ H Q1 := by
  refine ⟨B, w, env, L, S, R, ?_⟩
  revert h
  cases f env L with
  | none => exact fun h => h
  | some p =>
    obtain ⟨r, L'⟩ := p
    cases r with
    | ok d => exact fun h w' v H' l S' r' => hk w' v H' d L' l S' r' (h.le l)
    | ex e => exact fun h => h
theorem tT_bndT {K : PySem.W.Frag} {mg : Str → Option Value} {B : Bs} {w : Wd} {σ : L2.St} {W : WX} {f : M Bool} {k : Bool → Hh → Ro Bool} {env : Env} {L : Hh} {H : Hp} {Q : Bool → Hp → Prop} {Q1 : Bool → Hp → Prop} (S : StR K mg B w H L) (R : EnvR K w env σ) (h : PostT K mg B w σ W (bnd (f env L) k) Q)
    (hk : ∀ w' b H' L', w.le w' → StR K mg B w' H' L' → PostT K mg B w' σ W (k b L') Q → Q1 b H') : tB1 K mg W f σ H Q1 := by
  refine ⟨B, w, env, L, S, R, ?_⟩
  revert h
  cases f env L with
  | none => exact fun h => h
  | some p =>
    obtain ⟨r, L'⟩ := p
    cases r with
    | ok d => exact fun h w' H' l S' => hk w' d H' L' l S' (h.le l)
    | ex e => exact fun h => h
theorem tT_bndE {K : PySem.W.Frag} {mg : Str → Option Value} {B : Bs} {w : Wd} {σ : L2.St} {W : WX} {f : M Bool} {k : Bool → Hh → Ro D} {env : Env} {L : Hh} {H : Hp} {Q : VK} {Q1 : Bool → Hp → Prop} (S : StR K mg B w H L) (R : EnvR K w env σ) (h : PostE K mg B w σ W (bnd (f env L) k) Q)
    (hk : ∀ w' b H' L', w.le w' → StR K mg B w' H' L' → PostE K mg B w' σ W (k b L') Q → Q1 b H') : tB1 K mg W f σ H Q1 := by
  refine ⟨B, w, env, L, S, R, ?_⟩
  revert h
  cases f env L with
  | none => exact fun h => h
  | some p =>
    obtain ⟨r, L'⟩ := p
    cases r with
    | ok d => exact fun h w' H' l S' => hk w' d H' L' l S' (h.le l)
    | ex e => exact fun h => h
theorem Rep.bool {K : PySem.W.Frag} {w : Wd} {v : V} {b : Bool} (h : Rep K w v (.bl b)) : v = .bl b := by
  cases h
  rfl
theorem tval_imp {W : WX} {f : M D} (σ : L2.St) (H : Hp) (Q : Bool → Hp → Prop) (h : tB1 X.K X.mg W (tVal f) σ H Q) : tB (tE X.K X.mg W f) σ H Q := by
  obtain ⟨B, w, env, L, S, R, h⟩ := h
  refine tE_bndT S R h fun w1 v H1 d L1 l1 S1 r1 h1 => ?_
  split at h1
  · rename_i c
    exact ⟨c, r1.bool, h1 w1 H1 (Wd.le.refl _) S1⟩
  · exact h1.elim
/-- an expression that gives a truth, as a test -/
theorem pdt_val {e : Expr} {f : M D} (he : PDE X e f) (h2 : ∀ whole, isTrue e X.env whole = (do let v ← whole; standAt e.pos; holding [v] (truthy v)) := by intro _; rfl) : PDT X e (tVal f) := fun W tk => (pt_val (he W tk) h2).imp tval_imp
theorem pdt_cmp {op : CmpOp} {g : Op2} {a b : Expr} {fa fb : M D} {pos : Pos} (ho : OpD X (compareOp op) g) (ha : PDE X a fa) (hb : PDE X b fb) (hm : behindInMarks op b = false := by first | exact nomark _ | rfl) : PDT X (.Compare a [op] [b] pos) (tVal (eBin g fa fb)) := fun W tk =>
  (pt_cmpR opR_any (ha W tk) (hb W tk) hm).imp fun σ H Q h => by
    obtain ⟨B, w, env, L, S, R, h⟩ := h
    have h' : PostT X.K X.mg B w σ W (bnd (fa env L) fun x L1 => bnd (bnd (fb env L1) fun y L2 => g x y L2) fun x L1 => match x with
      | .bl c => some (.ok c, L1)
      | _ => none) Q := by
      revert h
      simp only [tVal, eBin]
      cases fa env L with
      | none => exact fun h => h
      | some p =>
        obtain ⟨r, L'⟩ := p
        cases r <;> exact fun h => h
    refine tE_bndT S R h' fun w1 v H1 d L1 l1 S1 r1 h1 => ?_
    have h1' : PostT X.K X.mg B w1 σ W (bnd (fb env L1) fun y L2 => bnd (g d y L2) fun x L1 => match x with
      | .bl c => some (.ok c, L1)
      | _ => none) Q := by
      revert h1
      cases fb env L1 with
      | none => exact fun h => h
      | some p =>
        obtain ⟨r, L'⟩ := p
        cases r <;> exact fun h => h
    refine tE_bndT S1 (R.mono l1) h1' fun w2 u H2 e L2 l2 S2 r2 h2 => ?_
    refine ho.d B w2 σ W H2 L2 v u d e _ S2 (r1.mono l2) r2 ?_
    revert h2
    cases g d e L2 with
    | none => exact fun h => h
    | some p =>
      obtain ⟨r, L'⟩ := p
      cases r with
      | ex e => exact fun h => h
      | ok z =>
        intro h2 w3 z3 H3 l3 S3 r3
        simp only [bnd_ok] at h2
        split at h2
        · rename_i c
          exact ⟨c, r3.bool, h2 w3 H3 l3 S3⟩
        · exact h2.elim
theorem pdt_not {a : Expr} {t : M Bool} {pos : Pos} (ha : PDT X a t) : PDT X (.UnaryOp .Not a pos) (tNot t) := fun W tk => (pt_not (ha W tk)).imp fun σ H Q ⟨B, w, env, L, S, R, h⟩ => by
  refine tT_bndT S R h fun w1 b H1 L1 l1 S1 h1 => ?_
  exact h1 w1 H1 (Wd.le.refl _) S1
theorem pdw_and1 {a : Expr} {t : M Bool} {pos : Pos} (ha : PDT X a t) : PDW X (.BoolOp .And [a] pos) t := fun W tk => pw_and1 (ha W tk)
theorem pdw_or1 {a : Expr} {t : M Bool} {pos : Pos} (ha : PDT X a t) : PDW X (.BoolOp .Or [a] pos) t := fun W tk => pw_or1 (ha W tk)
theorem pdw_and {a b : Expr} {rest : List Expr} {t u : M Bool} {pos : Pos} (ha : PDT X a t) (hb : PDW X (.BoolOp .And (b :: rest) pos) u) : PDW X (.BoolOp .And (a :: b :: rest) pos) (Rg.tAnd t u) := fun W tk => (pw_and (ha W tk) (hb W tk)).imp fun σ H Q ⟨B, w, env, L, S, R, h⟩ => by
  refine tT_bndT S R h fun w1 b H1 L1 l1 S1 h1 => ?_
  split at h1
  · rename_i hb
    rw [if_pos hb]
    exact ⟨B, w1, env, L1, S1, R.mono l1, h1⟩
  · rename_i hb
    rw [if_neg hb]
    exact h1 w1 H1 (Wd.le.refl _) S1
theorem pdw_or {a b : Expr} {rest : List Expr} {t u : M Bool} {pos : Pos} (ha : PDT X a t) (hb : PDW X (.BoolOp .Or (b :: rest) pos) u) : PDW X (.BoolOp .Or (a :: b :: rest) pos) (Rg.tOr t u) := fun W tk => (pw_or (ha W tk) (hb W tk)).imp fun σ H Q ⟨B, w, env, L, S, R, h⟩ => by
  refine tT_bndT S R h fun w1 b H1 L1 l1 S1 h1 => ?_
  split at h1
  · rename_i hb
    rw [if_pos hb]
    exact h1 w1 H1 (Wd.le.refl _) S1
  · rename_i hb
    rw [if_neg hb]
    exact ⟨B, w1, env, L1, S1, R.mono l1, h1⟩
theorem pdt_w {a : Expr} {t : M Bool} (h : PDW X a t) : PDT X a t := fun W tk => (h W tk).pt
/-! ### and, or, not, if as values -/
theorem pde_one {op : BoolOp} {a : Expr} {f : M D} {pos : Pos} (ha : PDE X a f) : PDE X (.BoolOp op [a] pos) f := fun W tk => pe_one (ha W tk)
theorem pde_and {a b : Expr} {rest : List Expr} {f g : M D} {pos : Pos} (ha : PDE X a f) (hb : PDE X (.BoolOp .And (b :: rest) pos) g) : PDE X (.BoolOp .And (a :: b :: rest) pos) (eAnd f g) := fun W tk => (pe_and (ha W tk) (hb W tk)).imp fun σ H Q ⟨B, w, env, L, S, R, h⟩ => by
  refine tE_bnd S R h fun w1 v H1 d L1 l1 S1 r1 h1 => ?_
  split at h1
  · exact ⟨true, r1.bool, iteT ⟨B, w1, env, L1, S1, R.mono l1, h1⟩⟩
  · exact ⟨false, r1.bool, iteF (h1 w1 _ H1 (Wd.le.refl _) S1 (.bl false))⟩
  · exact h1.elim
theorem pde_or {a b : Expr} {rest : List Expr} {f g : M D} {pos : Pos} (ha : PDE X a f) (hb : PDE X (.BoolOp .Or (b :: rest) pos) g) : PDE X (.BoolOp .Or (a :: b :: rest) pos) (eOr f g) := fun W tk => (pe_or (ha W tk) (hb W tk)).imp fun σ H Q ⟨B, w, env, L, S, R, h⟩ => by
  refine tE_bnd S R h fun w1 v H1 d L1 l1 S1 r1 h1 => ?_
  split at h1
  · exact ⟨true, r1.bool, iteT (h1 w1 _ H1 (Wd.le.refl _) S1 (.bl true))⟩
  · exact ⟨false, r1.bool, iteF ⟨B, w1, env, L1, S1, R.mono l1, h1⟩⟩
  · exact h1.elim
theorem pde_not {a : Expr} {f : M D} {pos : Pos} (ha : PDE X a f) : PDE X (.UnaryOp .Not a pos) (eNot f) := fun W tk => (pe_not (ha W tk)).imp fun σ H Q ⟨B, w, env, L, S, R, h⟩ => by
  refine tE_bnd S R h fun w1 v H1 d L1 l1 S1 r1 h1 => ?_
  split at h1
  · rename_i c
    exact ⟨c, r1.bool, h1 w1 _ H1 (Wd.le.refl _) S1 (.bl _)⟩
  · exact h1.elim
theorem pde_if {c a b : Expr} {t : M Bool} {f g : M D} {pos : Pos} (hc : PDT X c t) (ha : PDE X a f) (hb : PDE X b g) : PDE X (.IfExp c a b pos) (eIf t f g) := fun W tk => (pe_ifExp (hc W tk) (ha W tk) (hb W tk)).imp fun σ H Q ⟨B, w, env, L, S, R, h⟩ => by
  refine tT_bndE S R h fun w1 b H1 L1 l1 S1 h1 => ?_
  split at h1
  · rename_i hb
    rw [if_pos hb]
    exact ⟨B, w1, env, L1, S1, R.mono l1, h1⟩
  · rename_i hb
    rw [if_neg hb]
    exact ⟨B, w1, env, L1, S1, R.mono l1, h1⟩
/-! ### statements -/
theorem pdss_nil : PDSs X [] sNil := fun W _ => pss_nil.imp fun D σ H ⟨B, w, env, L, S, R, h⟩ => h w σ H (Wd.le.refl _) S R
theorem pdss_one {s : Stmt} {g : Sm} (h : PDS X s g) : PDSs X [s] g := fun W tk => pss_one (h W tk)
theorem pdss_cons {s : Stmt} {rest : List Stmt} {g r : Sm} (h : PDS X s g) (h2 : PDSs X rest r) : PDSs X (s :: rest) (sSeq g r) := fun W tk => (pss_cons (h W tk) (h2 W tk)).imp fun D σ H ⟨B, w, env, L, S, R, h⟩ => by
  refine ⟨B, w, env, L, S, R, ?_⟩
  simp only [sSeq] at h
  revert h
  cases g env L with
  | none => exact fun h => h
  | some p =>
    obtain ⟨o, env1, L1⟩ := p
    cases o with
    | nx => exact fun h w1 σ1 H1 l1 S1 R1 => ⟨B, w1, env1, L1, S1, R1, h.le l1⟩
    | rt d => exact fun h => h
    | bk => exact fun h => h
    | ct => exact fun h => h
    | ex e => exact fun h => h
/-- a block, whatever follows it is never reached where it ends by itself: no rule is needed -/
theorem tE_sb {K : PySem.W.Frag} {mg : Str → Option Value} {B : Bs} {w : Wd} {σ : L2.St} {W : WX} {f : M D} {k : D → Hh → So} {env : Env} {L : Hh} {H : Hp} {E : Ends} {Q1 : VK} (S : StR K mg B w H L) (R : EnvR K w env σ) (h : PostS K mg B w W (sb env (f env L) k) E)
    (hk : ∀ w' v H' d L', w.le w' → StR K mg B w' H' L' → Rep K w' v d → PostS K mg B w' W (k d L') E → Q1 v H') : tE K mg W f σ H Q1 := by
  refine ⟨B, w, env, L, S, R, ?_⟩
  revert h
  cases f env L with
  | none => exact fun h => h
  | some p =>
    obtain ⟨r, L'⟩ := p
    cases r with
    | ok d => exact fun h w' v H' l S' r' => hk w' v H' d L' l S' r' (h.le l)
    | ex e => exact fun h w' H' cls dd l S' x => h w' σ H' cls dd l S' (R.mono l) x
theorem tT_sb {K : PySem.W.Frag} {mg : Str → Option Value} {B : Bs} {w : Wd} {σ : L2.St} {W : WX} {f : M Bool} {k : Bool → Hh → So} {env : Env} {L : Hh} {H : Hp} {E : Ends} {Q1 : Bool → Hp → Prop} (S : StR K mg B w H L) (R : EnvR K w env σ) (h : PostS K mg B w W (sb env (f env L) k) E)
    (hk : ∀ w' b H' L', w.le w' → StR K mg B w' H' L' → PostS K mg B w' W (k b L') E → Q1 b H') : tB1 K mg W f σ H Q1 := by
  refine ⟨B, w, env, L, S, R, ?_⟩
  revert h
  cases f env L with
  | none => exact fun h => h
  | some p =>
    obtain ⟨r, L'⟩ := p
    cases r with
    | ok d => exact fun h w' H' l S' => hk w' d H' L' l S' (h.le l)
    | ex e => exact fun h w' H' cls dd l S' x => h w' σ H' cls dd l S' (R.mono l) x
theorem pds_pass {pos : Pos} : PDS X (.Pass pos) sNil := fun W _ => ps_pass.imp fun D σ H ⟨B, w, env, L, S, R, h⟩ => h w σ H (Wd.le.refl _) S R
theorem pds_doc {x : Str} {j : Nat} {pos pos' : Pos} : PDS X (.Expr (.Constant (.str x) j pos) pos') sNil := fun W _ => ps_doc.imp fun D σ H ⟨B, w, env, L, S, R, h⟩ => h w σ H (Wd.le.refl _) S R
theorem pds_brk {pos : Pos} : PDS X (.Break pos) sBrk := fun W _ => ps_break.imp fun D σ H ⟨B, w, env, L, S, R, h⟩ => h w σ H (Wd.le.refl _) S R
theorem pds_cnt {pos : Pos} : PDS X (.Continue pos) sCnt := fun W _ => ps_continue.imp fun D σ H ⟨B, w, env, L, S, R, h⟩ => h w σ H (Wd.le.refl _) S R
theorem pds_retN {pos : Pos} : PDS X (.Return none pos) sRetN := fun W _ => ps_retN.imp fun D σ H ⟨B, w, env, L, S, R, h⟩ => h w .non H (Wd.le.refl _) S .non
theorem pds_ret {e : Expr} {f : M D} {pos : Pos} (he : PDE X e f) : PDS X (.Return (some e) pos) (sRet f) := fun W tk => (ps_ret (he W tk)).imp fun D σ H ⟨B, w, env, L, S, R, h⟩ => by
  refine tE_sb S R h fun w1 v H1 d L1 l1 S1 r1 h1 => ?_
  exact h1 w1 v H1 (Wd.le.refl _) S1 r1
theorem pds_expr {e : Expr} {f : M D} {pos : Pos} (he : PDE X e f) (hs : swapsWith e none pos.line X.env = pure false := by rfl) : PDS X (.Expr e pos) (sExpr f) := fun W tk => (ps_expr (he W tk) hs).imp fun D σ H ⟨B, w, env, L, S, R, h⟩ => by
  refine tE_sb S R h fun w1 v H1 d L1 l1 S1 r1 h1 => ?_
  exact h1 w1 σ H1 (Wd.le.refl _) S1 (R.mono l1)
theorem pds_if {c : Expr} {a b : List Stmt} {t : M Bool} {f g : Sm} {pos : Pos} (hc : PDT X c t) (ha : PDSs X a f) (hb : PDSs X b g) : PDS X (.If c a b pos) (sIf t f g) := fun W tk => (ps_if (hc W tk) (ha W tk) (hb W tk)).imp fun D σ H ⟨B, w, env, L, S, R, h⟩ => by
  refine tT_sb S R h fun w1 b H1 L1 l1 S1 h1 => ?_
  split at h1
  · rename_i hb
    rw [if_pos hb]
    exact ⟨B, w1, env, L1, S1, R.mono l1, h1⟩
  · rename_i hb
    rw [if_neg hb]
    exact ⟨B, w1, env, L1, S1, R.mono l1, h1⟩
/-! ### targets -/
def tG1 (K : PySem.W.Frag) (mg : Str → Option Value) (g : Tg) : TG := fun v σ H Q => ∃ B w env L d, StR K mg B w H L ∧ EnvR K w env σ ∧ Rep K w v d ∧ match g d env L with
  | none => False
  | some (env', L') => ∀ w' σ' H', w.le w' → StR K mg B w' H' L' → EnvR K w' env' σ' → Q σ' H'
def tGs1 (K : PySem.W.Frag) (mg : Str → Option Value) (g : Tgs) : TGs := fun vs σ H Q => ∃ B w env L ds, StR K mg B w H L ∧ EnvR K w env σ ∧ Reps K w vs ds ∧ match g ds env L with
  | none => False
  | some (env', L') => ∀ w' σ' H', w.le w' → StR K mg B w' H' L' → EnvR K w' env' σ' → Q σ' H'
def PDG (X : Cx) (e : Expr) (g : Tg) : Prop := PG X e (tG1 X.K X.mg g)
def PDGs (X : Cx) (e : List Expr) (g : Tgs) : Prop := PGs X e (tGs1 X.K X.mg g)
theorem _root_.L2.PG.imp {e : Expr} {t t' : TG} (h : PG X e t) (hi : ∀ v σ H Q, t' v σ H Q → t v σ H Q) : PG X e t' := ⟨fun pins s σ H v u Q I r q => h.run pins s σ H v u Q I r (hi v σ H Q q)⟩
theorem _root_.L2.PGs.imp {e : List Expr} {t t' : TGs} (h : PGs X e t) (hi : ∀ v σ H Q, t' v σ H Q → t v σ H Q) : PGs X e t' := ⟨fun pins s σ H v u Q I r q => h.run pins s σ H v u Q I r (hi v σ H Q q)⟩
theorem pdg_var (i : Nat) {x : Str} {pos : Pos} (hN : X.N.Nodup) (hi : X.N[i]? = some x := by rfl) (hx : Loc X.env.scope x := by first | exact Or.inl rfl | exact Or.inr rfl) (hf : X.fn x = true ∨ X.env.scope.names.lookup x = some .local := by first | exact .inl rfl | exact .inr rfl | assumption) : PDG X (.Name x pos) (gVar i) :=
  PG.imp (pg_name hN hi hx hf) fun v σ H Q ⟨B, w, env, L, d, S, R, r, h⟩ => h w _ H (Wd.le.refl _) S (R.set i r)
theorem pdgs_nil : PDGs X [] gNil := PGs.imp pgs_nil fun vs σ H Q ⟨B, w, env, L, ds, S, R, r, h⟩ => by
  cases r with
  | nil => exact ⟨rfl, h w σ H (Wd.le.refl _) S R⟩
  | cons _ _ => exact h.elim
theorem pdgs_cons {e : Expr} {es : List Expr} {g : Tg} {r : Tgs} (h1 : PDG X e g) (h2 : PDGs X es r)
    (hs : (assignEach (e :: es) X.env).map (·.2) = assign e X.env :: (assignEach es X.env).map (·.2) := by rfl) : PDGs X (e :: es) (gCons g r) := PGs.imp (pgs_cons h1 h2 hs) fun vs σ H Q ⟨B, w, env, L, ds, S, R, rp, h⟩ => by
  cases rp with
  | nil => exact h.elim
  | @cons v vs d ds r1 r2 =>
    refine ⟨v, vs, rfl, B, w, env, L, d, S, R, r1, ?_⟩
    simp only [gCons] at h
    revert h
    cases g d env L with
    | none => exact fun h => h
    | some p =>
      obtain ⟨env1, L1⟩ := p
      intro h w1 σ1 H1 l1 S1 R1
      refine ⟨B, w1, env1, L1, ds, S1, R1, r2.mono l1, ?_⟩
      dsimp only at h
      revert h
      cases r ds env1 L1 with
      | none => exact fun h => h
      | some p => exact fun h w2 σ2 H2 l2 => h w2 σ2 H2 (l1.trans l2)
theorem pdg_tup (n : Nat) {es : List Expr} {k : Nat} {g : Tgs} {pos : Pos} (h : PDGs X es g) (hc : X.calm = true := by rfl)
    (hn : (assignEach es X.env).length = n := by rfl) (hst : (assignEach es X.env).findIdx? (·.1) = none := by rfl) : PDG X (.Tuple es k pos) (gTup n g) := PG.imp (pg_tup hc h hn hst) fun v σ H Q ⟨B, w, env, L, d, S, R, r, h⟩ => by
  cases r with
  | @tup a vs ds hs rs =>
    simp only [Rg.gTup] at h
    by_cases hl : ds.length = n
    · rw [if_pos hl] at h
      exact ⟨a, vs, rfl, SqT.of (S.sub _ _ hs), by rw [rs.length, hl], B, w, env, L, ds, S, R, rs, h⟩
    · rw [if_neg hl] at h
      exact h.elim
  | _ => exact h.elim
theorem pds_asg {tg e : Expr} {f : M D} {g : Tg} {pos : Pos} (he : PDE X e f) (hg : PDG X tg g) (hs : swapsWithSole [tg] e pos.line X.env = pure false := by rfl) (hw : swappedStores [tg] e X.env = pure none := by rfl)
    (h1 : (assignEach [tg] X.env).map (·.2) = [assign tg X.env] := by rfl) : PDS X (.Assign [tg] e pos) (sAsg f g) := fun W tk => (ps_asg (he W tk) hg hs hw h1).imp fun D σ H ⟨B, w, env, L, S, R, h⟩ => by
  refine tE_sb S R h fun w1 v H1 d L1 l1 S1 r1 h1 => ?_
  refine ⟨B, w1, env, L1, d, S1, R.mono l1, r1, ?_⟩
  revert h1
  cases g d env L1 with
  | none => exact fun h => h
  | some p => exact fun h => h
theorem pds_set (i : Nat) {x : Str} {e : Expr} {f : M D} {pos pos' : Pos} (hN : X.N.Nodup) (he : PDE X e f) (hi : X.N[i]? = some x := by rfl) (hx : Loc X.env.scope x := by first | exact Or.inl rfl | exact Or.inr rfl) (hs : swapsWith e (some (.Name x pos')) pos.line X.env = pure false := by rfl) (hf : X.fn x = true ∨ X.env.scope.names.lookup x = some .local := by first | exact .inl rfl | exact .inr rfl | assumption) :
    PDS X (.Assign [.Name x pos'] e pos) (sSet i f) := fun W tk => (ps_set hN hi hx (he W tk) hs hf).imp fun D σ H ⟨B, w, env, L, S, R, h⟩ => by
  refine tE_sb S R h fun w1 v H1 d L1 l1 S1 r1 h1 => ?_
  exact h1 w1 _ H1 (Wd.le.refl _) S1 ((R.mono l1).set i r1)
end
end Rg
namespace Rg
open PySem PySem.Spec L2
open PyProof.Rows hiding St
/-! ### data as the library's -/
mutual
def py : D → PyData
  | .non => .none
  | .bl b => .bool b
  | .int i => .int i
  | .str s => .str (tx s)
  | .tup xs => .tuple (pys xs)
  | .lst xs => .list (pys xs)
  | _ => .none
def pys : List D → List PyData
  | [] => []
  | x :: xs => py x :: pys xs
end
theorem tx_beq (a b : Tx) : (tx a == tx b) = (a == b) := by
  rw [Bool.eq_iff_iff]
  simp only [beq_iff_eq]
  exact ⟨tx_inj, fun h => by rw [h]⟩
mutual
theorem eqv_py : ∀ (a b : D), D.pure a = true → D.pure b = true → PyData.eqv (py a) (py b) = D.eqv a b
  | .non, b, _, hb => by cases b <;> first | rfl | (simp [D.pure] at hb; done) | (simp [py, PyData.eqv, D.eqv])
  | .bl x, b, _, hb => by cases b <;> first | (simp [D.pure] at hb; done) | (simp [py, PyData.eqv, D.eqv])
  | .int x, b, _, hb => by cases b <;> first | (simp [D.pure] at hb; done) | (simp [py, PyData.eqv, D.eqv])
  | .str x, b, _, hb => by cases b <;> first | (simp [D.pure] at hb; done) | (simp [py, PyData.eqv, D.eqv, tx_beq])
  | .tup x, b, ha, hb => by
    cases b with
    | tup y =>
      simp only [D.pure] at ha hb
      simp only [py, PyData.eqv, D.eqv]
      exact eqvs_py x y ha hb
    | _ => first | (simp [D.pure] at hb; done) | (simp [py, PyData.eqv, D.eqv])
  | .lst x, b, ha, hb => by
    cases b with
    | lst y =>
      simp only [D.pure] at ha hb
      simp only [py, PyData.eqv, D.eqv]
      exact eqvs_py x y ha hb
    | _ => first | (simp [D.pure] at hb; done) | (simp [py, PyData.eqv, D.eqv])
  | .ref _, _, ha, _ => by simp [D.pure] at ha
  | .exn _ _, _, ha, _ => by simp [D.pure] at ha
  | .scr _, _, ha, _ => by simp [D.pure] at ha
theorem eqvs_py : ∀ (a b : List D), D.pures a = true → D.pures b = true → PyData.eqvAll (pys a) (pys b) = D.eqvs a b
  | [], [], _, _ => by simp [pys, PyData.eqvAll, D.eqvs]
  | [], _ :: _, _, _ => by simp [pys, PyData.eqvAll, D.eqvs]
  | _ :: _, [], _, _ => by simp [pys, PyData.eqvAll, D.eqvs]
  | x :: xs, y :: ys, ha, hb => by
    simp only [D.pures, Bool.and_eq_true] at ha hb
    simp only [pys, PyData.eqvAll, D.eqvs, eqv_py x y ha.1 hb.1, eqvs_py xs ys ha.2 hb.2]
end
section
variable {K : PySem.W.Frag} {mg : Str → Option Value} {B : Bs} {w : Wd} {H : Hp} {L : Hh}
theorem deep_all (S : StR K mg B w H L) (n : Nat) (ih : ∀ (v : V) (d d' : D), Rep K w v d → deep n L d = some d' → Dp K H v (py d') ∧ D.pure d' = true ∧ PyData.canLay0 (py d') = true ∧ PyData.depth (py d') ≤ n) :
    ∀ (vs : List V) (ds ds' : List D), Reps K w vs ds → ds.mapM (deep n L) = some ds' → DpAll K H vs (pys ds') ∧ D.pures ds' = true ∧ PyData.canLayAll0 (pys ds') = true ∧ PyData.depthAll (pys ds') ≤ n
  | _, [], ds', .nil, h => by
    simp at h
    subst h
    exact ⟨.nil, rfl, rfl, by simp [pys, PyData.depthAll]⟩
  | _, d :: ds, ds', .cons r rs, h => by
    rw [List.mapM_cons] at h
    cases e : deep n L d with
    | none => rw [e] at h; simp at h
    | some d1 =>
      rw [e] at h
      cases e2 : ds.mapM (deep n L) with
      | none => rw [e2] at h; simp at h
      | some ds1 =>
        rw [e2] at h
        simp at h
        subst h
        obtain ⟨h1, h2, h3, h4⟩ := ih _ d d1 r e
        obtain ⟨k1, k2, k3, k4⟩ := deep_all S n ih _ ds ds1 rs e2
        refine ⟨.cons h1 k1, by simp [D.pures, h2, k2], by simp [pys, PyData.canLayAll0, h3, k3], ?_⟩
        simp only [pys, PyData.depthAll]
        omega
theorem deep_ok (S : StR K mg B w H L) : ∀ (n : Nat) (v : V) (d d' : D), Rep K w v d → deep n L d = some d' → Dp K H v (py d') ∧ D.pure d' = true ∧ PyData.canLay0 (py d') = true ∧ PyData.depth (py d') ≤ n
  | 0, _, _, _, _, h => by cases h
  | n + 1, _, _, d', .non, h => by
    simp only [deep, Option.some.injEq] at h
    subst h
    exact ⟨.non, rfl, rfl, by simp [py, PyData.depth]⟩
  | n + 1, _, _, d', .bl b, h => by
    simp only [deep, Option.some.injEq] at h
    subst h
    exact ⟨.bl b, rfl, rfl, by simp [py, PyData.depth]⟩
  | n + 1, _, _, d', .int b, h => by
    simp only [deep, Option.some.injEq] at h
    subst h
    exact ⟨.int b, rfl, rfl, by simp [py, PyData.depth]⟩
  | n + 1, _, .str x, d', .str hx, h => by
    simp only [deep, Option.some.injEq] at h
    subst h
    refine ⟨.str _, rfl, ?_, by simp [py, PyData.depth]⟩
    simp only [py, PyData.canLay0, PyData.strOk, tx]
    rw [List.all_toArray]
    exact hx
  | n + 1, _, .tup ds, d', .tup hv rs, h => by
    simp only [deep] at h
    cases e : ds.mapM (deep n L) with
    | none => rw [e] at h; cases h
    | some ds1 =>
      rw [e] at h
      simp at h
      subst h
      obtain ⟨k1, k2, k3, k4⟩ := deep_all S n (deep_ok S n) _ ds ds1 rs e
      refine ⟨.tup (SqT.of (S.sub _ _ hv)) k1, by simp [D.pure, k2], by simp [py, PyData.canLay0, k3], ?_⟩
      simp only [py, PyData.depth]
      omega
  | n + 1, _, .lst ds, d', .lst hv rs, h => by
    simp only [deep] at h
    cases e : ds.mapM (deep n L) with
    | none => rw [e] at h; cases h
    | some ds1 =>
      rw [e] at h
      simp at h
      subst h
      obtain ⟨k1, k2, k3, k4⟩ := deep_all S n (deep_ok S n) _ ds ds1 rs e
      refine ⟨.lst (SqL.of (S.sub _ _ hv)) k1, by simp [D.pure, k2], by simp [py, PyData.canLay0, k3], ?_⟩
      simp only [py, PyData.depth]
      omega
  | n + 1, _, .ref k, d', .ref hv, h => by
    simp only [deep] at h
    split at h
    · rename_i ds hk
      cases e : ds.mapM (deep n L) with
      | none => rw [e] at h; cases h
      | some ds1 =>
        rw [e] at h
        simp at h
        subst h
        obtain ⟨a, vs, e1, h1, h2, rs⟩ := S.lcell (.ref hv) hk
        cases e1
        obtain ⟨k1, k2, k3, k4⟩ := deep_all S n (deep_ok S n) _ ds ds1 rs e
        refine ⟨.lst (SqL.of h2) k1, by simp [D.pure, k2], by simp [py, PyData.canLay0, k3], ?_⟩
        simp only [py, PyData.depth]
        omega
    · cases h
  | n + 1, _, .scr k, d', .scr hv, h => by cases h
  | n + 1, _, .exn _ _, d', _, h => by cases h
end
section
variable {X : Cx}
/-! ### operators of numbers, texts, lists, tuples -/
theorem post_int {B : Bs} {w : Wd} {σ : L2.St} {W : WX} {H : Hp} {L : Hh} {Q : VK} {i : Int} (S : StR X.K X.mg B w H L) (h : PostE X.K X.mg B w σ W (some (.ok (.int i), L)) Q) : Q (.int i) H := h w _ H (Wd.le.refl _) S (.int i)
theorem post_bl {B : Bs} {w : Wd} {σ : L2.St} {W : WX} {H : Hp} {L : Hh} {Q : VK} {i : Bool} (S : StR X.K X.mg B w H L) (h : PostE X.K X.mg B w σ W (some (.ok (.bl i), L)) Q) : Q (.bl i) H := h w _ H (Wd.le.refl _) S (.bl i)
theorem post_rep {B : Bs} {w : Wd} {σ : L2.St} {W : WX} {H : Hp} {L : Hh} {Q : VK} {v : V} {d : D} (S : StR X.K X.mg B w H L) (r : Rep X.K w v d) (h : PostE X.K X.mg B w σ W (some (.ok d, L)) Q) : Q v H := h w _ H (Wd.le.refl _) S r
theorem opd_opI {f : Value → Value → Sem Value} {g : Int → Int → Int} (ho : OpR X f (rI0 fun i j => .int (g i j))) : OpD X f (opI g) := fun B w σ W H L x y dx dy Q S rx ry q => by
  cases rx with
  | int i =>
    cases ry with
    | int j => exact ⟨_, ho, i, j, rfl, rfl, post_int S q⟩
    | _ => exact q.elim
  | _ => exact q.elim
theorem opd_sub : OpD X (binaryOp .Sub) opSub := opd_opI op_sub
theorem opd_cmpI {f : Value → Value → Sem Value} {g : Int → Int → Bool} (ho : OpR X f (rI0 fun i j => .bl (g i j))) : OpD X f (opCmp g) := fun B w σ W H L x y dx dy Q S rx ry q => by
  cases rx with
  | int i =>
    cases ry with
    | int j => exact ⟨_, ho, i, j, rfl, rfl, post_bl S q⟩
    | _ => exact q.elim
  | _ => exact q.elim
theorem opd_lt : OpD X (compareOp .Lt) opLt := fun B w σ W H L x y dx dy Q S rx ry q => by
  unfold opLt at q
  split at q
  · cases rx; cases ry
    exact ⟨_, op_lt, _, _, rfl, rfl, post_bl S q⟩
  · rename_i a b
    cases rx; cases ry
    refine ⟨_, op_lt_str, _, _, rfl, rfl, ?_⟩
    have e1 : (tx a).cps.toList = a := by simp [tx]
    have e2 : (tx b).cps.toList = b := by simp [tx]
    rw [e1, e2]
    exact post_bl S q
  · exact q.elim
theorem opd_le : OpD X (compareOp .LtE) opLe := opd_cmpI op_le
theorem opd_gt : OpD X (compareOp .Gt) opGt := opd_cmpI op_gt
theorem opd_ge : OpD X (compareOp .GtE) opGe := opd_cmpI op_ge
theorem opd_add : OpD X (binaryOp .Add) opAdd := fun B w σ W H L x y dx dy Q S rx ry q => by
  unfold opAdd at q
  split at q
  · cases rx; cases ry
    exact ⟨_, op_add, _, _, rfl, rfl, post_int S q⟩
  · rename_i a b
    cases rx with
    | str h1 =>
      cases ry with
      | str h2 =>
        split at q
        · rename_i hl
          refine ⟨_, op_add_str, _, _, rfl, rfl, ?_, ?_⟩
          · rw [tx_len, tx_len]
            exact le_line hl
          · rw [tx_app]
            exact post_rep S (.str (okT_app h1 h2)) q
        · exact q.elim
  · rename_i a b
    cases rx with
    | @tup p vs _ h1 r1 =>
      cases ry with
      | @tup p2 vs2 _ h2 r2 =>
        split at q
        · rename_i hl
          refine ⟨_, op_catA, _, _, _, _, rfl, rfl, SqT.of (S.sub _ _ h1), SqT.of (S.sub _ _ h2), le_line (m := 100000) (by rw [r1.length, r2.length]; exact hl), fun e => ?_, fun _ e => ?_, fun _ _ => ?_⟩
          · subst e
            cases r1
            exact post_rep S (.tup h2 r2) q
          · subst e
            cases r2
            rw [List.append_nil] at q
            exact post_rep S (.tup h1 r1) q
          · exact new_tup S (r1.append r2) q
        · exact q.elim
  · split at q
    · rename_i a b e1 e2
      split at q
      · rename_i hl
        obtain ⟨p, vs, rfl, h1, r1⟩ := S.look rx e1
        obtain ⟨p2, vs2, rfl, h2, r2⟩ := S.look ry e2
        exact ⟨_, op_cat, _, _, _, _, rfl, rfl, h1, h2, le_line (m := 100000) (by rw [r1.length, r2.length]; exact hl), new_list S (r1.append r2) q⟩
      · exact q.elim
    · exact q.elim
theorem small_ok {i : Int} (h : small i = true) : -(2 ^ 64) < i ∧ i < 2 ^ 64 := by
  have := Nat.ble_eq.mp h
  omega
theorem fits_ok {i : Int} (h : fits i = true) : i < 1073741824 := by
  have := Nat.ble_eq.mp h
  omega
theorem opd_mul : OpD X (binaryOp .Mult) opMul := fun B w σ W H L x y dx dy Q S rx ry q => by
  unfold opMul at q
  split at q
  · cases rx; cases ry
    rename_i i j
    split at q
    · rename_i h
      refine ⟨_, op_mul, _, _, rfl, rfl, ?_, post_int S q⟩
      rcases Bool.or_eq_true_iff.mp h with h | h
      · exact .inl (small_ok h)
      · exact .inr (small_ok h)
    · exact q.elim
  · exact q.elim
theorem opd_div : OpD X (binaryOp .FloorDiv) opDiv := fun B w σ W H L x y dx dy Q S rx ry q => by
  unfold opDiv at q
  split at q
  · cases rx; cases ry
    split at q
    · rename_i h
      exact ⟨_, op_fdiv, _, _, rfl, rfl, ⟨h.1, fits_ok h.2⟩, post_int S q⟩
    · exact q.elim
  · exact q.elim
theorem opd_mod : OpD X (binaryOp .Mod) opMod := fun B w σ W H L x y dx dy Q S rx ry q => by
  unfold opMod at q
  split at q
  · cases rx; cases ry
    split at q
    · rename_i h
      exact ⟨_, op_mod, _, _, rfl, rfl, h, post_int S q⟩
    · exact q.elim
  · exact q.elim
theorem opd_pow : OpD X (binaryOp .Pow) opPow := fun B w σ W H L x y dx dy Q S rx ry q => by
  unfold opPow at q
  split at q
  · cases rx; cases ry
    split at q
    · rename_i h
      obtain ⟨h1, h2, h3⟩ := h
      have := small_ok h3
      refine ⟨_, op_pow, _, _, rfl, rfl, ⟨h1, h2, ?_⟩, post_int S q⟩
      omega
    · exact q.elim
  · exact q.elim
theorem opd_neg : DOp1 X (rU fun i => .int (-i)) opNeg := fun B w σ W H L x dx Q S rx q => by
  unfold opNeg at q
  split at q
  · cases rx
    exact ⟨_, rfl, post_int S q⟩
  · exact q.elim
theorem eqD_ok {B : Bs} {w : Wd} {H : Hp} {L : Hh} {x y : V} {dx dy : D} {b : Bool} (S : StR X.K X.mg B w H L) (rx : Rep X.K w x dx) (ry : Rep X.K w y dy) (h : eqD L dx dy = some b) :
    ∃ d e, Dp X.K H x d ∧ Dp X.K H y e ∧ SeqAt.shaped d = true ∧ SeqAt.shaped e = true ∧ PyData.eqv d e = b := by
  unfold eqD at h
  split at h
  · rename_i a c ha hc
    obtain ⟨h1, h2, h3, h4⟩ := deep_ok S 8 x dx a rx ha
    obtain ⟨k1, k2, k3, k4⟩ := deep_ok S 8 y dy c ry hc
    refine ⟨_, _, h1, k1, ?_, ?_, by rw [eqv_py _ _ h2 k2]; exact Option.some.inj h⟩
    · unfold SeqAt.shaped
      rw [h3, decide_eq_true (by omega)]
      rfl
    · unfold SeqAt.shaped
      rw [k3, decide_eq_true (by omega)]
      rfl
  · cases h
theorem opd_eq (hu : X.A.units + 64 < cLine) : OpD X (compareOp .Eq) opEq := fun B w σ W H L x y dx dy Q S rx ry q => by
  unfold opEq at q
  split at q
  · rename_i b e
    obtain ⟨d, c, h1, h2, h3, h4, h5⟩ := eqD_ok S rx ry e
    exact ⟨_, op_eqD hu, d, c, h1, h2, h3, h4, by rw [h5]; exact post_bl S q⟩
  · exact q.elim
theorem opd_ne (hu : X.A.units + 64 < cLine) : OpD X (compareOp .NotEq) opNe := fun B w σ W H L x y dx dy Q S rx ry q => by
  unfold opNe at q
  split at q
  · rename_i b e
    obtain ⟨d, c, h1, h2, h3, h4, h5⟩ := eqD_ok S rx ry e
    exact ⟨_, op_neD hu, d, c, h1, h2, h3, h4, by rw [h5]; exact post_bl S q⟩
  · exact q.elim
theorem non_iff {w : Wd} {x : V} {d : D} (r : Rep X.K w x d) : decide (x = V.non) = decide (d = D.non) := by
  cases r <;> simp
theorem opd_is : OpD X (compareOp .Is) opIs := fun B w σ W H L x y dx dy Q S rx ry q => by
  unfold opIs at q
  split at q
  · cases ry
    refine ⟨_, op_isN, rfl, ?_⟩
    rw [non_iff rx]
    exact post_bl S q
  · cases rx; cases ry
    refine ⟨_, op_isBl, _, _, rfl, rfl, ?_⟩
    rw [← Bool.beq_eq_decide_eq]
    exact post_bl S q
  · exact q.elim
theorem opd_isnot : OpD X (compareOp .IsNot) opIsNot := fun B w σ W H L x y dx dy Q S rx ry q => by
  unfold opIsNot at q
  split at q
  · cases ry
    refine ⟨_, op_notN, rfl, ?_⟩
    rw [non_iff rx]
    exact post_bl S q
  · cases rx; cases ry
    refine ⟨_, op_notBl, _, _, rfl, rfl, ?_⟩
    rw [← Bool.beq_eq_decide_eq]
    exact post_bl S q
  · exact q.elim
end
end Rg
namespace Rg
open PySem PySem.Spec L2
open PyProof.Rows hiding St
section
variable {X : Cx}
theorem Reps.one {K : PySem.W.Frag} {w : Wd} {vs : List V} {d : D} (h : Reps K w vs [d]) : ∃ v, vs = [v] ∧ Rep K w v d := by
  cases h with
  | cons r t =>
    cases t
    exact ⟨_, rfl, r⟩
theorem Reps.two {K : PySem.W.Frag} {w : Wd} {vs : List V} {d e : D} (h : Reps K w vs [d, e]) : ∃ v u, vs = [v, u] ∧ Rep K w v d ∧ Rep K w u e := by
  cases h with
  | cons r t =>
    obtain ⟨u, rfl, q⟩ := t.one
    exact ⟨_, _, rfl, r, q⟩
theorem atI_eq {α : Type} (xs : List α) (i : Int) : L2.atI xs i = Rg.atI xs i := rfl
theorem ixN_eq (n : Nat) (i : Int) : L2.ixN n i = Rg.ixN n i := rfl
theorem Reps.atI {K : PySem.W.Frag} {w : Wd} {vs : List V} {ds : List D} {i : Int} {d : D} (r : Reps K w vs ds) (e : Rg.atI ds i = some d) : ∃ v, L2.atI vs i = some v ∧ Rep K w v d := by
  unfold Rg.atI at e
  unfold L2.atI
  rw [ixN_eq, r.length]
  cases h : Rg.ixN ds.length i with
  | none => rw [h] at e; cases e
  | some j =>
    rw [h] at e
    exact r.get e
/-! ### dicts -/
theorem kx_inj {a b : Ky} (h : kx a = kx b) : a = b := by
  cases a <;> cases b <;> simp [kx] at h
  · rw [h]
  · rw [tx_inj h]
theorem keyOf_rep {K : PySem.W.Frag} {w : Wd} {y : V} {d : D} {k : Ky} (r : Rep K w y d) (h : keyOf d = some k) : y = kV (kx k) := by
  cases r <;> simp [keyOf] at h
  · subst h
    rfl
  · subst h
    rfl
theorem keysOf_reps {K : PySem.W.Frag} {w : Wd} : ∀ {vs : List V} {ds : List D} {ks : List Ky}, Reps K w vs ds → ds.mapM keyOf = some ks → vs = (ks.map kx).map kV
  | _, _, ks, .nil, h => by
    simp at h
    subst h
    rfl
  | _, _, ks, .cons (d := d) (ds := ds) r rs, h => by
    rw [List.mapM_cons] at h
    cases e : keyOf d with
    | none => rw [e] at h; simp at h
    | some k =>
      rw [e] at h
      cases e2 : ds.mapM keyOf with
      | none => rw [e2] at h; simp at h
      | some ms =>
        rw [e2] at h
        simp at h
        subst h
        rw [keyOf_rep r e, keysOf_reps rs e2]
        rfl
def PairF {α β : Type} (K : PySem.W.Frag) (w : Wd) (f : α → β) (kvs : List (β × V)) (ds : List (α × D)) : Prop := Paired (fun p q => p.1 = f q.1 ∧ Rep K w p.2 q.2) kvs ds
theorem lookK_rep {α β : Type} [DecidableEq α] [DecidableEq β] {K : PySem.W.Frag} {w : Wd} {f : α → β} (hf : ∀ a b, f a = f b → a = b) {k : α} : ∀ {kvs : List (β × V)} {ds : List (α × D)}, PairF K w f kvs ds →
    (lookK ds k = none → valV kvs (f k) = none) ∧ ∀ d, lookK ds k = some d → ∃ v, valV kvs (f k) = some v ∧ Rep K w v d
  | _, _, .nil => ⟨fun _ => rfl, fun d h => by simp [lookK] at h⟩
  | _, _, .cons (a := p) (b := q) r t => by
    obtain ⟨ih1, ih2⟩ := lookK_rep hf (k := k) t
    by_cases e : q.1 = k
    · have e' : p.1 = f k := by rw [r.1, e]
      refine ⟨fun h => by simp [lookK, e] at h, fun d h => ?_⟩
      simp [lookK, e] at h
      subst h
      exact ⟨p.2, valV_pos e', r.2⟩
    · have e' : ¬ p.1 = f k := fun z => e (hf _ _ (r.1.symm.trans z))
      have hl : ∀ ds, lookK (q :: ds) k = lookK ds k := fun ds => by simp [lookK, e]
      rw [hl, valV_neg e']
      exact ⟨ih1, ih2⟩
theorem any_rep {α β : Type} [DecidableEq α] [DecidableEq β] {K : PySem.W.Frag} {w : Wd} {f : α → β} (hf : ∀ a b, f a = f b → a = b) {k : α} : ∀ {kvs : List (β × V)} {ds : List (α × D)}, PairF K w f kvs ds → (kvs.any fun p => decide (p.1 = f k)) = ds.any fun p => decide (p.1 = k)
  | _, _, .nil => rfl
  | _, _, .cons (a := p) (b := q) r t => by
    rw [List.any_cons, List.any_cons, any_rep hf t]
    congr 1
    rw [decide_eq_decide, r.1]
    exact ⟨fun z => hf _ _ z, fun z => by rw [z]⟩
theorem putD_rep {α β : Type} [DecidableEq α] [DecidableEq β] {K : PySem.W.Frag} {w : Wd} {f : α → β} (hf : ∀ a b, f a = f b → a = b) {k : α} {v : V} {d : D} (rv : Rep K w v d) {kvs : List (β × V)} {ds : List (α × D)} (h : PairF K w f kvs ds) : PairF K w f (putK kvs (f k) v) (putD ds k d) := by
  unfold putK putD
  rw [any_rep hf h]
  by_cases hc : (ds.any fun p => decide (p.1 = k)) = true
  · rw [if_pos hc, if_pos hc]
    clear hc
    induction h with
    | nil => exact .nil
    | @cons p q ps qs r t ih =>
      refine .cons ?_ ih
      dsimp only
      by_cases e : q.1 = k
      · have e' : p.1 = f k := by rw [r.1, e]
        rw [if_pos e, if_pos e']
        exact ⟨r.1, rv⟩
      · have e' : ¬ p.1 = f k := fun z => e (hf _ _ (r.1.symm.trans z))
        rw [if_neg e, if_neg e']
        exact r
  · rw [if_neg hc, if_neg hc]
    clear hc
    induction h with
    | nil => exact .cons ⟨rfl, rv⟩ .nil
    | cons r t ih => exact .cons r ih
theorem mapkx_inj : ∀ a b : List Ky, a.map kx = b.map kx → a = b
  | [], [], _ => rfl
  | [], _ :: _, h => by simp at h
  | _ :: _, [], h => by simp at h
  | x :: xs, y :: ys, h => by
    simp only [List.map_cons, List.cons.injEq] at h
    rw [kx_inj h.1, mapkx_inj xs ys h.2]
theorem StR.dcell {K : PySem.W.Frag} {mg : Str → Option Value} {B : Bs} {w : Wd} {H : Hp} {L : Hh} (S : StR K mg B w H L) {v : V} {n : Nat} {c : Cell} (r : Rep K w v (.ref n)) (e : L[n]? = some c) : ∃ a o, v = .ref a ∧ w.io[n]? = some a ∧ H a = some o ∧ CellR K mg w (some o) c := by
  cases r with
  | @ref a n ha =>
    have := S.cell n a _ ha e
    cases h : H a with
    | none => rw [h] at this; cases this
    | some o =>
      rw [h] at this
      exact ⟨a, o, rfl, ha, h, this⟩
theorem dget_ok {B : Bs} {w : Wd} {H : Hp} {L : Hh} {x y : V} {dx dy : D} {o : Option D} (S : StR X.K X.mg B w H L) (rx : Rep X.K w x dx) (ry : Rep X.K w y dy) (h : dGet L dx dy = some o) : ∃ a r, x = .ref a ∧ DGet H a y r ∧ (o = none → r = none) ∧ ∀ d, o = some d → ∃ v, r = some v ∧ Rep X.K w v d := by
  unfold dGet at h
  split at h
  · rename_i n
    split at h
    · rename_i kvs hk
      cases e : keyOf dy with
      | none => rw [e] at h; cases h
      | some k =>
        rw [e] at h
        simp only [Option.map_some, Option.some.injEq] at h
        subst h
        obtain ⟨a, ho, rfl, _, h2, c⟩ := S.dcell rx hk
        cases c with
        | dK r =>
          obtain ⟨l1, l2⟩ := lookK_rep (f := kx) (fun _ _ => kx_inj) (k := k) r
          rw [keyOf_rep ry e]
          exact ⟨a, _, rfl, DGet.k h2, l1, l2⟩
    · rename_i kvs hk
      cases e : keysOf dy with
      | none => rw [e] at h; cases h
      | some k =>
        rw [e] at h
        simp only [Option.map_some, Option.some.injEq] at h
        subst h
        obtain ⟨a, ho, rfl, _, h2, c⟩ := S.dcell rx hk
        cases c with
        | dT r =>
          cases ry with
          | @tup b vs ds hv rs =>
            obtain ⟨l1, l2⟩ := lookK_rep (f := List.map kx) mapkx_inj (k := k) r
            have ev := keysOf_reps rs e
            subst ev
            exact ⟨a, _, rfl, DGet.t h2 (S.sub _ _ hv), l1, l2⟩
          | _ => cases e
    · cases h
  · cases h
def rIxDc : R2 := fun x y H Q => ∃ a v, x = .ref a ∧ DGet H a y (some v) ∧ Q v H
theorem ix_dct (hu : X.A.units + 1 < cLine) : IxR X rIxDc := by
  intro value slice pins s σ H x y v u Q I rx ry h hs
  obtain ⟨a, z, rfl, g, q⟩ := h
  obtain rfl : v = Value.ref a := rx
  exact tail_any (dict_typeIs I g) PySem.F.slot_dict_getitem.lookup (d_getItem hu I g ry fun w' s3 I3 rw' => ⟨z, H, I3, rw', q⟩) hs
theorem call_lenTT : CallR X (.builtin "len") (fun xs H Q => ∃ d kvs, xs = [V.ref d] ∧ H d = some (.dT kvs) ∧ Q (.int (kvs.length : Int)) H) := by
  intro pins s σ H xs us Q I r h
  obtain ⟨d, kvs, rfl, hd, q⟩ := h
  exact call_len_dT pins s σ H _ us Q I r ⟨d, kvs, rfl, hd, q⟩
/-! ### one argument: a built-in by its one value -/
def op1N (g : Op1) : OpN := fun xs L => match xs with
  | [x] => g x L
  | _ => none
theorem eNary_one (g : Op1) (f : M D) : eNary (op1N g) (aCons f aNil) = eUn g f := by
  funext env L
  simp only [eNary, eUn, aCons, aNil]
  cases f env L with
  | none => rfl
  | some p =>
    obtain ⟨r, L'⟩ := p
    cases r <;> rfl
/-- as CallD, of one value -/
def Call1 (X : Cx) (f : Value) (g : Op1) : Prop := ∀ (B : Bs) (w : Wd) (σ : L2.St) (W : WX) (H : Hp) (L : Hh) (x : V) (d : D) (Q : VK), StR X.K X.mg B w H L → Rep X.K w x d → PostE X.K X.mg B w σ W (g d L) Q → ∃ r, CallR X f r ∧ r [x] H Q
theorem Call1.n {f : Value} {g : Op1} (h : Call1 X f g) : CallD X f (op1N g) := fun B w σ W H L xs ds Q S rx q => by
  cases rx with
  | nil => exact q.elim
  | cons r t =>
    cases t with
    | nil => exact h B w σ W H L _ _ Q S r q
    | cons _ _ => exact q.elim
theorem pde_call1 {x : Str} {id : String} {g : Op1} {e : Expr} {f : M D} {p pos : Pos} (hc : Call1 X (.builtin id) g) (hv : bootBuiltins x = some (.builtin id)) (hm : X.mg x = none) (ha : PDE X e f) (hg : Gl X x := by rfl) (hn : x ≠ "__name__" := by decide) (hdb : (x == ("__debug__" : Str)) = false := by decide)
    (he : starEach [e] X.env = (false, eval e X.env) :: starEach [] X.env := by rfl) (hpl : (backTo pos (starEach [] X.env)).any (·.1) = false := by rfl) : PDE X (.Call (.Name x p) [e] [] pos) (eUn g f) := by
  rw [← eNary_one]
  exact pde_callB hc.n hv hm (pda_cons ha pda_nil he) hg hn hdb he hpl
theorem pde_call1T {x : Str} {T : String} {g : Op1} {e : Expr} {f : M D} {p pos : Pos} (hc : Call1 X (.type T) g) (hv : bootBuiltins x = some (.type T)) (hm : X.mg x = none) (ha : PDE X e f) (hg : Gl X x := by rfl) (hn : x ≠ "__name__" := by decide) (hdb : (x == ("__debug__" : Str)) = false := by decide)
    (he : starEach [e] X.env = (false, eval e X.env) :: starEach [] X.env := by rfl) (hpl : (backTo pos (starEach [] X.env)).any (·.1) = false := by rfl) : PDE X (.Call (.Name x p) [e] [] pos) (eUn g f) := by
  rw [← eNary_one]
  exact pde_callTy hc.n hv hm (pda_cons ha pda_nil he) hg hn hdb he hpl
/-! ### len -/
theorem call_lenT : CallR X (.builtin "len") (fun xs H Q => ∃ d kvs, xs = [V.ref d] ∧ H d = some (.dK kvs) ∧ Q (.int (kvs.length : Int)) H) := by
  intro pins s σ H xs us Q I r h
  obtain ⟨d, kvs, rfl, hd, q⟩ := h
  exact call_lenD pins s σ H _ us Q I r ⟨d, kvs, rfl, hd, q⟩
theorem Paired.len {α β : Type} {R : α → β → Prop} : ∀ {xs : List α} {ys : List β}, Paired R xs ys → xs.length = ys.length
  | _, _, .nil => rfl
  | _, _, .cons _ t => by simp [Paired.len t]
theorem callD_len : Call1 X (.builtin "len") opLen := fun B w σ W H L x d Q S rx q => by
  unfold opLen at q
  split at q
  · rename_i ns
    cases rx with
    | @scr a _ h =>
      refine ⟨_, call_len_seq, a, _, rfl, .inl (S.sub.seq h), ?_⟩
      rw [List.length_map]
      exact post_int S q
  · rename_i s
    cases rx with
    | str h =>
      split at q
      · rename_i hl
        refine ⟨_, call_len_str, _, rfl, ?_, ?_⟩
        · rw [tx_len]
          exact le_line hl
        · rw [tx_len]
          exact post_int S q
      · exact q.elim
  · rename_i n
    split at q
    · rename_i xs hx
      obtain ⟨a, vs, rfl, _, h2, rs⟩ := S.lcell rx hx
      refine ⟨_, call_len_seq, a, vs, rfl, .inl (SqL.of h2), ?_⟩
      rw [rs.length]
      exact post_int S q
    · rename_i kvs hx
      cases rx with
      | @ref a _ ha =>
        have := S.cell n a _ ha hx
        cases h : H a with
        | none => rw [h] at this; cases this
        | some o =>
          rw [h] at this
          cases this with
          | @dK kv _ r =>
            refine ⟨_, call_lenT, a, kv, rfl, h, ?_⟩
            rw [Paired.len r]
            exact post_int S q
    · rename_i kvs hx
      cases rx with
      | @ref a _ ha =>
        have := S.cell n a _ ha hx
        cases h : H a with
        | none => rw [h] at this; cases this
        | some o =>
          rw [h] at this
          cases this with
          | @dT kv _ r =>
            refine ⟨_, call_lenTT, a, kv, rfl, h, ?_⟩
            rw [Paired.len r]
            exact post_int S q
    · exact q.elim
  · split at q
    · rename_i xs e
      obtain ⟨a, vs, rfl, h2, rs⟩ := S.seqOf rx e
      refine ⟨_, call_len_seq, a, vs, rfl, h2.imp SqL.of SqT.of, ?_⟩
      rw [rs.length]
      exact post_int S q
    · exact q.elim
/-! ### x[i] -/
theorem pde_ix {a b : Expr} {fa fb : M D} {pos : Pos} (ha : PDE X a fa) (hb : PDE X b fb) (hu : X.A.units + 1 < cLine) (hs : PlainIx b := by exact fun _ _ => rfl) : PDE X (.Subscript a b pos) (eBin opIx fa fb) := fun W tk =>
  (pe_ix (ix_seq.or (ix_dct hu)) (ha W tk) (hb W tk) hs).imp fun σ H Q h => bin_imp (r := fun x y H Q => rIx X.K x y H Q ∨ rIxDc x y H Q) (fun B w σ W H L x y dx dy Q S rx ry q => by
    unfold opIx at q
    split at q
    · rename_i s i
      cases rx with
      | str hs =>
        cases ry
        split at q
        · rename_i hl
          split at q
          · rename_i c e
            refine .inl (.inr (.inr ⟨_, _, c, rfl, rfl, ?_, ?_, ?_⟩))
            · rw [tx_len]
              exact le_line hl
            · show L2.atI (tx s).cps.toList i = some c
              rw [atI_eq]
              simpa [tx] using e
            · have hc : okT [c] = true := okT_sub hs fun z hz => by
                rw [List.mem_singleton.mp hz]
                unfold Rg.atI at e
                cases h : Rg.ixN s.length i with
                | none => rw [h] at e; cases e
                | some j =>
                  rw [h] at e
                  exact List.mem_of_getElem? e
              exact post_rep (d := .str [c]) S (.str hc) q
          · exact q.elim
        · exact q.elim
    · rename_i ns i
      cases rx with
      | @scr a _ h =>
        cases ry
        split at q
        · rename_i c e
          refine .inl (.inl ⟨a, _, _, .int c, rfl, rfl, S.sub.seq h, ?_, post_int S q⟩)
          rw [atI_eq]
          unfold Rg.atI at e ⊢
          rw [List.length_map]
          cases h : Rg.ixN ns.length i with
          | none => rw [h] at e; cases e
          | some j =>
            rw [h] at e
            show (ns.map V.int)[j]? = _
            rw [List.getElem?_map]
            have e' : ns[j]? = some c := e
            rw [e']
            rfl
        · exact q.elim
    · rename_i n y
      split at q
      · rename_i xs hx
        split at q
        · rename_i i
          split at q
          · rename_i d e2
            obtain ⟨a, vs, rfl, _, h2, rs⟩ := S.lcell rx hx
            obtain ⟨v, e3, rv⟩ := rs.atI e2
            cases ry
            exact .inl (.inl ⟨a, vs, _, v, rfl, rfl, SqL.of h2, e3, post_rep S rv q⟩)
          · exact q.elim
        · exact q.elim
      · split at q
        · rename_i d e2
          obtain ⟨a, r, rfl, g, _, hr⟩ := dget_ok S rx ry e2
          obtain ⟨v, rfl, rv⟩ := hr d rfl
          exact .inr ⟨a, v, rfl, g, post_rep S rv q⟩
        · exact q.elim
    · cases ry
      split at q
      · rename_i xs e
        split at q
        · rename_i d e2
          obtain ⟨a, vs, rfl, h2, rs⟩ := S.seqOf rx e
          obtain ⟨v, e3, rv⟩ := rs.atI e2
          rcases h2 with h2 | h2
          · exact .inl (.inl ⟨a, vs, _, v, rfl, rfl, SqL.of h2, e3, post_rep S rv q⟩)
          · exact .inl (.inr (.inl ⟨a, vs, _, v, rfl, rfl, SqT.of h2, e3, post_rep S rv q⟩))
        · exact q.elim
      · exact q.elim
    · exact q.elim) σ H Q h
/-! ### int, list, tuple, max, min -/
theorem callD_int : Call1 X (.type "int") opInt := fun B w σ W H L x d Q S rx q => by
  unfold opInt at q
  split at q
  · cases rx
    exact ⟨_, call_int1, .inl ⟨_, rfl, post_int S q⟩⟩
  · cases rx
    exact ⟨_, call_int1, .inr ⟨_, rfl, post_int S q⟩⟩
  · exact q.elim
theorem callD_tuple : Call1 X (.type "tuple") opTuple := fun B w σ W H L x d Q S rx q => by
  unfold opTuple at q
  split at q
  · rename_i xs e
    obtain ⟨a, vs, rfl, h2, rs⟩ := S.seqOf rx e
    refine ⟨_, call_tuple_of, a, vs, rfl, ?_⟩
    rcases h2 with h2 | h2
    · exact .inl ⟨SqL.of h2, new_tup S rs q⟩
    · refine .inr ⟨SqT.of h2, ?_⟩
      cases rx with
      | tup h r =>
        simp only [Rg.seqOf, Option.some.injEq] at e
        subst e
        exact post_rep S (.tup h r) q
      | lst h r =>
        rw [S.sub _ _ h] at h2
        cases h2
      | @ref _ n ha =>
        simp only [Rg.seqOf] at e
        have hx : L[n]? = some (.lst xs) := by
          simp only [Rg.look] at e
          split at e
          · rename_i ys hy
            cases e
            exact hy
          · cases e
        obtain ⟨a', vs', e1, _, h3, _⟩ := S.lcell (.ref ha) hx
        cases e1
        rw [h3] at h2
        cases h2
      | _ => cases e
  · exact q.elim
theorem callD_max (hc : X.calm = true) : CallD X (.builtin "max") opMax := fun B w σ W H L xs ds Q S rx q => by
  unfold opMax at q
  split at q
  · obtain ⟨v, u, rfl, r1, r2⟩ := rx.two
    cases r1; cases r2
    exact ⟨_, call_max2 hc, _, _, rfl, post_int S q⟩
  · exact q.elim
theorem callD_min (hc : X.calm = true) : CallD X (.builtin "min") opMin := fun B w σ W H L xs ds Q S rx q => by
  unfold opMin at q
  split at q
  · obtain ⟨v, u, rfl, r1, r2⟩ := rx.two
    cases r1; cases r2
    exact ⟨_, call_min2 hc, _, _, rfl, post_int S q⟩
  · exact q.elim
/-! ### isinstance -/
def tyN : Ty → String
  | .int => "int"
  | .bool => "bool"
  | .str => "str"
  | .list => "list"
  | .tuple => "tuple"
theorem kit_all : ∀ t : Ty, kitB "NoneType" (tyN t) = some false ∧ kitB "bool" (tyN t) = some (decide (t = .int ∨ t = .bool)) ∧ kitB "int" (tyN t) = some (decide (t = .int)) ∧ kitB "str" (tyN t) = some (decide (t = .str)) ∧
    kitB "tuple" (tyN t) = some (decide (t = .tuple)) ∧ kitB "list" (tyN t) = some (decide (t = .list)) ∧ kitB "dict" (tyN t) = some false
  | .int => by decide +kernel
  | .bool => by decide +kernel
  | .str => by decide +kernel
  | .list => by decide +kernel
  | .tuple => by decide +kernel
theorem isTy_ok {B : Bs} {w : Wd} {H : Hp} {L : Hh} {x : V} {d : D} {t : Ty} {b : Bool} (S : StR X.K X.mg B w H L) (rx : Rep X.K w x d) (h : isTy L t d = some b) : ∃ u, TyX X.K H x u ∧ PySem.W.kitOne X.K u (.type (tyN t)) = some b := by
  obtain ⟨k1, k2, k3, k4, k5, k6, k7⟩ := kit_all t
  cases rx with
  | non =>
    cases h
    exact ⟨_, .base .non, kit_ty k1⟩
  | bl _ =>
    cases h
    exact ⟨_, .base (.bl _), kit_ty k2⟩
  | int _ =>
    cases h
    exact ⟨_, .base (.int _), kit_ty k3⟩
  | str _ =>
    cases h
    exact ⟨_, .base (.str _), kit_ty k4⟩
  | tup hv _ =>
    cases h
    exact ⟨_, .base (.tup (S.sub _ _ hv)), kit_ty k5⟩
  | lst hv _ =>
    cases h
    exact ⟨_, .base (.lst (S.sub _ _ hv)), kit_ty k6⟩
  | scr _ => cases h
  | exn => cases h
  | exf _ _ _ _ => cases h
  | @ref a n ha =>
    simp only [isTy] at h
    split at h
    · rename_i ds hx
      cases h
      obtain ⟨a', vs, e, _, h2, _⟩ := S.lcell (.ref ha) hx
      cases e
      exact ⟨_, .base (.lst h2), kit_ty k6⟩
    · rename_i kvs hx
      cases h
      have := S.cell n a _ ha hx
      cases h : H a with
      | none => rw [h] at this; cases this
      | some o =>
        rw [h] at this
        cases this with
        | dK r => exact ⟨_, .base (.dK h), kit_ty k7⟩
    · rename_i kvs hx
      cases h
      have := S.cell n a _ ha hx
      cases h : H a with
      | none => rw [h] at this; cases this
      | some o =>
        rw [h] at this
        cases this with
        | dT r => exact ⟨_, .base (.dT h), kit_ty k7⟩
    · cases h
theorem pde_isTy (t : Ty) {x : Str} {e : Expr} {f : M D} {p p2 pos : Pos} (hm : X.mg "isinstance" = none) (hmt : X.mg x = none) (ha : PDE X e f) (hx : bootBuiltins x = some (.type (tyN t)) := by decide +kernel) (hg : Gl X "isinstance" := by rfl) (hgt : Gl X x := by rfl) (hn : x ≠ "__name__" := by decide) (hdb : (x == ("__debug__" : Str)) = false := by decide)
    (he : starEach [e, .Name x p2] X.env = (false, eval e X.env) :: starEach [.Name x p2] X.env := by rfl) (he2 : starEach [.Name x p2] X.env = (false, eval (.Name x p2) X.env) :: starEach [] X.env := by rfl) (hpl : (backTo pos (starEach [.Name x p2] X.env)).any (·.1) = false := by rfl) :
    PDE X (.Call (.Name "isinstance" p) [e, .Name x p2] [] pos) (eUn (opIsTy t) f) := fun W tk =>
  (pe_callB call_isi hg hm (by decide +kernel) (pa_cons (ha W tk) (pa_cons (pe_bltn (v := .ty (tyN t)) hgt hmt hx rfl hn hdb) pa_nil he2) he) (by decide) (by decide) he hpl).imp fun σ H Q ⟨B, w, env, L, S, R, h⟩ => by
    refine tE_bnd S R h fun w1 v H1 d L1 l1 S1 r1 h1 => ?_
    unfold opIsTy at h1
    split at h1
    · rename_i b e
      obtain ⟨u, ty, k⟩ := isTy_ok S1 r1 e
      exact ⟨v, .ty (tyN t), u, _, b, rfl, .ty _, ty, k, post_bl S1 h1⟩
    · exact h1.elim
end
end Rg
namespace Rg
open PySem PySem.Spec L2
open PyProof.Rows hiding St
section
variable {X : Cx}
/-! ### methods of lists -/
/-- a method by values, the rule chosen by the data -/
def MtD (X : Cx) (id : String) (g : D → OpN) : Prop := ∀ (B : Bs) (w : Wd) (σ : L2.St) (W : WX) (H : Hp) (L : Hh) (x : V) (xs : List V) (dx : D) (ds : List D) (Q : VK), StR X.K X.mg B w H L → Rep X.K w x dx → Reps X.K w xs ds → PostE X.K X.mg B w σ W (g dx ds L) Q → ∃ r, MtR X id r ∧ r x xs H Q
def rAnyM (X : Cx) (id : String) : V → List V → Hp → VK → Prop := fun x xs H Q => ∃ r, MtR X id r ∧ r x xs H Q
theorem mtR_any {id : String} : MtR X id (rAnyM X id) := fun pins s σ H x xs v us Q I rx rs ⟨_, ho, q⟩ => ho pins s σ H x xs v us Q I rx rs q
theorem mtR_of {id : String} {r : V → List V → Hp → VK → Prop} (h : MtM X id r) : MtR X id r := h
theorem pde_mtL {name : Str} {id : String} {g : D → OpN} {o e : Expr} {es : List Expr} {fo : M D} {fa : M (List D)} {apos cpos : Pos} (hm : MtD X id g) (slot : Slot "list" name id) (hty : typeOf (.builtin id) = pure (.type "method_descriptor")) (ho : PDE X o fo) (ha : PDA X (e :: es) fa)
    (hbase : attributeBase o name X.env (eval o X.env) = eval o X.env := by rfl)
    (hfew : ((backTo cpos (starEach (e :: es) X.env)).all (fun x => !x.1) && (backToKw cpos (keywordEach [] X.env)).all (fun x => x.1.isSome)
      && decide ((e :: es).length + ([] : List Keyword).length + (if ([] : List Keyword).isEmpty then 0 else 1) < 30)) = true := by rfl)
    (hline : (apos.endLine == cpos.line) = true := by rfl) (hs : starEach (e :: es) X.env = (false, eval e X.env) :: starEach es X.env := by rfl) (hplain : (backTo cpos (starEach es X.env)).any (·.1) = false := by rfl) :
    PDE X (.Call (.Attribute o name apos) (e :: es) [] cpos) (eMtL g fo fa) := fun W tk =>
  (pe_bm PySem.F.plainAttrs_list slot hty mtR_any (ho W tk) (ha W tk) hbase hfew hline hs hplain).imp fun σ H Q ⟨B, w, env, L, S, R, h⟩ => by
    refine tE_bnd S R h fun w1 v H1 d L1 l1 S1 r1 h1 => ?_
    split at h1
    · exact h1.elim
    · rename_i xs e
      obtain ⟨a, vs, rfl, h2, rs⟩ := S1.look r1 e
      refine ⟨.inl ⟨rfl, vs, SqL.of h2⟩, ?_⟩
      refine tA_bnd S1 (R.mono l1) h1 fun w2 us H2 ds L2 l2 S2 r2 h2 => ?_
      exact hm _ _ _ _ _ _ _ _ _ _ _ S2 (r1.mono l2) r2 h2
theorem pde_mtL0 {name : Str} {id : String} {g : D → OpN} {o : Expr} {fo : M D} {apos cpos : Pos} (hm : MtD X id g) (slot : Slot "list" name id) (hty : typeOf (.builtin id) = pure (.type "method_descriptor")) (ho : PDE X o fo)
    (hbase : attributeBase o name X.env (eval o X.env) = eval o X.env := by rfl) (hline : (apos.endLine == cpos.line) = true := by rfl) : PDE X (.Call (.Attribute o name apos) [] [] cpos) (eMtL g fo aNil) := fun W tk =>
  (pe_bm0 PySem.F.plainAttrs_list slot hty mtR_any (ho W tk) hbase hline).imp fun σ H Q ⟨B, w, env, L, S, R, h⟩ => by
    refine tE_bnd S R h fun w1 v H1 d L1 l1 S1 r1 h1 => ?_
    split at h1
    · exact h1.elim
    · rename_i xs e
      obtain ⟨a, vs, rfl, h2, rs⟩ := S1.look r1 e
      refine ⟨.inl ⟨rfl, vs, SqL.of h2⟩, ?_⟩
      exact hm _ _ _ _ _ _ _ _ _ _ _ S1 r1 .nil h1
theorem mtd_append : MtD X "list.append" mAppend := fun B w σ W H L x xs dx ds Q S rx rs q => by
  unfold mAppend at q
  split at q
  · rename_i n y
    split at q
    · rename_i ys hy
      split at q
      · rename_i hl
        obtain ⟨a, vs, rfl, ha, h2, r2⟩ := S.lcell rx hy
        obtain ⟨v, rfl, rv⟩ := rs.one
        refine ⟨_, mtR_of mt_append, a, vs, v, rfl, rfl, h2, lt_line (m := 10000) (by rw [r2.length]; exact hl), ?_⟩
        exact q w _ _ (Wd.le.refl _) (S.store ha (CellR.lst (r2.append (.cons rv .nil)))) .non
      · exact q.elim
    · exact q.elim
  · exact q.elim
theorem Reps.last {K : PySem.W.Frag} {w : Wd} {vs : List V} {ds : List D} {d : D} (r : Reps K w vs ds) (e : ds.getLast? = some d) : ∃ v, vs[vs.length - 1]? = some v ∧ Rep K w v d := by
  rw [List.getLast?_eq_getElem?, ← r.length] at e
  exact r.get e
theorem mtd_pop : MtD X "list.pop" mPop := fun B w σ W H L x xs dx ds Q S rx rs q => by
  unfold mPop at q
  split at q
  · rename_i n
    split at q
    · rename_i ys hy
      split at q
      · rename_i y e
        obtain ⟨a, vs, rfl, ha, h2, r2⟩ := S.lcell rx hy
        cases rs
        obtain ⟨v, e2, rv⟩ := r2.last e
        refine ⟨_, mtR_of mt_pop, a, vs, v, rfl, rfl, h2, e2, ?_⟩
        exact q w _ _ (Wd.le.refl _) (S.store ha (CellR.lst r2.dropLast)) rv
      · exact q.elim
    · exact q.elim
  · rename_i n i
    split at q
    · rename_i ys hy
      split at q
      · rename_i k hk
        split at q
        · rename_i y e
          obtain ⟨a, vs, rfl, ha, h2, r2⟩ := S.lcell rx hy
          obtain ⟨v, rfl, rv⟩ := rs.one
          cases rv
          obtain ⟨v, e2, rv⟩ := r2.get e
          have hk' : L2.ixN vs.length i = some k := by rw [ixN_eq, r2.length]; exact hk
          obtain ⟨h3, h4, h5, h6⟩ := L2.ixN_seq hk'
          have hz : vs.length ≤ sizeLine ∨ True := .inr trivial
          by_cases hb : -(2 ^ 63) ≤ i ∧ i < 2 ^ 63
          · refine ⟨_, mtR_of mt_popAt, a, vs, i, k, v, rfl, rfl, h2, hb.1, hb.2, h3, e2, ?_⟩
            exact q w _ _ (Wd.le.refl _) (S.store ha (CellR.lst (r2.eraseIdx k))) rv
          · -- a list so long cannot be: read off the state
            refine ⟨fun x xs H Q => ∃ a vs, x = .ref a ∧ H a = some (.lst vs) ∧ ¬ (-(2 ^ 63) ≤ i ∧ i < 2 ^ 63) ∧ -(vs.length : Int) ≤ i ∧ i < vs.length, fun pins s σ H x xs v us Q I rx rs ⟨a, vs, e1, e2, e3, e4, e5⟩ => ?_, a, vs, rfl, h2, hb, h5, h6⟩
            obtain ⟨z, _⟩ := I.lstM e2
            rw [sizeLine_eq] at z
            exfalso
            apply e3
            omega
        · exact q.elim
      · exact q.elim
    · exact q.elim
  · exact q.elim
/-! ### name op= e -/
theorem pds_aug (i : Nat) {x : Str} {e : Expr} {f : M D} {op : Operator} {g : Op2} {r : TIp} {pos pos' : Pos} (ho : PIp X op r) (hd : DOp2 X r g) (hN : X.N.Nodup) (he : PDE X e f) (hi : X.N[i]? = some x := by rfl) (hx : Loc X.env.scope x := by first | exact Or.inl rfl | exact Or.inr rfl) (hf : X.fn x = true ∨ X.env.scope.names.lookup x = some .local := by first | exact .inl rfl | exact .inr rfl | assumption) :
    PDS X (.AugAssign (.Name x pos') op e pos) (sAug i g f) := fun W tk => (ps_aug hN hi hx (he W tk) ho hf).imp fun D σ H ⟨B, w, env, L, S, R, h⟩ => by
  simp only [sAug] at h
  split at h
  · rename_i d e1
    obtain ⟨v, e2, rv⟩ := R.2 i d e1
    refine ⟨v, e2, ?_⟩
    refine tE_sb S R h fun w1 u H1 d2 L1 l1 S1 r1 h1 => ?_
    refine hd B w1 σ W H1 L1 v u d d2 _ S1 (rv.mono l1) r1 ?_
    revert h1
    cases g d d2 L1 with
    | none => exact fun h => h
    | some p =>
      obtain ⟨r', L'⟩ := p
      cases r' with
      | ok z => exact fun h1 w2 z' H2 l2 S2 r2 => h1 w2 _ H2 l2 S2 ((R.mono (l1.trans l2)).set i r2)
      | ex e => exact fun h1 w2 H2 cls dd l2 S2 x => h1 w2 σ H2 cls dd l2 S2 (R.mono (l1.trans l2)) x
  · exact h.elim
theorem dop_ipI {g : Int → Int → Int} : DOp2 X (ipI g) (opI g) := fun B w σ W H L x y dx dy Q S rx ry q => by
  cases rx with
  | int i =>
    cases ry with
    | int j => exact ⟨i, j, rfl, rfl, post_int S q⟩
    | _ => exact q.elim
  | _ => exact q.elim
/-! ### what is walked -/
section
variable (K : PySem.W.Frag) (mg : Str → Option Value)
def SrcR (B : Bs) (w : Wd) (J : It) (s : Src) : Prop := ∀ w2 H2 L2, w.le w2 → StR K mg B w2 H2 L2 → s.stays L2 = true → ∀ i, (i < s.xs.length → J.go i H2 ∧ ∀ x H', J.yld i H2 x H' → ∃ w3 d, w2.le w3 ∧ StR K mg B w3 H' L2 ∧ s.xs[i]? = some d ∧ Rep K w3 x d) ∧ (s.xs.length ≤ i → J.stop i H2)
def PostI (B : Bs) (w : Wd) (σ : L2.St) (W : WX) (r : Ro Src) (Q : It → Hp → Prop) : Prop := match r with
  | none => False
  | some (.ok s, L') => ∀ w' J H', w.le w' → StR K mg B w' H' L' → SrcR K mg B w' J s → Q J H'
  | some (.ex e, L') => ∀ w' H' cls dd, w.le w' → StR K mg B w' H' L' → ExR K mg w' H' cls dd e → W cls dd σ H'
def tI1 (W : WX) (f : Ms) : TI := fun σ H Q => ∃ B w env L, StR K mg B w H L ∧ EnvR K w env σ ∧ PostI K mg B w σ W (f env L) Q
end
def PDI (X : Cx) (tg e : Expr) (f : Ms) : Prop := ∀ W, Takes X W → PI X tg e (tI1 X.K X.mg W f)
theorem _root_.L2.PI.imp {tg e : Expr} {t t' : TI} (h : PI X tg e t) (hi : ∀ σ H Q, t' σ H Q → t σ H Q) : PI X tg e t' := ⟨fun pins s σ H Q I q => h.run pins s σ H Q I (hi σ H Q q)⟩
theorem PostI.le {K : PySem.W.Frag} {mg : Str → Option Value} {B : Bs} {w w1 : Wd} {σ : L2.St} {W : WX} {r : Ro Src} {Q : It → Hp → Prop} (l : w.le w1) (h : PostI K mg B w σ W r Q) : PostI K mg B w1 σ W r Q := by
  match r, h with
  | some (.ok d, L'), h => exact fun w' v H' l' => h w' v H' (l.trans l')
  | some (.ex e, L'), h => exact fun w' H' cls dd l' => h w' H' cls dd (l.trans l')
theorem tE_bndI {K : PySem.W.Frag} {mg : Str → Option Value} {B : Bs} {w : Wd} {σ : L2.St} {W : WX} {f : M D} {k : D → Hh → Ro Src} {env : Env} {L : Hh} {H : Hp} {Q : It → Hp → Prop} {Q1 : VK} (S : StR K mg B w H L) (R : EnvR K w env σ) (h : PostI K mg B w σ W (bnd (f env L) k) Q)
    (hk : ∀ w' v H' d L', w.le w' → StR K mg B w' H' L' → Rep K w' v d → PostI K mg B w' σ W (k d L') Q → Q1 v H') : tE K mg W f σ H Q1 := by
  refine ⟨B, w, env, L, S, R, ?_⟩
  revert h
  cases f env L with
  | none => exact fun h => h
  | some p =>
    obtain ⟨r, L'⟩ := p
    cases r with
    | ok d => exact fun h w' v H' l S' r' => hk w' v H' d L' l S' r' (h.le l)
    | ex e => exact fun h => h
/-- an iterator of some kind over values -/
theorem _root_.L2.PI.orI {tg e : Expr} {t : TI} (h : ∀ σ H Q, t σ H Q → ∃ t', PI X tg e t' ∧ t' σ H Q) : PI X tg e t := ⟨fun pins s σ H Q I q => by
  obtain ⟨t', h', q'⟩ := h σ H Q q
  exact h'.run pins s σ H Q I q'⟩
theorem src_list {B : Bs} {w : Wd} {H : Hp} {L : Hh} {v : V} {n : Nat} {ds : List D} (S : StR X.K X.mg B w H L) (r : Rep X.K w v (.ref n)) (e : L[n]? = some (.lst ds)) : ∃ a vs, v = .ref a ∧ SqL X.K H a vs ∧ SrcR X.K X.mg B w (Itl X.K a) (.cell n ds) := by
  obtain ⟨a, vs, rfl, ha, h2, r2⟩ := S.lcell r e
  refine ⟨a, vs, rfl, SqL.of h2, fun w2 H2 L2 l2 S2 hst i => ?_⟩
  have hst' : L2[n]? = some (.lst ds) := of_decide_eq_true hst
  obtain ⟨a', us, e1, _, h3, r3⟩ := S2.lcell (.ref (l2.io ha)) hst'
  cases e1
  refine ⟨fun hi => ?_, fun hi => ⟨us, SqL.of h3, by rw [r3.length]; exact hi⟩⟩
  obtain ⟨d, hd⟩ : ∃ d, ds[i]? = some d := ⟨ds[i], List.getElem?_eq_getElem hi⟩
  obtain ⟨u, hu, ru⟩ := r3.get hd
  refine ⟨⟨us, u, SqL.of h3, hu⟩, fun x H' y => ?_⟩
  obtain ⟨rfl, y⟩ := y
  have hx := y us (SqL.of h3)
  rw [hu] at hx
  cases hx
  exact ⟨w2, d, Wd.le.refl _, S2, hd, ru⟩
theorem src_flst {B : Bs} {w : Wd} {H : Hp} {L : Hh} {v : V} {ds : List D} (S : StR X.K X.mg B w H L) (r : Rep X.K w v (.lst ds)) : ∃ a vs, v = .ref a ∧ SqL X.K H a vs ∧ SrcR X.K X.mg B w (Itl X.K a) (.items ds) := by
  cases r with
  | @lst a vs _ hv rs =>
    refine ⟨a, vs, rfl, SqL.of (S.sub _ _ hv), fun w2 H2 L2 l2 S2 _ i => ?_⟩
    have h3 : H2 a = some (.lst vs) := S2.sub _ _ (l2.1 _ _ hv)
    have r3 := rs.mono l2
    refine ⟨fun hi => ?_, fun hi => ⟨vs, SqL.of h3, by rw [r3.length]; exact hi⟩⟩
    obtain ⟨d, hd⟩ : ∃ d, ds[i]? = some d := ⟨ds[i], List.getElem?_eq_getElem hi⟩
    obtain ⟨u, hu, ru⟩ := r3.get hd
    refine ⟨⟨vs, u, SqL.of h3, hu⟩, fun x H' y => ?_⟩
    obtain ⟨rfl, y⟩ := y
    have hx := y vs (SqL.of h3)
    rw [hu] at hx
    cases hx
    exact ⟨w2, d, Wd.le.refl _, S2, hd, ru⟩
theorem src_tup {B : Bs} {w : Wd} {H : Hp} {L : Hh} {v : V} {ds : List D} (S : StR X.K X.mg B w H L) (r : Rep X.K w v (.tup ds)) : ∃ a vs, v = .ref a ∧ SqT X.K H a vs ∧ SrcR X.K X.mg B w (Itt X.K a) (.items ds) := by
  cases r with
  | @tup a vs _ hv rs =>
    refine ⟨a, vs, rfl, SqT.of (S.sub _ _ hv), fun w2 H2 L2 l2 S2 _ i => ?_⟩
    have h3 : H2 a = some (.tup vs) := S2.sub _ _ (l2.1 _ _ hv)
    have r3 := rs.mono l2
    refine ⟨fun hi => ?_, fun hi => ⟨vs, SqT.of h3, by rw [r3.length]; exact hi⟩⟩
    obtain ⟨d, hd⟩ : ∃ d, ds[i]? = some d := ⟨ds[i], List.getElem?_eq_getElem hi⟩
    obtain ⟨u, hu, ru⟩ := r3.get hd
    refine ⟨⟨vs, u, SqT.of h3, hu⟩, fun x H' y => ?_⟩
    obtain ⟨rfl, y⟩ := y
    have hx := y vs (SqT.of h3)
    rw [hu] at hx
    cases hx
    exact ⟨w2, d, Wd.le.refl _, S2, hd, ru⟩
theorem src_str {B : Bs} {w : Wd} {x : Tx} (hx : okT x = true) : SrcR X.K X.mg B w (Its (tx x)) (.items (x.map fun c => .str [c])) := fun w2 H2 L2 l2 S2 _ i => by
  have hs : (tx x).cps.size = x.length := by simp [tx]
  refine ⟨fun hi => ⟨?_, fun v H' y => ?_⟩, fun hi => ?_⟩
  · show i < (tx x).cps.size
    rw [hs]
    simpa [Src.xs] using hi
  · obtain ⟨rfl, c, hc, rfl⟩ := y
    have hc' : x[i]? = some c := by simpa [tx] using hc
    refine ⟨w2, .str [c], Wd.le.refl _, S2, by simp [Src.xs, hc'], ?_⟩
    refine .str (x := [c]) (okT_sub hx fun z hz => ?_)
    rw [List.mem_singleton.mp hz]
    exact List.mem_of_getElem? hc'
  · show (tx x).cps.size ≤ i
    rw [hs]
    simpa [Src.xs] using hi
theorem src_range {B : Bs} {w : Wd} {lo : Int} {n : Nat} : SrcR X.K X.mg B w (Itr lo n) (.items (rangeL lo n)) := fun w2 H2 L2 l2 S2 _ i => by
  refine ⟨fun hi => ?_, fun hi => ?_⟩
  · have hi' : i < n := by simpa [Src.xs, rangeL] using hi
    refine ⟨hi', fun v H' y => ?_⟩
    obtain ⟨rfl, rfl⟩ := y
    exact ⟨w2, .int (lo + (i : Nat)), Wd.le.refl _, S2, by simp [Src.xs, rangeL, hi'], .int _⟩
  · show n ≤ i
    simpa [Src.xs, rangeL] using hi
/-- a list, a tuple, a text: by the data -/
theorem pdi_seq {tg e : Expr} {f : M D} (he : PDE X e f) : PDI X tg e (iSeq f) := fun W tk => PI.orI fun σ H Q ⟨B, w, env, L, S, R, h⟩ => by
  simp only [iSeq] at h
  cases hf : f env L with
  | none =>
    rw [hf] at h
    exact h.elim
  | some p =>
    obtain ⟨r, L'⟩ := p
    rw [hf] at h
    cases r with
    | ex e =>
      refine ⟨_, pi_list (he W tk), B, w, env, L, S, R, ?_⟩
      rw [hf]
      exact h
    | ok d =>
      simp only [bnd_ok] at h
      split at h
      · refine ⟨_, pi_tup (he W tk), B, w, env, L, S, R, ?_⟩
        rw [hf]
        intro w1 v H1 l1 S1 r1
        obtain ⟨a, vs, rfl, h2, sr⟩ := src_tup S1 r1
        exact ⟨a, rfl, ⟨vs, h2⟩, h w1 _ H1 l1 S1 sr⟩
      · refine ⟨_, pi_list (he W tk), B, w, env, L, S, R, ?_⟩
        rw [hf]
        intro w1 v H1 l1 S1 r1
        obtain ⟨a, vs, rfl, h2, sr⟩ := src_flst S1 r1
        exact ⟨a, rfl, ⟨vs, h2⟩, h w1 _ H1 l1 S1 sr⟩
      · split at h
        · rename_i xs hx
          refine ⟨_, pi_list (he W tk), B, w, env, L, S, R, ?_⟩
          rw [hf]
          intro w1 v H1 l1 S1 r1
          obtain ⟨a, vs, rfl, h2, sr⟩ := src_list S1 r1 hx
          exact ⟨a, rfl, ⟨vs, h2⟩, h w1 _ H1 l1 S1 sr⟩
        · exact h.elim
      · refine ⟨_, pi_str (he W tk), B, w, env, L, S, R, ?_⟩
        rw [hf]
        intro w1 v H1 l1 S1 r1
        cases r1 with
        | str hx => exact ⟨_, rfl, h w1 _ H1 l1 S1 (src_str hx)⟩
      · exact h.elim
theorem big_ok {i : Int} (h : big i = true) : -(2 ^ 62) ≤ i ∧ i < 2 ^ 62 := by
  have := Nat.ble_eq.mp h
  omega
theorem pdi_range1 {tg a : Expr} {f : M D} {p pos : Pos} (hm : X.mg "range" = none) (ha : PDE X a f) (hg : Gl X "range" := by rfl) (hs : starEach [a] X.env = [(false, eval a X.env)] := by rfl) : PDI X tg (.Call (.Name "range" p) [a] [] pos) (iRange1 f) := fun W tk =>
  PI.imp (pi_range1 hg hm (pda_cons ha pda_nil hs W tk) hs) fun σ H Q ⟨B, w, env, L, S, R, h⟩ => by
    refine ⟨B, w, env, L, S, R, ?_⟩
    simp only [iRange1] at h
    simp only [aCons, aNil]
    cases hf : f env L with
    | none =>
      rw [hf] at h
      exact h
    | some p =>
      obtain ⟨r, L'⟩ := p
      rw [hf] at h
      cases r with
      | ex e => exact h
      | ok d =>
        simp only [bnd_ok] at h ⊢
        intro w1 vs H1 l1 S1 r1
        obtain ⟨v, rfl, rv⟩ := r1.one
        split at h
        · rename_i j
          cases rv
          split at h
          · rename_i hb
            have := big_ok hb
            exact ⟨j, rfl, this.1, this.2, h w1 _ H1 l1 S1 src_range⟩
          · exact h.elim
        · exact h.elim
theorem pdi_range2 {tg a b : Expr} {f g : M D} {p pos : Pos} (hm : X.mg "range" = none) (ha : PDE X a f) (hb : PDE X b g) (hg : Gl X "range" := by rfl) (hs : starEach [a, b] X.env = [(false, eval a X.env), (false, eval b X.env)] := by rfl) (hs2 : starEach [b] X.env = [(false, eval b X.env)] := by rfl) : PDI X tg (.Call (.Name "range" p) [a, b] [] pos) (iRange2 f g) := fun W tk =>
  PI.imp (pi_range2 hg hm (pda_cons ha (pda_cons hb pda_nil hs2) (by rw [hs, hs2]) W tk) hs hs2) fun σ H Q ⟨B, w, env, L, S, R, h⟩ => by
    refine ⟨B, w, env, L, S, R, ?_⟩
    simp only [iRange2] at h
    simp only [aCons, aNil]
    cases hf : f env L with
    | none =>
      rw [hf] at h
      exact h
    | some p =>
      obtain ⟨r, L'⟩ := p
      rw [hf] at h
      cases r with
      | ex e => exact h
      | ok d =>
        simp only [bnd_ok] at h ⊢
        cases hf2 : g env L' with
        | none =>
          rw [hf2] at h
          exact h
        | some p =>
          obtain ⟨r, L2⟩ := p
          rw [hf2] at h
          cases r with
          | ex e => exact h
          | ok d2 =>
            simp only [bnd_ok] at h ⊢
            intro w1 vs H1 l1 S1 r1
            obtain ⟨v, u, rfl, rv, ru⟩ := r1.two
            split at h
            · rename_i i j
              cases rv; cases ru
              split at h
              · rename_i hb
                have h1 := big_ok hb.1
                have h2 := big_ok hb.2
                exact ⟨i, j, rfl, ⟨h1.1, h1.2, h2.1, h2.2⟩, h w1 _ H1 l1 S1 src_range⟩
              · exact h.elim
            · exact h.elim
/-! ### for, while -/
theorem for_imp {it : Ms} {g : Tg} {b : Sm} {W : WX} (E : Ends) (σ : L2.St) (H : Hp) (h : tS1 X.K X.mg W (sFor it g b) E σ H) : tFor (tI1 X.K X.mg W it) (tG1 X.K X.mg g) (tS1 X.K X.mg W b) E σ H := by
  obtain ⟨B, w, env, L, S, R, h⟩ := h
  refine ⟨B, w, env, L, S, R, ?_⟩
  simp only [sFor] at h
  cases hf : it env L with
  | none =>
    rw [hf] at h
    exact h
  | some p =>
    obtain ⟨r, L1⟩ := p
    rw [hf] at h
    cases r with
    | ex e => exact fun w1 H1 cls dd l1 S1 x => h w1 σ H1 cls dd l1 S1 (R.mono l1) x
    | ok s =>
      intro w1 J H1 l1 S1 sr
      have h' : PostS X.K X.mg B w W (forL s g b s.xs env L1) E := h
      refine ⟨fun i m σ' H' => ∃ w' env' L', w1.le w' ∧ StR X.K X.mg B w' H' L' ∧ EnvR X.K w' env' σ' ∧ i ≤ s.xs.length ∧ m = s.xs.length - i ∧ PostS X.K X.mg B w' W (forL s g b (s.xs.drop i) env' L') E,
        ⟨s.xs.length, w1, env, L1, Wd.le.refl _, S1, R.mono l1, Nat.zero_le _, rfl, h'.le l1⟩, ?_⟩
      rintro i m σ2 H2 ⟨w2, env2, L2, l2, S2, R2, hi, rfl, h2⟩
      by_cases hlt : i < s.xs.length
      · refine .inr ?_
        rw [List.drop_eq_getElem_cons hlt] at h2
        simp only [forL] at h2
        split at h2
        · rename_i hst
          obtain ⟨k1, k2⟩ := sr w2 H2 L2 l2 S2 hst i
          obtain ⟨hgo, hy⟩ := k1 hlt
          refine ⟨hgo, fun σ' H' => ∃ w' env' L', w1.le w' ∧ StR X.K X.mg B w' H' L' ∧ EnvR X.K w' env' σ' ∧ PostS X.K X.mg B w' W (forL s g b (s.xs.drop (i + 1)) env' L') E, fun σ' H' ⟨w', env', L', q1, q2, q3, q4⟩ => ⟨s.xs.length - (i + 1), by omega, w', env', L', q1, q2, q3, hlt, rfl, q4⟩, fun x H' y => ?_⟩
          obtain ⟨w3, d, l3, S3, hd, rd⟩ := hy x H' y
          rw [List.getElem?_eq_getElem hlt] at hd
          cases hd
          refine ⟨B, w3, env2, L2, _, S3, R2.mono l3, rd, ?_⟩
          revert h2
          cases g s.xs[i] env2 L2 with
          | none => exact fun h => h
          | some p =>
            obtain ⟨env4, L4⟩ := p
            intro h2 w4 σ4 H4 l4 S4 R4
            refine ⟨B, w4, env4, L4, S4, R4, ?_⟩
            dsimp only at h2
            revert h2
            cases b env4 L4 with
            | none => exact fun h => h
            | some p =>
              obtain ⟨o, env5, L5⟩ := p
              cases o with
              | nx => exact fun h2 w5 σ5 H5 l5 S5 R5 => ⟨w5, env5, L5, ((l2.trans l3).trans l4).trans l5, S5, R5, h2.le ((l3.trans l4).trans l5)⟩
              | ct => exact fun h2 w5 σ5 H5 l5 S5 R5 => ⟨w5, env5, L5, ((l2.trans l3).trans l4).trans l5, S5, R5, h2.le ((l3.trans l4).trans l5)⟩
              | bk => exact fun h2 w5 σ5 H5 l5 S5 R5 => h2 w5 σ5 H5 ((l3.trans l4).trans l5) S5 R5
              | rt d => exact fun h2 w5 v5 H5 l5 S5 R5 => h2 w5 v5 H5 ((l3.trans l4).trans l5) S5 R5
              | ex e => exact fun h2 w5 σ5 H5 cls dd l5 S5 R5 => h2 w5 σ5 H5 cls dd ((l3.trans l4).trans l5) S5 R5
        · exact h2.elim
      · have e : i = s.xs.length := by omega
        subst e
        rw [List.drop_eq_nil_of_le (Nat.le_refl _)] at h2
        simp only [forL] at h2
        split at h2
        · rename_i hst
          obtain ⟨k1, k2⟩ := sr w2 H2 L2 l2 S2 hst s.xs.length
          exact .inl ⟨k2 (Nat.le_refl _), h2 w2 σ2 H2 (Wd.le.refl _) S2 R2⟩
        · exact h2.elim
theorem pds_for {tg iter : Expr} {body : List Stmt} {it : Ms} {g : Tg} {b : Sm} {pos : Pos} (hp : PassesOwn (model X.prog X.w) X.A X.env X.xe) (hi : PDI X tg iter it) (hg : PDG X tg g) (hb : PDSs X body b) (hc : X.calm = true := by rfl)
    (hs : ∀ x, foldedSetIterable iter X.env x = pure x := by intro _; rfl) : PDS X (.For tg iter body [] pos) (sFor it g b) := fun W tk => PS.imp (ps_for hp hc (hi W tk) hg (hb W tk) hs) for_imp
theorem pds_whl (n : Nat) {c : Expr} {body : List Stmt} {t : M Bool} {b : Sm} {pos : Pos} (hp : PassesOwn (model X.prog X.w) X.A X.env X.xe) (hc : PDT X c t) (hb : PDSs X body b) : PDS X (.While c body [] pos) (sWhl n t b) := fun W tk => PS.imp (ps_while hp (hc W tk) (hb W tk)) fun E σ H ⟨B, w, env, L, S, R, h⟩ => by
  refine ⟨fun m σ' H' => ∃ w' env' L', w.le w' ∧ StR X.K X.mg B w' H' L' ∧ EnvR X.K w' env' σ' ∧ PostS X.K X.mg B w' W (whl t b m env' L') E, ⟨n, w, env, L, Wd.le.refl _, S, R, h⟩, ?_⟩
  rintro m σ2 H2 ⟨w2, env2, L2, l2, S2, R2, h2⟩
  cases m with
  | zero => exact h2.elim
  | succ m =>
    simp only [whl] at h2
    refine tT_sb S2 R2 h2 fun w3 c H3 L3 l3 S3 h3 => ?_
    split at h3
    · rename_i hc
      rw [if_pos hc]
      refine ⟨fun σ' H' => ∃ w' env' L', w.le w' ∧ StR X.K X.mg B w' H' L' ∧ EnvR X.K w' env' σ' ∧ PostS X.K X.mg B w' W (whl t b m env' L') E, fun σ' H' q => ⟨m, Nat.lt_succ_self _, q⟩, B, w3, env2, L3, S3, R2.mono l3, ?_⟩
      revert h3
      cases b env2 L3 with
      | none => exact fun h => h
      | some p =>
        obtain ⟨o, env5, L5⟩ := p
        cases o with
        | nx => exact fun h2 w5 σ5 H5 l5 S5 R5 => ⟨w5, env5, L5, (l2.trans l3).trans l5, S5, R5, h2.le l5⟩
        | ct => exact fun h2 w5 σ5 H5 l5 S5 R5 => ⟨w5, env5, L5, (l2.trans l3).trans l5, S5, R5, h2.le l5⟩
        | bk => exact fun h2 w5 σ5 H5 l5 S5 R5 => h2 w5 σ5 H5 l5 S5 R5
        | rt d => exact fun h2 w5 v5 H5 l5 S5 R5 => h2 w5 v5 H5 l5 S5 R5
        | ex e => exact fun h2 w5 σ5 H5 cls dd l5 S5 R5 => h2 w5 σ5 H5 cls dd l5 S5 R5
    · rename_i hc
      rw [if_neg hc]
      exact h3 w3 σ2 H3 (Wd.le.refl _) S3 (R2.mono l3)
end
end Rg
namespace Rg
open PySem PySem.Spec L2
open PyProof.Rows hiding St
/-! ### a result and its cells -/
section
variable {K : PySem.W.Frag} {mg : Str → Option Value}
mutual
theorem D.refs0 : ∀ {d : D}, d.pure = true → d.refs = []
  | .non, _ => rfl
  | .bl _, _ => rfl
  | .int _, _ => rfl
  | .str _, _ => rfl
  | .tup xs, h => by rw [D.refs, D.refss0 (by simpa [D.pure] using h)]
  | .lst xs, h => by rw [D.refs, D.refss0 (by simpa [D.pure] using h)]
  | .ref _, h => by simp [D.pure] at h
  | .exn _ _, h => by simp [D.pure] at h
  | .scr _, h => by simp [D.pure] at h
theorem D.refss0 : ∀ {ds : List D}, D.pures ds = true → D.refss ds = []
  | [], _ => rfl
  | d :: ds, h => by
    simp only [D.pures, Bool.and_eq_true] at h
    rw [D.refss, D.refs0 h.1, D.refss0 h.2]
    rfl
end
mutual
theorem D.ren0 {f : Nat → Nat} : ∀ {d : D}, d.pure = true → d.ren f = d
  | .non, _ => rfl
  | .bl _, _ => rfl
  | .int _, _ => rfl
  | .str _, _ => rfl
  | .tup xs, h => by rw [D.ren, D.rens0 (by simpa [D.pure] using h)]
  | .lst xs, h => by rw [D.ren, D.rens0 (by simpa [D.pure] using h)]
  | .ref _, h => by simp [D.pure] at h
  | .exn _ _, h => by simp [D.pure] at h
  | .scr _, h => by simp [D.pure] at h
theorem D.rens0 {f : Nat → Nat} : ∀ {ds : List D}, D.pures ds = true → D.rens f ds = ds
  | [], _ => rfl
  | d :: ds, h => by
    simp only [D.pures, Bool.and_eq_true] at h
    rw [D.rens, D.ren0 h.1, D.rens0 h.2]
end
mutual
theorem D.shift_pure {k : Nat} : ∀ {d : D}, D.pure d = true → D.shift k d = d
  | .non, _ => rfl
  | .bl _, _ => rfl
  | .int _, _ => rfl
  | .str _, _ => rfl
  | .tup xs, h => by
    simp only [D.pure] at h
    simp only [D.shift, D.shifts_pure h]
  | .lst xs, h => by
    simp only [D.pure] at h
    simp only [D.shift, D.shifts_pure h]
  | .ref _, h => by simp [D.pure] at h
  | .exn _ _, h => by simp [D.pure] at h
  | .scr _, h => by simp [D.pure] at h
theorem D.shifts_pure {k : Nat} : ∀ {ds : List D}, D.pures ds = true → D.shifts k ds = ds
  | [], _ => rfl
  | d :: ds, h => by
    simp only [D.pures, Bool.and_eq_true] at h
    simp only [D.shifts, D.shift_pure h.1, D.shifts_pure h.2]
end
mutual
theorem Rep.ren {w w2 : Wd} {f : Nat → Nat} {rs : List Nat} (hT : Same w.F w2.F) (hI : ∀ (n : Nat) (a : Addr), n ∈ rs → w.io[n]? = some a → w2.io[f n]? = some a) : ∀ {v : V} {d : D}, Rep K w v d → (∀ q ∈ D.refs d, q ∈ rs) → Rep K w2 v (D.ren f d)
  | _, _, .non, _ => .non
  | _, _, .bl b, _ => .bl b
  | _, _, .int i, _ => .int i
  | _, _, .str h, _ => .str h
  | _, _, .tup h r, q => .tup (hT _ _ h) (Reps.ren hT hI r (by simpa [D.refs] using q))
  | _, _, .lst h r, q => .lst (hT _ _ h) (Reps.ren hT hI r (by simpa [D.refs] using q))
  | _, _, .scr h, _ => .scr (hT.seq h)
  | _, _, .ref e, q => .ref (hI _ _ (q _ (by simp [D.refs])) e)
  | _, _, .exn, _ => .exn
  | _, _, .exf h r p q, _ => by
    have z := Rep.ren hT hI r (by rw [D.refs0 p]; exact fun _ h => nomatch h)
    rw [D.ren0 p] at z
    exact .exf (hT _ _ h) z p q
theorem Reps.ren {w w2 : Wd} {f : Nat → Nat} {rs : List Nat} (hT : Same w.F w2.F) (hI : ∀ (n : Nat) (a : Addr), n ∈ rs → w.io[n]? = some a → w2.io[f n]? = some a) : ∀ {vs : List V} {ds : List D}, Reps K w vs ds → (∀ q ∈ D.refss ds, q ∈ rs) → Reps K w2 vs (D.rens f ds)
  | _, _, .nil, _ => .nil
  | _, _, .cons h r, q => .cons (Rep.ren hT hI h fun x hx => q x (by simp [D.refss, hx])) (Reps.ren hT hI r fun x hx => q x (by simp [D.refss, hx]))
end
theorem Paired.ren {α β : Type} {w w2 : Wd} {f : Nat → Nat} {rs : List Nat} {R : α → β → Prop} (hT : Same w.F w2.F) (hI : ∀ (n : Nat) (a : Addr), n ∈ rs → w.io[n]? = some a → w2.io[f n]? = some a) : ∀ {xs : List (α × V)} {ys : List (β × D)}, Paired (fun p q => R p.1 q.1 ∧ Rep K w p.2 q.2) xs ys → (∀ q ∈ ys.flatMap (fun p => D.refs p.2), q ∈ rs) → Paired (fun p q => R p.1 q.1 ∧ Rep K w2 p.2 q.2) xs (ys.map fun p => (p.1, D.ren f p.2))
  | _, _, .nil, _ => .nil
  | _, _, .cons r t, q => .cons ⟨r.1, Rep.ren hT hI r.2 fun x hx => q x (by simp only [List.flatMap_cons, List.mem_append]; exact .inl hx)⟩ (Paired.ren hT hI t fun x hx => q x (by simp only [List.flatMap_cons, List.mem_append]; exact .inr hx))
theorem CellR.ren {w w2 : Wd} {f : Nat → Nat} {rs : List Nat} (hT : Same w.F w2.F) (hI : ∀ (n : Nat) (a : Addr), n ∈ rs → w.io[n]? = some a → w2.io[f n]? = some a) {o : Option HO} {c : Cell} (h : CellR K mg w o c) (q : ∀ q ∈ c.refs, q ∈ rs) : CellR K mg w2 o (Cell.ren f c) := by
  cases h with
  | lst r => exact .lst (Reps.ren hT hI r q)
  | dK r => exact .dK (Paired.ren (R := fun a b => a = kx b) hT hI r q)
  | dT r => exact .dT (Paired.ren (α := List Key) (β := List Ky) (R := fun a b => a = b.map kx) hT hI r q)
  | ins e r => exact .ins e (Paired.ren (R := fun a b => a = Str.ofString b) hT hI r q)
mutual
theorem D.ren_id {f : Nat → Nat} : ∀ {d : D}, (∀ q ∈ D.refs d, f q = q) → D.ren f d = d
  | .non, _ => rfl
  | .bl _, _ => rfl
  | .int _, _ => rfl
  | .str _, _ => rfl
  | .tup xs, h => by rw [D.ren, D.rens_id (by simpa [D.refs] using h)]
  | .lst xs, h => by rw [D.ren, D.rens_id (by simpa [D.refs] using h)]
  | .ref n, h => by rw [D.ren, h n (by simp [D.refs])]
  | .exn _ _, _ => rfl
  | .scr _, _ => rfl
theorem D.rens_id {f : Nat → Nat} : ∀ {ds : List D}, (∀ q ∈ D.refss ds, f q = q) → D.rens f ds = ds
  | [], _ => rfl
  | d :: ds, h => by rw [D.rens, D.ren_id fun q hq => h q (by simp [D.refss, hq]), D.rens_id fun q hq => h q (by simp [D.refss, hq])]
end
theorem gc_ok {w0 w' : Wd} {H H' : Hp} {L1 : Hh} {v : V} {d : D} (S : StR K mg ⟨w0, H⟩ w' H' L1) (r : Rep K w' v d) : ∃ w2, w0.le w2 ∧ StR K mg ⟨w0, H⟩ w2 H' (gc w0.io.length d L1).2 ∧ Rep K w2 v (gc w0.io.length d L1).1 := by
  unfold gc
  split
  · rename_i hg
    generalize gcList w0.io.length d L1 = rs at hg ⊢
    unfold gcOk at hg
    simp only [Bool.and_eq_true, decide_eq_true_eq, List.all_eq_true, Bool.or_eq_true] at hg
    obtain ⟨⟨⟨hnd, hd⟩, hr⟩, hL⟩ := hg
    obtain ⟨t, ht⟩ := S.ge.2
    have ht' : w'.io = w0.io ++ t := ht
    have hlen : w0.io.length ≤ w'.io.length := by rw [ht']; simp
    have e0 : w'.io.take w0.io.length = w0.io := by rw [ht']; simp
    have hw : ∀ q, q ∈ rs → ∃ a, w'.io[q]? = some a := fun q hq => by
      have := (hr q hq).1.2
      exact ⟨_, List.getElem?_eq_getElem (by rw [S.len]; exact this)⟩
    -- the new places
    obtain ⟨io2, hio2⟩ : ∃ io2, io2 = w0.io ++ rs.map fun q => w'.io.getD q 0 := ⟨_, rfl⟩
    have hat : ∀ (k : Nat) (q : Nat) (a : Addr), rs[k]? = some q → w'.io[q]? = some a → io2[w0.io.length + k]? = some a := fun k q a e1 e2 => by
      rw [hio2, List.getElem?_append_right (by omega), Nat.add_sub_cancel_left, List.getElem?_map, e1]
      simp [e2]
    have hback : ∀ (n : Nat) (a : Addr), io2[n]? = some a → (n < w0.io.length ∧ w'.io[n]? = some a) ∨ ∃ k q, n = w0.io.length + k ∧ rs[k]? = some q ∧ w'.io[q]? = some a := fun n a e => by
      rw [hio2] at e
      by_cases hn : n < w0.io.length
      · rw [List.getElem?_append_left hn] at e
        refine .inl ⟨hn, ?_⟩
        rw [ht', List.getElem?_append_left hn]
        exact e
      · rw [List.getElem?_append_right (by omega), List.getElem?_map] at e
        cases e1 : rs[n - w0.io.length]? with
        | none => rw [e1] at e; cases e
        | some q =>
          rw [e1] at e
          obtain ⟨a', ha'⟩ := hw q (List.mem_of_getElem? e1)
          simp [ha'] at e
          subst e
          exact .inr ⟨_, q, by omega, e1, ha'⟩
    have hnum : ∀ (n : Nat) (a : Addr), (n < w0.io.length ∨ n ∈ rs) → w'.io[n]? = some a → io2[gcNum w0.io.length rs n]? = some a := fun n a hn e => by
      unfold gcNum
      by_cases h : n < w0.io.length
      · rw [if_pos h, hio2, List.getElem?_append_left h]
        rw [ht', List.getElem?_append_left h] at e
        exact e
      · rw [if_neg h]
        have hm := hn.resolve_left h
        have hl := List.idxOf_lt_length_iff.mpr hm
        exact hat _ n a (by rw [List.getElem?_eq_getElem hl, List.getElem_idxOf]) e
    have hndI : ∀ (m n : Nat) (a : Addr), w'.io[m]? = some a → w'.io[n]? = some a → m = n := fun m n a e1 e2 => by
      obtain ⟨l1, q1⟩ := List.getElem?_eq_some_iff.mp e1
      obtain ⟨l2, q2⟩ := List.getElem?_eq_some_iff.mp e2
      exact (List.getElem_inj S.nd).mp (q1.trans q2.symm)
    have hn2 : io2.Nodup := by
      rw [hio2, List.nodup_append]
      refine ⟨(by
        have := S.nd
        rw [ht', List.nodup_append] at this
        exact this.1), ?_, fun x hx y hy => ?_⟩
      · refine List.pairwise_map.mpr (hnd.imp_of_mem fun {x y} hx hy hne e => hne ?_)
        obtain ⟨a, ha⟩ := hw x hx
        obtain ⟨b, hb⟩ := hw y hy
        simp [ha, hb] at e
        subst e
        exact hndI x y a ha hb
      · obtain ⟨q, hq, rfl⟩ := List.mem_map.mp hy
        obtain ⟨a, ha⟩ := hw q hq
        obtain ⟨n, hn⟩ := List.getElem?_of_mem hx
        intro z
        simp [ha] at z
        subst z
        have hl := (List.getElem?_eq_some_iff.mp hn).1
        have e1 : w'.io[n]? = some x := by rw [ht', List.getElem?_append_left hl]; exact hn
        have := hndI n q x e1 ha
        have h2 := (hr q hq).1.1
        omega
    refine ⟨⟨w'.F, io2⟩, ⟨S.ge.1, _, hio2⟩, ⟨S.sub, ?_, hn2, fun n a e => ?_, fun n a c e e' => ?_, ⟨S.ge.1, _, hio2⟩, S.keep, S.newF, fun n a e => ?_⟩, Rep.ren (w := w') (w2 := ⟨w'.F, io2⟩) (rs := D.refs d) (fun _ _ e => e) (fun n a hn e => ?_) r fun q hq => hq⟩
    · show io2.length = _
      rw [hio2]
      simp [S.len ▸ hlen]
    · rcases hback n a e with ⟨_, e⟩ | ⟨k, q, _, _, e⟩
      · exact S.out n a e
      · exact S.out q a e
    · rcases hback n a e with ⟨hn, e1⟩ | ⟨k, q, hk, e1, e2⟩
      · have e2 : (L1.take w0.io.length)[n]? = some c := by
          rw [List.getElem?_append_left (by rw [List.length_take, ← S.len]; omega)] at e'
          exact e'
        have e3 : L1[n]? = some c := by rw [List.getElem?_take_of_lt hn] at e2; exact e2
        have := S.cell n a c e1 e3
        have hid : ∀ q ∈ c.refs, q < w0.io.length := hL c (List.mem_of_getElem? e2)
        have h2 := CellR.ren (w := w') (w2 := ⟨w'.F, io2⟩) (rs := c.refs) (f := id) (fun _ _ e => e) (fun m b hm e => by
          have := hnum m b (.inl (hid m hm)) e
          unfold gcNum at this
          rw [if_pos (hid m hm)] at this
          exact this) this fun q hq => hq
        have h3 : Cell.ren id c = c := by
          have hi : ∀ d : D, D.ren id d = d := fun d => D.ren_id fun _ _ => rfl
          cases c with
          | lst xs => simp only [Cell.ren, D.rens_id (f := id) fun _ _ => rfl]
          | dK xs => simp [Cell.ren, hi]
          | dT xs => simp [Cell.ren, hi]
          | ins c xs => simp [Cell.ren, hi]
        rw [h3] at h2
        exact h2
      · subst hk
        have hlt : (L1.take w0.io.length).length = w0.io.length := by rw [List.length_take, ← S.len]; omega
        rw [List.getElem?_append_right (by omega), hlt, Nat.add_sub_cancel_left, List.getElem?_map, e1] at e'
        have hq := hr q (List.mem_of_getElem? e1)
        have hql : q < L1.length := hq.1.2
        simp only [Option.map_some, Option.some.injEq] at e'
        rw [List.getD_eq_getElem?_getD, List.getElem?_eq_getElem hql] at e'
        subst e'
        rw [Option.getD_some]
        refine CellR.ren (w := w') (w2 := ⟨w'.F, io2⟩) (rs := L1[q].refs) (fun _ _ e => e) (fun m b hm e => ?_) (S.cell q a _ e2 (List.getElem?_eq_getElem hql)) fun q hq => hq
        refine hnum m b ?_ e
        have := hq.2 m (by unfold refsAt; rw [List.getElem?_eq_getElem hql]; exact hm)
        exact this
    · rcases hback n a e with ⟨hn, _⟩ | ⟨k, q, _, e1, e2⟩
      · exact .inl hn
      · rcases S.newI q a e2 with h | h
        · have h' : q < w0.io.length := h
          have := (hr q (List.mem_of_getElem? e1)).1.1
          omega
        · exact .inr h
    · exact hnum n a (hd n hn) e
  · exact ⟨w', S.ge, S, r⟩
end
/-! ### a def -/
def spG (K : PySem.W.Frag) (mg : Str → Option Value) (n : Nat) (f : Fn) : Sp := fun vs H Q E => vs.length = n ∧ ∃ w0 L ds, StR K mg ⟨w0, H⟩ w0 H L ∧ Reps K w0 vs ds ∧ match f ds L with
  | none => False
  | some (.ok d, L') => ∀ w' v H', w0.le w' → StR K mg ⟨w0, H⟩ w' H' L' → Rep K w' v d → Q v H'
  | some (.ex e, L') => ∀ w' H' cls dd, w0.le w' → StR K mg ⟨w0, H⟩ w' H' L' → ExR K mg w' H' cls dd e → E cls dd H'
section
variable {K : PySem.W.Frag} {mg : Str → Option Value} {B : Bs} {w w1 : Wd} {H H1 : Hp} {L L1 : Hh}
theorem StR.base (S : StR K mg B w H L) : StR K mg ⟨w, H⟩ w H L := ⟨S.sub, S.len, S.nd, S.out, S.cell, Wd.le.refl _, fun _ _ e _ => e, fun _ h => .inl h, fun n a e => .inl (List.getElem?_eq_some_iff.mp e).1⟩
theorem StR.no_tup (S : StR K mg B w H L) {a : Addr} {vs : List V} (h : H a = some (.tup vs)) : a ∉ w.io := fun hm => by
  obtain ⟨n, hn⟩ := List.getElem?_of_mem hm
  have hl : n < L.length := by rw [← S.len]; exact (List.getElem?_eq_some_iff.mp hn).1
  have c := S.cell n a L[n] hn (List.getElem?_eq_getElem hl)
  rw [h] at c
  cases c
theorem StR.no_kn (S : StR K mg B w H L) {a : Addr} {o : HO} (h : H a = some o) (k : KnO o) : a ∉ w.io := fun hm => by
  rcases k with ⟨vs, rfl⟩ | ⟨fs, rfl⟩
  · exact S.no_tup h hm
  · obtain ⟨n, hn⟩ := List.getElem?_of_mem hm
    have hl : n < L.length := by rw [← S.len]; exact (List.getElem?_eq_some_iff.mp hn).1
    have c := S.cell n a L[n] hn (List.getElem?_eq_getElem hl)
    rw [h] at c
    cases c
theorem StR.btup (S : StR K mg B w H L) {a : Addr} {o : HO} (h : H a = some o) (k : KnO o) : B.H a = none ∨ ∃ o, B.H a = some o ∧ KnO o := by
  cases e : B.H a with
  | none => exact .inl rfl
  | some o' =>
    refine .inr ?_
    have hb : a ∉ B.w.io := fun hm => by
      obtain ⟨n, hn⟩ := List.getElem?_of_mem hm
      exact S.no_kn h k (List.mem_of_getElem? (S.ge.io hn))
    have := S.keep a o' e hb
    rw [h] at this
    cases this
    exact ⟨o, rfl, k⟩
theorem StR.comp (S : StR K mg B w H L) (S1 : StR K mg ⟨w, H⟩ w1 H1 L1) : StR K mg B w1 H1 L1 := by
  refine ⟨S1.sub, S1.len, S1.nd, S1.out, S1.cell, S.ge.trans S1.ge, fun b o e hb => ?_, fun b hb => ?_, fun n a e => ?_⟩
  · by_cases hw : b ∈ w.io
    · obtain ⟨n, hn⟩ := List.getElem?_of_mem hw
      rcases S.newI n b hn with h | h
      · obtain ⟨x, hx⟩ : ∃ x, B.w.io[n]? = some x := ⟨_, List.getElem?_eq_getElem h⟩
        have := S.ge.io hx
        rw [hn] at this
        cases this
        exact absurd (List.mem_of_getElem? hx) hb
      · rw [h] at e
        cases e
    · exact S1.keep b o (S.keep b o e hb) hw
  · rcases S1.newF b hb with h | h | ⟨o, h, k⟩
    · exact S.newF b h
    · exact .inr (.inl (S.bnone h))
    · exact .inr (S.btup h k)
  · rcases S1.newI n a e with h | h
    · obtain ⟨x, hx⟩ : ∃ x, w.io[n]? = some x := ⟨_, List.getElem?_eq_getElem h⟩
      have := S1.ge.io hx
      rw [e] at this
      cases this
      exact S.newI n a hx
    · exact .inr (S.bnone h)
end
theorem envR_start {K : PySem.W.Frag} {w : Wd} {N : List Str} {vs : List V} {ds : List D} (r : Reps K w vs ds) {n : Nat} (hn : N.length = n) : EnvR K w (ds.map some ++ List.replicate (n - ds.length) none) (L2.start N vs) := by
  unfold L2.start
  refine ⟨by simp [r.length, hn], fun i d e => ?_⟩
  by_cases hi : i < ds.length
  · rw [List.getElem?_append_left (by simpa using hi), List.getElem?_map] at e
    cases h : ds[i]? with
    | none => rw [h] at e; cases e
    | some d' =>
      rw [h] at e
      cases e
      obtain ⟨v, hv, rv⟩ := r.get h
      exact ⟨v, by rw [List.getElem?_append_left (by simp [r.length, hi]), List.getElem?_map, hv]; rfl, rv⟩
  · rw [List.getElem?_append_right (by simpa using hi), List.getElem?_replicate] at e
    split at e <;> cases e
theorem fn_ok {P : Program} {w : World} {K : PySem.W.Frag} {mg : Str → Option Value} {base : Heap} {x qual : Str} {st : Stmt} {f : Addr} {fd : FuncData} {N ps : List Str} {k : Nat} {body : Sm} (slots : Nat) (F : Fun K x qual st f fd) (S : FnScope N ps (defScope st)) (hn : N.length = slots)
    (hb : ∀ (cdv : Value) (A : Around) (outer : List PySem.Env) (s : Shared) (H : Hp) (E : XK), Room k (A.deeper (envOfC qual (defScope st) s.heap.objs.size f cdv)) → PDSs (cxOf (L2N.CX P w) P w K mg base N qual (defScope st) f cdv A outer s H E) (defBody st) body) :
    FnOk P w K mg base (L2N.CX P w) (k + 1) f fd ps (spG K mg ps.length (run slots body)) := by
  obtain ⟨oc, od, kV, doc, pm, an, cdv, ct, osl, rfl, lk, hcd⟩ := F.ex
  refine fn_of lk hcd S (fun vs H Q E h => h.1) fun A outer s H vs Q E hr hsp => ?_
  obtain ⟨hl, w0, L, ds, S0, rs, h⟩ := hsp
  refine ⟨_, hb cdv A outer s H E hr (fun cls d _ H => E cls d H) (L2N.takes_of rfl rfl rfl rfl), ⟨w0, H⟩, w0, _, L, S0, envR_start rs hn, ?_⟩
  simp only [run] at h
  revert h
  cases body (ds.map some ++ List.replicate (slots - ds.length) none) L with
  | none => exact fun h => h
  | some p =>
    obtain ⟨o, env1, L1⟩ := p
    cases o with
    | nx =>
      intro h w' σ' H' l S' R'
      obtain ⟨w2, l2, S2, r2⟩ := gc_ok S' (d := .non) .non
      have hL : w0.io.length = L.length := S0.len
      rw [hL] at S2 r2
      exact h w2 _ H' l2 S2 r2
    | rt d =>
      intro h w' v H' l S' r
      obtain ⟨w2, l2, S2, r2⟩ := gc_ok S' r
      have hL : w0.io.length = L.length := S0.len
      rw [hL] at S2 r2
      exact h w2 v H' l2 S2 r2
    | bk => exact fun h => h.elim
    | ct => exact fun h => h.elim
    | ex e => exact fun h w' σ' H' cls dd l S' R' x => h w' H' cls dd l S' x
/-! ### calls -/
section
variable {X : Cx} {k : Nat} {f : Addr} {fd : FuncData} {ps : List Str} {fm : Fn} {x : Str} {e : Expr} {es : List Expr} {fa : M (List D)} {p pos : Pos}
theorem pde_callM (n : Nat) (F : FnOk X.prog X.w X.K X.mg X.base (L2N.CX X.prog X.w) k f fd ps (spG X.K X.mg n fm)) (hr : Room k X.A) (hm : X.mg x = some (.ref f)) (hk : PySem.W.keepIn X.K (.ref f) = true) (hb : Binds X.K fd ps []) (ha : PDA X (e :: es) fa)
    (hg : Gl X x := by rfl) (hdb : (x == ("__debug__" : Str)) = false := by decide) (he : starEach (e :: es) X.env = (false, eval e X.env) :: starEach es X.env := by rfl) (hpl : (backTo pos (starEach es X.env)).any (·.1) = false := by rfl) :
    PDE X (.Call (.Name x p) (e :: es) [] pos) (eCallM n fm fa) := fun W tk =>
  (pe_callS F hr hg hm hk hb (fun σ => passAt tk σ) (ha W tk) hdb he hpl).imp fun σ H Q ⟨B, w, env, L, S, R, h⟩ => by
    refine tA_bnd S R h fun w1 vs H1 ds L1 l1 S1 r1 h1 => ?_
    split at h1
    · rename_i hn
      refine ⟨by rw [r1.length, hn], w1, L1, ds, S1.base, r1, ?_⟩
      revert h1
      cases fm ds L1 with
      | none => exact fun h => h
      | some p =>
        obtain ⟨r, L2⟩ := p
        cases r with
        | ok d => exact fun h w2 v H2 l2 S2 rv => h w2 v H2 l2 (S1.comp S2) rv
        | ex e => exact fun h w2 H2 cls dd l2 S2 x => h w2 H2 cls dd l2 (S1.comp S2) x
    · exact h1.elim
end
/-! ### a call on lent data -/
section
variable {K : PySem.W.Frag} {mg : Str → Option Value}
mutual
theorem Rep.carry {w w2 : Wd} {k : Nat} (hT : ∀ a vs, w.F a = some (.tup vs) → w2.F a = some (.tup vs)) (hI : ∀ (n : Nat) (a : Addr), w.io[n]? = some a → w2.io[n + k]? = some a) : ∀ {v : V} {d : D}, Rep K w v d → D.nolst d = true → Rep K w2 v (D.shift k d)
  | _, _, .non, _ => .non
  | _, _, .bl b, _ => .bl b
  | _, _, .int i, _ => .int i
  | _, _, .str h, _ => .str h
  | _, _, .tup h r, q => .tup (hT _ _ h) (Reps.carry hT hI r (by simpa [D.nolst] using q))
  | _, _, .lst h r, q => by simp [D.nolst] at q
  | _, _, .scr h, q => by simp [D.nolst] at q
  | _, _, .ref e, _ => .ref (hI _ _ e)
  | _, _, .exn, q => by simp [D.nolst] at q
  | _, _, .exf h r p q', q => by simp [D.nolst] at q
theorem Reps.carry {w w2 : Wd} {k : Nat} (hT : ∀ a vs, w.F a = some (.tup vs) → w2.F a = some (.tup vs)) (hI : ∀ (n : Nat) (a : Addr), w.io[n]? = some a → w2.io[n + k]? = some a) : ∀ {vs : List V} {ds : List D}, Reps K w vs ds → D.nolsts ds = true → Reps K w2 vs (D.shifts k ds)
  | _, _, .nil, _ => .nil
  | _, _, .cons h r, q => by
    simp only [D.nolsts, Bool.and_eq_true] at q
    exact .cons (Rep.carry hT hI h q.1) (Reps.carry hT hI r q.2)
end
mutual
theorem Rep.carryAll {w w2 : Wd} {k : Nat} (hT : Same w.F w2.F) (hI : ∀ (n : Nat) (a : Addr), w.io[n]? = some a → w2.io[n + k]? = some a) : ∀ {v : V} {d : D}, Rep K w v d → Rep K w2 v (D.shift k d)
  | _, _, .non => .non
  | _, _, .bl b => .bl b
  | _, _, .int i => .int i
  | _, _, .str h => .str h
  | _, _, .tup h r => .tup (hT _ _ h) (Reps.carryAll hT hI r)
  | _, _, .lst h r => .lst (hT _ _ h) (Reps.carryAll hT hI r)
  | _, _, .scr h => .scr (hT.seq h)
  | _, _, .ref e => .ref (hI _ _ e)
  | _, _, .exn => .exn
  | _, _, .exf h r p q => by
    have z := Rep.carryAll hT hI r
    rw [D.shift_pure p] at z
    exact .exf (hT _ _ h) z p q
theorem Reps.carryAll {w w2 : Wd} {k : Nat} (hT : Same w.F w2.F) (hI : ∀ (n : Nat) (a : Addr), w.io[n]? = some a → w2.io[n + k]? = some a) : ∀ {vs : List V} {ds : List D}, Reps K w vs ds → Reps K w2 vs (D.shifts k ds)
  | _, _, .nil => .nil
  | _, _, .cons h r => .cons (Rep.carryAll hT hI h) (Reps.carryAll hT hI r)
end
theorem Paired.mapR {α β γ : Type} {R : α → β → Prop} {S : α → γ → Prop} {f : β → γ} (h : ∀ a b, R a b → S a (f b)) : ∀ {xs : List α} {ys : List β}, Paired R xs ys → Paired S xs (ys.map f)
  | _, _, .nil => .nil
  | _, _, .cons r t => .cons (h _ _ r) (Paired.mapR h t)
theorem Paired.mapRP {α β γ : Type} {R : α → β → Prop} {S : α → γ → Prop} {f : β → γ} {p : β → Bool} (h : ∀ a b, p b = true → R a b → S a (f b)) : ∀ {xs : List α} {ys : List β}, ys.all p = true → Paired R xs ys → Paired S xs (ys.map f)
  | _, _, _, .nil => .nil
  | _, _, q, .cons r t => by
    rw [List.all_cons, Bool.and_eq_true] at q
    exact .cons (h _ _ q.1 r) (Paired.mapRP h q.2 t)
theorem CellR.carryAll {w w2 : Wd} {k : Nat} (hT : Same w.F w2.F) (hI : ∀ (n : Nat) (a : Addr), w.io[n]? = some a → w2.io[n + k]? = some a) {o : Option HO} {c : Cell} (h : CellR K mg w o c) : CellR K mg w2 o (Cell.shift k c) := by
  cases h with
  | lst r => exact .lst (Reps.carryAll hT hI r)
  | dK r => exact .dK (Paired.mapR (fun _ _ z => ⟨z.1, Rep.carryAll hT hI z.2⟩) r)
  | dT r => exact .dT (Paired.mapR (fun _ _ z => ⟨z.1, Rep.carryAll hT hI z.2⟩) r)
  | ins e r => exact .ins e (Paired.mapR (fun _ _ z => ⟨z.1, Rep.carryAll hT hI z.2⟩) r)
theorem CellR.carry {w w2 : Wd} {k : Nat} (hT : ∀ a vs, w.F a = some (.tup vs) → w2.F a = some (.tup vs)) (hI : ∀ (n : Nat) (a : Addr), w.io[n]? = some a → w2.io[n + k]? = some a) {o : Option HO} {c : Cell} (h : CellR K mg w o c) (q : Cell.nolst c = true) : CellR K mg w2 o (Cell.shift k c) := by
  cases h with
  | lst r => exact .lst (Reps.carry hT hI r q)
  | dK r => exact .dK (Paired.mapRP (p := fun p : Ky × D => D.nolst p.2) (fun _ b q z => ⟨z.1, Rep.carry hT hI z.2 q⟩) q r)
  | dT r => exact .dT (Paired.mapRP (p := fun p : List Ky × D => D.nolst p.2) (fun _ b q z => ⟨z.1, Rep.carry hT hI z.2 q⟩) q r)
  | ins e r => exact .ins e (Paired.mapRP (p := fun p : String × D => D.nolst p.2) (fun _ b q z => ⟨z.1, Rep.carry hT hI z.2 q⟩) q r)
/-- what a callee's end is for the caller: its new cells behind ours -/
theorem StR.merge {B : Bs} {w1 w' : Wd} {H1 H' : Hp} {L1 L2 L3 : Hh} {F0 : Hp} (S1 : StR K mg B w1 H1 L1) (hF0 : ∀ b, b ∉ w1.io → F0 b = w1.F b) (hle : (⟨F0, []⟩ : Wd).le w') (S' : StR K mg ⟨⟨F0, []⟩, H1⟩ w' H' L2)
    (hlen : L3.length = L2.length) (hc : ∀ (w2 : Wd) (o : Option HO) (c : Cell) (n : Nat), w2.F = (fun a => if a ∈ w1.io then none else w'.F a) → (∀ n a, w'.io[n]? = some a → w2.io[n + w1.io.length]? = some a) → L2[n]? = some c → CellR K mg w' o c → ∃ c', L3[n]? = some c' ∧ CellR K mg w2 o c') :
    w1.le ⟨fun a => if a ∈ w1.io then none else w'.F a, w1.io ++ w'.io⟩ ∧ StR K mg B ⟨fun a => if a ∈ w1.io then none else w'.F a, w1.io ++ w'.io⟩ H' (L1 ++ L3) := by
  have hk : ∀ b o, H1 b = some o → H' b = some o := fun b o e => S'.keep b o e (fun z => nomatch z)
  have hsF : Same w1.F (fun a => if a ∈ w1.io then none else w'.F a) := fun b o e => by
    have hb : b ∉ w1.io := fun hm => by
      obtain ⟨n, hn⟩ := List.getElem?_of_mem hm
      rw [S1.out n b hn] at e
      cases e
    show (if b ∈ w1.io then none else w'.F b) = some o
    rw [if_neg hb]
    exact hle.1 b o ((hF0 b hb).trans e)
  have l : w1.le ⟨fun a => if a ∈ w1.io then none else w'.F a, w1.io ++ w'.io⟩ := ⟨hsF, w'.io, rfl⟩
  have new : ∀ n a, w'.io[n]? = some a → H1 a = none := fun n a e => by
    rcases S'.newI n a e with h | h
    · exact absurd h (Nat.not_lt_zero _)
    · exact h
  have nin : ∀ n a, w'.io[n]? = some a → a ∉ w1.io := fun n a e => S1.nin (new n a e)
  have at' : ∀ {n : Nat} {a : Addr}, (w1.io ++ w'.io)[n]? = some a → w1.io[n]? = some a ∨ (w1.io.length ≤ n ∧ w'.io[n - w1.io.length]? = some a) := fun {n a} e => by
    by_cases hn : n < w1.io.length
    · rw [List.getElem?_append_left hn] at e
      exact .inl e
    · rw [List.getElem?_append_right (by omega)] at e
      exact .inr ⟨by omega, e⟩
  have hI : ∀ n a, w'.io[n]? = some a → (w1.io ++ w'.io)[n + w1.io.length]? = some a := fun n a e => by
    rw [List.getElem?_append_right (by omega), Nat.add_sub_cancel]
    exact e
  refine ⟨l, ⟨fun b o e => ?_, by simp [S1.len, hlen, S'.len], ?_, fun n a e => ?_, fun n a c e e' => ?_, S1.ge.trans l, fun b o e hb => hk b o (S1.keep b o e hb), fun b hb => ?_, fun n a e => ?_⟩⟩
  · have e' : (if b ∈ w1.io then none else w'.F b) = some o := e
    split at e'
    · cases e'
    · exact S'.sub b o e'
  · rw [List.nodup_append]
    refine ⟨S1.nd, S'.nd, fun x hx y hy => ?_⟩
    obtain ⟨n, hn⟩ := List.getElem?_of_mem hy
    exact fun z => nin n y hn (z ▸ hx)
  · show (if a ∈ w1.io then none else w'.F a) = none
    rcases at' e with e | ⟨_, e⟩
    · rw [if_pos (List.mem_of_getElem? e)]
    · rw [if_neg (nin _ a e)]
      exact S'.out _ a e
  · rcases at' e with e | ⟨hn, e⟩
    · have hn : n < L1.length := by rw [← S1.len]; exact (List.getElem?_eq_some_iff.mp e).1
      rw [List.getElem?_append_left hn] at e'
      have h1 := S1.cell n a c e e'
      obtain ⟨o, ho⟩ := S1.some_of e
      rw [ho] at h1
      rw [hk a o ho]
      exact h1.mono l
    · have hn' : L1.length ≤ n := by rw [← S1.len]; exact hn
      rw [List.getElem?_append_right hn', ← S1.len] at e'
      have hlt : n - w1.io.length < L2.length := by rw [← S'.len]; exact (List.getElem?_eq_some_iff.mp e).1
      have h1 := S'.cell _ a L2[n - w1.io.length] e (List.getElem?_eq_getElem hlt)
      obtain ⟨c', h2, h3⟩ := hc ⟨fun a => if a ∈ w1.io then none else w'.F a, w1.io ++ w'.io⟩ _ _ _ rfl hI (List.getElem?_eq_getElem hlt) h1
      rw [e'] at h2
      cases h2
      exact h3
  · have hb' : (if b ∈ w1.io then none else w'.F b) ≠ none := hb
    split at hb'
    · exact absurd rfl hb'
    · rename_i hn
      rcases S'.newF b hb' with h | h | ⟨o, h, k⟩
      · have h' : F0 b ≠ none := h
        rw [hF0 b hn] at h'
        exact S1.newF b h'
      · exact .inr (.inl (S1.bnone h))
      · exact .inr (S1.btup h k)
  · rcases at' e with e | ⟨hn, e⟩
    · exact S1.newI n a e
    · exact .inr (S1.bnone (new _ a e))
/-- data that names no cell is itself -/
theorem mapM_frz_rep {B : Bs} {w1 : Wd} {H1 : Hp} {L1 : Hh} (S1 : StR K mg B w1 H1 L1) (w0 : Wd) (hT : Same w1.F w0.F) (hL : ∀ (n : Nat) (a : Addr) (vs : List V), w1.io[n]? = some a → H1 a = some (.lst vs) → w0.F a = some (.lst vs)) :
    ∀ (n : Nat) (v : V) (d d' : D), Rep K w1 v d → deep n L1 d = some d' → Rep K w0 v d'
  | 0, _, _, _, _, h => by cases h
  | n + 1, _, _, d', .non, h => by cases h; exact .non
  | n + 1, _, _, d', .bl b, h => by cases h; exact .bl b
  | n + 1, _, _, d', .int i, h => by cases h; exact .int i
  | n + 1, _, .str x, d', .str hx, h => by cases h; exact .str hx
  | n + 1, _, .tup ds, d', .tup hv rs, h => by
    simp only [deep] at h
    cases e : ds.mapM (deep n L1) with
    | none => rw [e] at h; cases h
    | some ds1 =>
      rw [e] at h
      simp at h
      subst h
      exact .tup (hT _ _ hv) (all n (mapM_frz_rep S1 w0 hT hL n) _ ds ds1 rs e)
  | n + 1, _, .lst ds, d', .lst hv rs, h => by
    simp only [deep] at h
    cases e : ds.mapM (deep n L1) with
    | none => rw [e] at h; cases h
    | some ds1 =>
      rw [e] at h
      simp at h
      subst h
      exact .lst (hT _ _ hv) (all n (mapM_frz_rep S1 w0 hT hL n) _ ds ds1 rs e)
  | n + 1, _, .ref k, d', .ref hv, h => by
    simp only [deep] at h
    split at h
    · rename_i ds hk
      cases e : ds.mapM (deep n L1) with
      | none => rw [e] at h; cases h
      | some ds1 =>
        rw [e] at h
        simp at h
        subst h
        obtain ⟨a, vs, e1, h1, h2, rs⟩ := S1.lcell (.ref hv) hk
        cases e1
        exact .lst (hL _ _ _ h1 h2) (all n (mapM_frz_rep S1 w0 hT hL n) _ ds ds1 rs e)
    · cases h
  | n + 1, _, .scr k, d', .scr hv, h => by cases h
  | n + 1, _, .exn _ _, d', _, h => by cases h
where all (n : Nat) (ih : ∀ (v : V) (d d' : D), Rep K w1 v d → deep n L1 d = some d' → Rep K w0 v d') : ∀ (vs : List V) (ds ds' : List D), Reps K w1 vs ds → ds.mapM (deep n L1) = some ds' → Reps K w0 vs ds'
  | _, [], ds', .nil, h => by
    simp at h
    subst h
    exact .nil
  | _, d :: ds, ds', .cons r rs, h => by
    rw [List.mapM_cons] at h
    cases e : deep n L1 d with
    | none => rw [e] at h; simp at h
    | some d1 =>
      rw [e] at h
      cases e2 : ds.mapM (deep n L1) with
      | none => rw [e2] at h; simp at h
      | some ds1 =>
        rw [e2] at h
        simp at h
        subst h
        exact .cons (ih _ d d1 r e) (all n ih _ ds ds1 rs e2)
end
end Rg
namespace Rg
open PySem PySem.Spec L2
open PyProof.Rows hiding St
mutual
theorem deep_pure {L : Hh} : ∀ (n : Nat) (d d' : D), D.pure d = true → deep n L d = some d' → d' = d
  | 0, _, _, _, h => by cases h
  | n + 1, .non, _, _, h => by cases h; rfl
  | n + 1, .bl _, _, _, h => by cases h; rfl
  | n + 1, .int _, _, _, h => by cases h; rfl
  | n + 1, .str _, _, _, h => by cases h; rfl
  | n + 1, .tup xs, d', q, h => by
    simp only [deep] at h
    cases e : xs.mapM (deep n L) with
    | none => rw [e] at h; cases h
    | some ds1 =>
      rw [e] at h
      simp at h
      subst h
      rw [deeps_pure n xs ds1 (by simpa [D.pure] using q) e]
  | n + 1, .lst xs, d', q, h => by
    simp only [deep] at h
    cases e : xs.mapM (deep n L) with
    | none => rw [e] at h; cases h
    | some ds1 =>
      rw [e] at h
      simp at h
      subst h
      rw [deeps_pure n xs ds1 (by simpa [D.pure] using q) e]
  | n + 1, .ref _, _, q, h => by simp [D.pure] at q
  | n + 1, .exn _ _, _, q, h => by simp [D.pure] at q
  | n + 1, .scr _, _, q, h => by simp [D.pure] at q
theorem deeps_pure {L : Hh} : ∀ (n : Nat) (ds ds' : List D), D.pures ds = true → ds.mapM (deep n L) = some ds' → ds' = ds
  | n, [], ds', _, h => by
    simp at h
    exact h
  | n, d :: ds, ds', q, h => by
    simp only [D.pures, Bool.and_eq_true] at q
    rw [List.mapM_cons] at h
    cases e : deep n L d with
    | none => rw [e] at h; simp at h
    | some d1 =>
      rw [e] at h
      cases e2 : ds.mapM (deep n L) with
      | none => rw [e2] at h; simp at h
      | some ds1 =>
        rw [e2] at h
        simp at h
        subst h
        rw [deep_pure n d d1 q.1 e, deeps_pure n ds ds1 q.2 e2]
end
section
variable {K : PySem.W.Frag} {mg : Str → Option Value}
mutual
theorem Rep.pureF {w w2 : Wd} (hT : Same w.F w2.F) : ∀ {v : V} {d : D}, Rep K w v d → D.pure d = true → Rep K w2 v d
  | _, _, .non, _ => .non
  | _, _, .bl b, _ => .bl b
  | _, _, .int i, _ => .int i
  | _, _, .str h, _ => .str h
  | _, _, .tup h r, q => .tup (hT _ _ h) (Reps.pureF hT r (by simpa [D.pure] using q))
  | _, _, .lst h r, q => .lst (hT _ _ h) (Reps.pureF hT r (by simpa [D.pure] using q))
  | _, _, .scr h, q => by simp [D.pure] at q
  | _, _, .ref e, q => by simp [D.pure] at q
  | _, _, .exn, q => by simp [D.pure] at q
  | _, _, .exf _ _ _ _, q => by simp [D.pure] at q
theorem Reps.pureF {w w2 : Wd} (hT : Same w.F w2.F) : ∀ {vs : List V} {ds : List D}, Reps K w vs ds → D.pures ds = true → Reps K w2 vs ds
  | _, _, .nil, _ => .nil
  | _, _, .cons h r, q => by
    simp only [D.pures, Bool.and_eq_true] at q
    exact .cons (Rep.pureF hT h q.1) (Reps.pureF hT r q.2)
end
/-- the frozen part with our lists lent -/
def lent (w1 : Wd) (H1 : Hp) : Hp := fun a => if a ∈ w1.io then (match H1 a with
  | some (.lst vs) => some (.lst vs)
  | _ => none) else w1.F a
theorem lent_out {w1 : Wd} {H1 : Hp} {b : Addr} (h : b ∉ w1.io) : lent w1 H1 b = w1.F b := if_neg h
theorem lent_in {w1 : Wd} {H1 : Hp} {b : Addr} {vs : List V} (h : b ∈ w1.io) (e : H1 b = some (.lst vs)) : lent w1 H1 b = some (.lst vs) := by
  unfold lent
  rw [if_pos h, e]
theorem lent_same {B : Bs} {w1 : Wd} {H1 : Hp} {L1 : Hh} (S1 : StR K mg B w1 H1 L1) : Same w1.F (lent w1 H1) := fun b o e => by
  rw [lent_out (fun hm => by
    obtain ⟨n, hn⟩ := List.getElem?_of_mem hm
    rw [S1.out n b hn] at e
    cases e)]
  exact e
theorem lent_sub {B : Bs} {w1 : Wd} {H1 : Hp} {L1 : Hh} (S1 : StR K mg B w1 H1 L1) : Same (lent w1 H1) H1 := fun b o e => by
  by_cases hm : b ∈ w1.io
  · unfold lent at e
    rw [if_pos hm] at e
    split at e
    · rename_i vs hv
      cases e
      exact hv
    · cases e
  · rw [lent_out hm] at e
    exact S1.sub b o e
theorem frz_pure {L : Hh} {d d' : D} (q : D.pure d = true) (h : frz L d = some d') : d' = d := by
  cases d with
  | scr ns => simp [D.pure] at q
  | exn c fs => simp [D.pure] at q
  | _ => exact deep_pure (L := L) 8 _ d' q h
theorem frzs_pure {L : Hh} : ∀ {ds ds' : List D}, D.pures ds = true → ds.mapM (frz L) = some ds' → ds' = ds
  | [], ds', _, h => by
    simp at h
    exact h
  | d :: ds, ds', q, h => by
    simp only [D.pures, Bool.and_eq_true] at q
    rw [List.mapM_cons] at h
    cases e : frz L d with
    | none => rw [e] at h; simp at h
    | some d1 =>
      rw [e] at h
      cases e2 : ds.mapM (frz L) with
      | none => rw [e2] at h; simp at h
      | some ds1 =>
        rw [e2] at h
        simp at h
        subst h
        rw [frz_pure q.1 e, frzs_pure q.2 e2]
theorem frzs_rep {L1 : Hh} {w1 w0 : Wd} (ih : ∀ (v : V) (d d' : D), Rep K w1 v d → frz L1 d = some d' → Rep K w0 v d') : ∀ {vs : List V} {ds ds' : List D}, Reps K w1 vs ds → ds.mapM (frz L1) = some ds' → Reps K w0 vs ds'
  | _, [], ds', .nil, h => by
    simp at h
    subst h
    exact .nil
  | _, d :: ds, ds', .cons r rs, h => by
    rw [List.mapM_cons] at h
    cases e : frz L1 d with
    | none => rw [e] at h; simp at h
    | some d1 =>
      rw [e] at h
      cases e2 : ds.mapM (frz L1) with
      | none => rw [e2] at h; simp at h
      | some ds1 =>
        rw [e2] at h
        simp at h
        subst h
        exact .cons (ih _ d d1 r e) (frzs_rep ih rs e2)
/-- the state in which a callee starts by itself -/
theorem StR.alone {F0 H1 : Hp} (h : Same F0 H1) : StR K mg ⟨⟨F0, []⟩, H1⟩ ⟨F0, []⟩ H1 [] :=
  ⟨h, rfl, List.nodup_nil, fun n a e => (by simp at e), fun n a c e => (by simp at e), Wd.le.refl _, fun _ _ e _ => e, fun _ h => .inl h, fun n a e => (by simp at e)⟩
theorem no_tup_in {B : Bs} {w1 w' : Wd} {H1 H' : Hp} {L1 L2 : Hh} {F0 : Hp} (S1 : StR K mg B w1 H1 L1) (S' : StR K mg ⟨⟨F0, []⟩, H1⟩ w' H' L2) {a : Addr} {vs : List V} (h : w'.F a = some (.tup vs)) : a ∉ w1.io := fun hm => by
  obtain ⟨n, hn⟩ := List.getElem?_of_mem hm
  have hl : n < L1.length := by rw [← S1.len]; exact (List.getElem?_eq_some_iff.mp hn).1
  have c := S1.cell n a L1[n] hn (List.getElem?_eq_getElem hl)
  obtain ⟨o, ho⟩ := S1.some_of hn
  have h2 := S'.keep a o ho (fun z => nomatch z)
  rw [S'.sub _ _ h] at h2
  cases h2
  rw [ho] at c
  cases c
theorem ExR.carry {w' w2 : Wd} {H' : Hp} {cls : Value} {dd : Option Addr} {e : Ex} (hT : ∀ a vs, w'.F a = some (.tup vs) → w2.F a = some (.tup vs)) (q : e.fs.all (fun p => p.2.pure && p.2.nolst) = true) (h : ExR K mg w' H' cls dd e) : ExR K mg w2 H' cls dd e := by
  obtain ⟨C, h1, h2, h3⟩ := h
  refine ⟨C, h1, h2, h3.imp id fun ⟨p, fs, h4, h5, h6, h7⟩ => ⟨p, fs, h4, h5, h6, ?_⟩⟩
  clear h4
  have gen : ∀ {xs : List (Str × V)} {ys : List (String × D)}, ys.all (fun p => p.2.pure && p.2.nolst) = true → RepF K w' xs ys → RepF K w2 xs ys := by
    intro xs ys q r
    induction r with
    | nil => exact .nil
    | @cons a b as bs r t ih =>
      rw [List.all_cons, Bool.and_eq_true, Bool.and_eq_true] at q
      refine .cons ⟨r.1, ?_⟩ (ih q.2)
      have := Rep.carry (k := 0) (w2 := ⟨w2.F, w'.io⟩) hT (fun n a e => e) r.2 q.1.2
      rw [D.shift_pure q.1.1] at this
      exact Rep.pureF (w := ⟨w2.F, w'.io⟩) (w2 := w2) (fun _ _ e => e) this q.1.1
  exact gen q h7
end
section
variable {X : Cx} {k : Nat} {f : Addr} {fd : FuncData} {ps : List Str} {fm : Fn} {x : Str} {e : Expr} {es : List Expr} {fa : M (List D)} {p pos : Pos}
/-- the reading of a call on lent data -/
theorem callI_ok {B : Bs} {w1 : Wd} {σ : L2.St} {W : WX} {H1 : Hp} {L1 : Hh} {vs : List V} {ds : List D} {Q : VK} {n : Nat} (S1 : StR X.K X.mg B w1 H1 L1) (r1 : Reps X.K w1 vs ds) (hn : ds.length = n) (h : PostE X.K X.mg B w1 σ W (callI fm ds L1) Q) :
    spG X.K X.mg n fm vs H1 Q (fun cls d H' => W cls d σ H') := by
  refine ⟨by rw [r1.length, hn], ?_⟩
  simp only [callI] at h
  cases em : ds.mapM (frz L1) with
  | none => rw [em] at h; exact h.elim
  | some ds' =>
    rw [em] at h
    dsimp only at h
    by_cases hp : D.pures ds = true
    · -- nothing is lent
      have ed : ds' = ds := frzs_pure hp em
      subst ed
      refine ⟨⟨w1.F, []⟩, [], ds', StR.alone S1.sub, Reps.pureF (w := w1) (w2 := ⟨w1.F, []⟩) (fun _ _ e => e) r1 hp, ?_⟩
      revert h
      cases fm ds' [] with
      | none => exact fun h => h
      | some q =>
        obtain ⟨r, L2⟩ := q
        cases r with
        | ok d =>
          intro h
          dsimp only at h
          rw [if_pos (.inl hp)] at h
          intro w' v H' l' S' rv
          have hF : Same w'.F (fun a => if a ∈ w1.io then none else w'.F a) := fun b o e => by
            have hb : b ∉ w1.io := fun hm => by
              rcases S'.newF b (by rw [e]; simp) with h | h | ⟨o', h, k⟩
              · obtain ⟨n, hn⟩ := List.getElem?_of_mem hm
                exact h (S1.out n b hn)
              · obtain ⟨n, hn⟩ := List.getElem?_of_mem hm
                obtain ⟨o', ho⟩ := S1.some_of hn
                have h' : H1 b = none := h
                rw [ho] at h'
                cases h'
              · exact S1.no_kn h k hm
            show (if b ∈ w1.io then none else w'.F b) = some o
            rw [if_neg hb]
            exact e
          obtain ⟨l2, S2⟩ := S1.merge (L3 := L2.map (Cell.shift L1.length)) (F0 := w1.F) (fun _ _ => rfl) l' S' (by simp) fun w2 o c n e1 e2 e3 e4 => ⟨Cell.shift L1.length c, by rw [List.getElem?_map, e3]; rfl, CellR.carryAll (by rw [e1]; exact hF) (by rw [← S1.len]; exact e2) e4⟩
          refine h _ v H' l2 S2 (Rep.carryAll hF (fun n a e => ?_) rv)
          show (w1.io ++ w'.io)[n + L1.length]? = some a
          rw [← S1.len, List.getElem?_append_right (by omega), Nat.add_sub_cancel]
          exact e
        | ex e =>
          intro h
          dsimp only at h
          split at h
          · rename_i hq
            intro w' H' cls dd l' S' x
            obtain ⟨l2, S2⟩ := S1.merge (L2 := []) (L3 := []) (w' := ⟨w'.F, []⟩) (F0 := w1.F) (fun _ _ => rfl) ⟨l'.1, [], rfl⟩ ⟨S'.sub, rfl, List.nodup_nil, fun n a e => (by simp at e), fun n a c e => (by simp at e), ⟨l'.1, [], rfl⟩, S'.keep, S'.newF, fun n a e => (by simp at e)⟩ rfl fun w2 o c n e1 e2 e3 e4 => (by simp at e3)
            rw [show L1 ++ ([] : Hh) = L1 from List.append_nil _] at S2
            refine h _ H' cls dd l2 S2 (ExR.carry (fun a vs hv => ?_) hq x)
            show (if a ∈ w1.io then none else w'.F a) = _
            rw [if_neg (no_tup_in S1 S' hv)]
            exact hv
          · exact h.elim
    · -- our lists are lent
      have hr : Reps X.K ⟨lent w1 H1, []⟩ vs ds' := frzs_rep (fun v d d' r e => by
        cases r with
        | scr h =>
          cases e
          exact .scr ((lent_same S1).seq h)
        | exn =>
          cases e
          exact .exn
        | exf h r p q =>
          cases e
          exact .exf (lent_same S1 _ _ h) (Rep.pureF (w2 := ⟨lent w1 H1, []⟩) (lent_same S1) r p) p q
        | non => exact mapM_frz_rep S1 ⟨lent w1 H1, []⟩ (lent_same S1) (fun n a vs e1 e2 => lent_in (List.mem_of_getElem? e1) e2) 8 _ _ d' .non e
        | bl b => exact mapM_frz_rep S1 ⟨lent w1 H1, []⟩ (lent_same S1) (fun n a vs e1 e2 => lent_in (List.mem_of_getElem? e1) e2) 8 _ _ d' (.bl b) e
        | int i => exact mapM_frz_rep S1 ⟨lent w1 H1, []⟩ (lent_same S1) (fun n a vs e1 e2 => lent_in (List.mem_of_getElem? e1) e2) 8 _ _ d' (.int i) e
        | str h => exact mapM_frz_rep S1 ⟨lent w1 H1, []⟩ (lent_same S1) (fun n a vs e1 e2 => lent_in (List.mem_of_getElem? e1) e2) 8 _ _ d' (.str h) e
        | tup h t => exact mapM_frz_rep S1 ⟨lent w1 H1, []⟩ (lent_same S1) (fun n a vs e1 e2 => lent_in (List.mem_of_getElem? e1) e2) 8 _ _ d' (.tup h t) e
        | lst h t => exact mapM_frz_rep S1 ⟨lent w1 H1, []⟩ (lent_same S1) (fun n a vs e1 e2 => lent_in (List.mem_of_getElem? e1) e2) 8 _ _ d' (.lst h t) e
        | ref h => exact mapM_frz_rep S1 ⟨lent w1 H1, []⟩ (lent_same S1) (fun n a vs e1 e2 => lent_in (List.mem_of_getElem? e1) e2) 8 _ _ d' (.ref h) e) r1 em
      refine ⟨⟨lent w1 H1, []⟩, [], ds', StR.alone (lent_sub S1), hr, ?_⟩
      revert h
      cases fm ds' [] with
      | none => exact fun h => h
      | some q =>
        obtain ⟨r, L2⟩ := q
        cases r with
        | ok d =>
          intro h
          dsimp only at h
          split at h
          · rename_i hq
            have hq := hq.resolve_left hp
            intro w' v H' l' S' rv
            have hF : ∀ a vs, w'.F a = some (.tup vs) → (fun a => if a ∈ w1.io then none else w'.F a) a = some (.tup vs) := fun a vs hv => by
              show (if a ∈ w1.io then none else w'.F a) = _
              rw [if_neg (no_tup_in S1 S' hv)]
              exact hv
            obtain ⟨l2, S2⟩ := S1.merge (L3 := L2.map (Cell.shift L1.length)) (F0 := lent w1 H1) (fun _ hb => lent_out hb) l' S' (by simp) fun w2 o c n e1 e2 e3 e4 => ⟨Cell.shift L1.length c, by rw [List.getElem?_map, e3]; rfl, CellR.carry (by rw [e1]; exact hF) (by rw [← S1.len]; exact e2) e4 (by
              have := hq.2
              rw [List.all_eq_true] at this
              exact this c (List.mem_of_getElem? e3))⟩
            refine h _ v H' l2 S2 (Rep.carry hF (fun n a e => ?_) rv hq.1)
            show (w1.io ++ w'.io)[n + L1.length]? = some a
            rw [← S1.len, List.getElem?_append_right (by omega), Nat.add_sub_cancel]
            exact e
          · exact h.elim
        | ex e =>
          intro h
          dsimp only at h
          split at h
          · rename_i hq
            intro w' H' cls dd l' S' x
            obtain ⟨l2, S2⟩ := S1.merge (L2 := []) (L3 := []) (w' := ⟨w'.F, []⟩) (F0 := lent w1 H1) (fun _ hb => lent_out hb) ⟨l'.1, [], rfl⟩ ⟨S'.sub, rfl, List.nodup_nil, fun n a e => (by simp at e), fun n a c e => (by simp at e), ⟨l'.1, [], rfl⟩, S'.keep, S'.newF, fun n a e => (by simp at e)⟩ rfl fun w2 o c n e1 e2 e3 e4 => (by simp at e3)
            rw [show L1 ++ ([] : Hh) = L1 from List.append_nil _] at S2
            refine h _ H' cls dd l2 S2 (ExR.carry (fun a vs hv => ?_) hq x)
            show (if a ∈ w1.io then none else w'.F a) = _
            rw [if_neg (no_tup_in S1 S' hv)]
            exact hv
          · exact h.elim
theorem pde_call (n : Nat) (F : FnOk X.prog X.w X.K X.mg X.base (L2N.CX X.prog X.w) k f fd ps (spG X.K X.mg n fm)) (hr : Room k X.A) (hm : X.mg x = some (.ref f)) (hk : PySem.W.keepIn X.K (.ref f) = true) (hb : Binds X.K fd ps []) (ha : PDA X (e :: es) fa)
    (hg : Gl X x := by rfl) (hdb : (x == ("__debug__" : Str)) = false := by decide) (he : starEach (e :: es) X.env = (false, eval e X.env) :: starEach es X.env := by rfl) (hpl : (backTo pos (starEach es X.env)).any (·.1) = false := by rfl) :
    PDE X (.Call (.Name x p) (e :: es) [] pos) (eCall n fm fa) := fun W tk =>
  (pe_callS F hr hg hm hk hb (fun σ => passAt tk σ) (ha W tk) hdb he hpl).imp fun σ H Q ⟨B, w, env, L, S, R, h⟩ => by
    refine tA_bnd S R h fun w1 vs H1 ds L1 l1 S1 r1 h1 => ?_
    split at h1
    · rename_i hn
      exact callI_ok S1 r1 hn h1
    · exact h1.elim
end
end Rg
namespace Rg
open PySem PySem.Spec L2
open PyProof.Rows hiding St
/-! ### sorted -/
theorem dataLe_tups : PySem.W.dataLe false (fun r : List Int => PyData.tuple (r.map .int)) = leT := by
  funext p q
  have h1 : PySem.W.dataLe false (fun r : List Int => PyData.tuple (r.map .int)) p q = !PySem.W.dataLt (.tuple (q.map .int)) (.tuple (p.map .int)) := rfl
  rw [h1, PySem.W.dataLt_tuple]
  have h2 : PyProof.Rows.lexLt itemOrd (PySem.W.keyToksAll (q.map .int)) (PySem.W.keyToksAll (p.map .int)) = decide (q < p) := PySem.W.dataLt_ints q p
  rw [h2, leT]
  by_cases h : q < p
  · rw [decide_eq_true h, decide_eq_false (fun r => List.not_lt.mpr r h)]
    rfl
  · rw [decide_eq_false h, decide_eq_true (List.not_lt.mp h)]
    rfl
theorem dataLe_nums : PySem.W.dataLe false (fun i : Int => PyData.int i) = leI := PySem.W.dataLe_int fun i => i
theorem mapM_keyI : ∀ {ds : List D} {ns : List Int}, ds.mapM keyI = some ns → ds = ns.map D.int
  | [], ns, h => by
    simp at h
    subst h
    rfl
  | d :: ds, ns, h => by
    rw [List.mapM_cons] at h
    cases d with
    | int i =>
      cases e2 : ds.mapM keyI with
      | none => rw [e2] at h; simp [keyI] at h
      | some ms =>
        rw [e2] at h
        simp [keyI] at h
        subst h
        rw [mapM_keyI e2]
        rfl
    | _ => simp [keyI] at h
theorem mapM_keyT : ∀ {ds : List D} {rs : List (List Int)}, ds.mapM keyT = some rs → ds = rs.map (fun r => D.tup (r.map D.int)) ∧ ∀ r ∈ rs, r ≠ []
  | [], rs, h => by
    simp at h
    subst h
    exact ⟨rfl, by simp⟩
  | d :: ds, rs, h => by
    rw [List.mapM_cons] at h
    have hd : ∀ d r, keyT d = some r → d = D.tup (r.map D.int) ∧ r ≠ [] := fun d r e => by
      cases d with
      | tup xs =>
        cases xs with
        | nil => cases e
        | cons x xs =>
          have e' : (x :: xs).mapM keyI = some r := e
          have := mapM_keyI e'
          refine ⟨by rw [this], fun z => ?_⟩
          subst z
          cases this
      | _ => cases e
    cases e1 : keyT d with
    | none => rw [e1] at h; simp at h
    | some r =>
      rw [e1] at h
      cases e2 : ds.mapM keyT with
      | none => rw [e2] at h; simp at h
      | some ms =>
        rw [e2] at h
        simp at h
        subst h
        obtain ⟨h1, h2⟩ := mapM_keyT e2
        obtain ⟨h3, h4⟩ := hd d r e1
        refine ⟨by rw [h1, h3]; rfl, fun x hx => ?_⟩
        rcases List.mem_cons.mp hx with rfl | hx
        · exact h4
        · exact h2 x hx
section
variable {X : Cx}
/-- items that stand for the data enc b -/
theorem each_of {K : PySem.W.Frag} {w : Wd} {β : Type} (enc : β → D) : ∀ {vs : List V} {us : List Value} {bs : List β}, Reps K w vs (bs.map enc) → Vals vs us → PySem.W.EachIs (fun u b => ∃ v, RelV v u ∧ Rep K w v (enc b)) us bs
  | _, _, [], r, rv => by
    cases r
    cases rv
    exact .nil
  | _, _, b :: bs, r, rv => by
    cases r with
    | cons h t =>
      cases rv with
      | cons h2 t2 => exact .cons ⟨_, h2, h⟩ (each_of enc t t2)
theorem of_each {K : PySem.W.Frag} {w : Wd} {β : Type} (enc : β → D) : ∀ {us : List Value} {bs : List β}, PySem.W.EachIs (fun u b => ∃ v, RelV v u ∧ Rep K w v (enc b)) us bs → ∃ vs, Vals vs us ∧ Reps K w vs (bs.map enc)
  | _, _, .nil => ⟨[], .nil, .nil⟩
  | _, _, .cons ⟨v, h1, h2⟩ t => by
    obtain ⟨vs, r1, r2⟩ := of_each enc t
    exact ⟨v :: vs, .cons h1 r1, .cons h2 r2⟩
/-- sorted of a list of data that reads as pd -/
def rSortD (X : Cx) (w : Wd) {β : Type} (enc : β → D) (pd : β → PyData) (bs : List β) : List V → Hp → VK → Prop := fun xs H Q => ∃ (a : Addr) (vs : List V), xs = [.ref a] ∧ SqL X.K H a vs ∧ Reps X.K w vs (bs.map enc) ∧ bs.length ≤ 10000 ∧ (∀ v b, Rep X.K w v (enc b) → b ∈ bs → Dp X.K H v (pd b)) ∧
  PySem.W.AllAlike (bs.map pd) ∧ PySem.W.Sortable (bs.map pd) ∧ (∀ b, b ∈ bs → (pd b).depth ≤ 10) ∧ ∀ p us, H p = none → Reps X.K w us ((bs.mergeSort (PySem.W.dataLe false pd)).map enc) → Q (.ref p) (upd H p (.lst us))
theorem each_reads {pins : List (Addr × Obj)} {σ : L2.St} {H : Hp} {s : Shared} {w : Wd} {β : Type} {enc : β → D} {pd : β → PyData} (I : Inv X pins σ H s) : ∀ {us : List Value} {bs : List β}, (∀ v b, Rep X.K w v (enc b) → b ∈ bs → Dp X.K H v (pd b)) → PySem.W.EachIs (fun u b => ∃ v, RelV v u ∧ Rep X.K w v (enc b)) us bs →
    PySem.W.EachIs (fun v b => ∃ as, Reads s.heap v (pd b) as) us bs
  | _, _, _, .nil => .nil
  | _, _, hD, .cons ⟨v, h1, h2⟩ t => .cons (Dp.reads I _ v _ (hD v _ h2 List.mem_cons_self) h1) (each_reads I (fun v b r hb => hD v b r (List.mem_cons_of_mem _ hb)) t)
theorem call_sortD (hu : X.A.units + 64 < cLine) {w : Wd} {β : Type} {enc : β → D} {pd : β → PyData} {bs : List β} : CallR X (.builtin "sorted") (rSortD X w enc pd bs) := by
  intro pins s σ H xs us Q I r h
  obtain ⟨a, vs, rfl, hs, hr, hl, hD, hal, hsort, hdep, q⟩ := h
  obtain ⟨u, rfl, ru⟩ := vals1 r
  cases ru
  obtain ⟨its, rv, pl, hz⟩ := I.list hs
  have hE := each_of enc hr rv
  refine PySem.W.sorted_data (R := fun u b => ∃ v, RelV v u ∧ Rep X.K w v (enc b)) pl.isList hE (each_reads I hD hE) hal hsort (le_line hl) (fun b hb => ?_) fun out hlen hout => ?_
  · have := hdep b hb
    omega
  · obtain ⟨zs, r1, r2⟩ := of_each enc hout
    obtain ⟨ep, he'⟩ := PyProof.Rows.sortedAll_at s.heap its (List.toArray out)
    refine ⟨.ref _, upd H (s.heap.objs.size + 1) (.lst zs), I.laid (t' := s.toks) (fun _ _ => PyProof.Rows.sortedAll_old) (Nat.le_succ _) ⟨?_, out, ep, r1, he'⟩, rfl, q _ zs (I.hok.fresh (Nat.le_succ _)) r2⟩
    rw [r1.length, hlen]
    exact le_line hl
theorem depth_ints : ∀ xs : List Int, PyData.depthAll (xs.map .int) = 0 := PySem.W.depth_ints
theorem dp_tup {H : Hp} {w : Wd} {v : V} {r : List Int} (hs : Same w.F H) (h : Rep X.K w v (.tup (r.map .int))) : Dp X.K H v (.tuple (r.map .int)) := by
  cases h with
  | tup hv rs =>
    refine .tup (SqT.of (hs _ _ hv)) ?_
    have : ∀ {vs : List V} {r : List Int}, Reps X.K w vs (r.map D.int) → DpAll X.K H vs (r.map PyData.int) := by
      intro vs r
      induction r generalizing vs with
      | nil =>
        intro h
        cases h
        exact .nil
      | cons i r ih =>
        intro h
        cases h with
        | cons h t =>
          cases h
          exact .cons (.int i) (ih t)
    exact this rs
/-- sorted of a tuple of numbers -/
theorem srt_tuple {prog : Program} {W : World} {A : Around} {E : Value → Shared → Prop} {s : Shared} {a : Addr} {o : Obj} {its : List Value} {n : Nat} {ns : List Int} {Q : Value → Shared → Prop} (ho : s.heap.get? a = some o) (hc : o.cls = .type "tuple") (hd : o.data = .seq its.toArray n) (hi : IntsAre its ns) (hz : its.length ≤ sizeLine)
    (h : ∀ (h1 h' : Heap) (out : List Value) (e : Nat), (∀ b u, s.heap.get? b = some u → h1.get? b = some u) → (∀ b u, h1.get? b = some u → h'.get? b = some u) → h'.get? h1.objs.size = some { cls := .type "list", data := .seq out.toArray e } → IntsAre out (out.map SrtO.iv) → (out.map SrtO.iv).Perm ns → (out.map SrtO.iv).Pairwise (· ≤ ·) → Q (.ref h1.objs.size) { s with heap := h' }) :
    wpAny (model prog W) A (call (.builtin "sorted") [.ref a]) Q E s := by
  refine Calls.call_function_entry kind_sorted plain_sorted entry_sorted (args_sorted1 _) ?_
  unfold Builtin.«sorted»
  refine wpAny_bind (m := checkCount "sorted" 1 1 _) (wpAny_pure ?_)
  refine wpAny_bind (wpAny_collect_seq a (.inr rfl) ho hc hd (fun h1 k1 => ?_) (by rw [List.size_toArray]; exact hz))
  have ez : its.toArray.toList = its := by simp
  rw [ez]
  refine wpAny_bind (wpAny_newList ?_ hz)
  have hL : (h1.push (seqObj "list" its.toArray 0)).get? h1.objs.size = some (seqObj "list" its.toArray 0) := Heap.get?_push_size _ rfl
  refine wpAny_bind (wpAny_holding (wpAny_call_entry slot_list_sort ⟨_, hL, rfl⟩ entry_list_sort (SrtO.list_sort_ord SrtO.swo_int hL hz (fun h2 => SrtO.ints_sortable hi h2) fun out hs hb => ⟨_, rfl, ?_⟩) (args_list_sort _)))
  obtain ⟨k2, k3, k4⟩ := SrtO.ints_out hi hs hb
  obtain ⟨ep, he'⟩ := PyProof.Rows.sortedHeap_at (vs := its) (out := out.toArray) hL
  refine wpAny_pure ⟨_, rfl, h h1 _ out ep k1 (fun b u e1 => ?_) he' k2 k3 k4⟩
  exact (PyProof.Rows.sortedHeap_old (Nat.ne_of_lt (Heap.lt_size e1)) (Heap.lt_size (Heap.get?_push_of_some _ e1))).trans (Heap.get?_push_of_some _ e1)
/-- a sorted list of numbers is the one that mergeSort gives -/
theorem perm_sorted {xs ys : List Int} (h1 : xs.Perm ys) (h2 : xs.Pairwise (· ≤ ·)) : xs = ys.mergeSort leI := by
  have h3 : (ys.mergeSort leI).Pairwise (· ≤ ·) := by
    have := List.pairwise_mergeSort (le := leI) (fun a b c h1 h2 => by simp [leI] at *; omega) (fun a b => by simp [leI]; omega) ys
    exact this.imp fun h => by simpa [leI] using h
  have h4 : xs.Perm (ys.mergeSort leI) := h1.trans (List.mergeSort_perm ys leI).symm
  exact h4.eq_of_pairwise (fun a b _ _ h1 h2 => by omega) h2 h3
def rSortTI (X : Cx) : List V → Hp → VK → Prop := fun xs H Q => ∃ (a : Addr) (ns : List Int), xs = [.ref a] ∧ SqT X.K H a (ns.map V.int) ∧ ns.length ≤ 10000 ∧ ∀ p, H p = none → Q (.ref p) (upd H p (.lst ((ns.mergeSort leI).map V.int)))
theorem call_sortTI : CallR X (.builtin "sorted") (rSortTI X) := by
  intro pins s σ H xs us Q I r h
  obtain ⟨a, ns, rfl, hs, hl, q⟩ := h
  obtain ⟨u, rfl, ru⟩ := vals1 r
  cases ru
  obtain ⟨its, rv, ⟨o, ho, hc, n, hd⟩, hz⟩ := I.tuple hs
  have hi : IntsAre its ns := intsAre_of rv
  refine srt_tuple ho hc hd hi (by rw [← rv.length]; exact hz) fun h1 h' out e k1 k2 he ho2 hp hw => ?_
  have I1 := I.kept (h' := h1) (t' := s.toks) k1
  have e1 := perm_sorted hp hw
  rw [← e1] at q
  refine ⟨.ref h1.objs.size, upd H h1.objs.size (.lst ((out.map SrtO.iv).map V.int)), I1.laid (t' := s.toks) k2 (Nat.le_refl _) ⟨?_, out, e, vals_of_ints ho2, he⟩, rfl, q _ (I1.hok.fresh (Nat.le_refl _))⟩
  rw [List.length_map, hp.length_eq]
  exact le_line hl
/-- sorted of a list of one thing -/
def rSort1 (X : Cx) : List V → Hp → VK → Prop := fun xs H Q => ∃ (a : Addr) (v : V), xs = [.ref a] ∧ SqL X.K H a [v] ∧ ∀ p, H p = none → Q (.ref p) (upd H p (.lst [v]))
theorem call_sort1 : CallR X (.builtin "sorted") (rSort1 X) := by
  intro pins s σ H xs us Q I r h
  obtain ⟨a, v, rfl, hs, q⟩ := h
  obtain ⟨u, rfl, ru⟩ := vals1 r
  cases ru
  obtain ⟨its, rv, hl, hz⟩ := I.list hs
  have hlen : its.length = 1 := by rw [← rv.length]; rfl
  refine SrtO.sorted_ord SrtO.swo_int hl.isList (by rw [← rv.length]; exact hz) (fun h2 => absurd h2 (by omega)) fun out h1 h2 => ?_
  have ho : out = its := by
    obtain ⟨i, rfl⟩ := List.length_eq_one_iff.mp hlen
    exact List.perm_singleton.mp h2.perm
  subst ho
  obtain ⟨ep, he'⟩ := PyProof.Rows.sortedAll_at s.heap out (List.toArray out)
  exact ⟨.ref _, upd H (s.heap.objs.size + 1) (.lst [v]), I.laid (t' := s.toks) (fun _ _ => PyProof.Rows.sortedAll_old) (Nat.le_succ _) ⟨hz, out, ep, rv, he'⟩, rfl, q _ (I.hok.fresh (Nat.le_succ _))⟩
theorem mergeSort_mapD {β : Type} (f : β → D) (l : List β) (le : β → β → Bool) : True := trivial
theorem callD_sorted (hu : X.A.units + 64 < cLine) : Call1 X (.builtin "sorted") opSorted := fun B w σ W H L x d Q S rx q => by
  unfold opSorted at q
  split at q
  · exact q.elim
  · rename_i ds e
    split at q
    · rename_i hl
      split at q
      · rename_i ns e2
        have ed := mapM_keyI e2
        subst ed
        rw [List.length_map] at hl
        obtain ⟨a, vs, rfl, h2, rs⟩ := S.seqOf rx e
        rcases h2 with h2 | h2
        · refine ⟨_, call_sortD hu (w := w) (enc := D.int) (pd := PyData.int) (bs := ns), a, vs, rfl, SqL.of h2, rs, hl, fun v b r _ => ?_, PySem.W.AllAlike.of fun _ _ => by simp [PySem.W.alike], PySem.W.Sortable.others fun _ => ⟨(fun z => nomatch z), fun _ z => nomatch z⟩, fun b _ => by simp [PyData.depth], fun p us hp r => ?_⟩
          · cases r
            exact .int b
          · rw [dataLe_nums] at r
            exact new_list S r q p hp
        · have ev := Reps.ints_of rs
          subst ev
          refine ⟨_, call_sortTI, a, ns, rfl, SqT.of h2, hl, fun p hp => ?_⟩
          exact new_list S (Reps.ints _) q p hp
      · split at q
        · exact q.elim
        · rename_i hx
          split at q
          · rename_i rs2 e3
            obtain ⟨ed, hne⟩ := mapM_keyT e3
            subst ed
            rw [List.length_map] at hl
            have e' : look L d = some (rs2.map fun r => D.tup (r.map D.int)) := by
              cases d with
              | tup _ => exact absurd rfl (hx _)
              | _ => exact e
            obtain ⟨a, vs, rfl, h2, rs⟩ := S.look rx e'
            refine ⟨_, call_sortD hu (w := w) (enc := fun r : List Int => D.tup (r.map D.int)) (pd := fun r => PyData.tuple (r.map .int)) (bs := rs2), a, vs, rfl, SqL.of h2, rs, hl, fun v b r _ => dp_tup S.sub r, PySem.W.AllAlike.of fun b b' => ?_, .inl fun z hz => ?_, fun b _ => ?_, fun p us hp r => ?_⟩
            · simp only [PySem.W.alike]
              exact PySem.W.alike_ints b b'
            · obtain ⟨r, hr, rfl⟩ := List.mem_map.mp hz
              cases r with
              | nil => exact absurd rfl (hne _ hr)
              | cons i r => exact ⟨_, _, rfl⟩
            · simp only [PyData.depth, depth_ints]
              omega
            · rw [dataLe_tups] at r
              exact new_list S r q p hp
          · split at q
            · rename_i he
              subst he
              have e' : look L d = some [D.tup []] := by
                cases d with
                | tup _ => exact absurd rfl (hx _)
                | _ => exact e
              obtain ⟨a, vs, rfl, h2, rs⟩ := S.look rx e'
              cases rs with
              | cons r rs =>
                cases rs
                exact ⟨_, call_sort1, a, _, rfl, SqL.of h2, fun p hp => new_list S (.cons r .nil) q p hp⟩
            · exact q.elim
    · exact q.elim
/-! ### raise -/
/-- raise C("..."), C an own class without __init__ -/
theorem pds_raise {C : Addr} {c m : Str} {cs : String} {j : Nat} {p p2 pos pos2 : Pos} (hx : PySem.W.excIn X.K C [.type "ValueError", .type "Exception", .type "BaseException", .type "object"] "ValueError.__new__" = true) (gC : X.mg (Str.ofString cs) = some (.ref C)) (kC : PySem.W.keepIn X.K (.ref C) = true) (r : Raises X (.ref C))
    (hc : c = Str.ofString cs := by rfl) (hcalm : X.calm = true := by rfl) (hg : Gl X c := by rfl) (hdb : (c == ("__debug__" : Str)) = false := by decide) :
    PDS X (.Raise (some (.Call (.Name c p) [.Constant (.str m) j p2] [] pos)) none pos2) (sRaise cs) := fun W tk => by
  subst hc
  refine PS.imp (L2N.ps_raise hcalm tk (L2N.pmk_own PySem.F.excBase_ValueError hx gC kC r hg hdb)) fun E σ H ⟨B, w, env, L, S, R, h⟩ => ?_
  exact h w σ H _ none (Wd.le.refl _) S R ⟨C, gC, rfl, .inl ⟨rfl, rfl⟩⟩
end
end Rg
namespace Rg
open PySem PySem.Spec L2
open PyProof.Rows hiding St
/-! ### defs by their names; the law's end -/
structure DefOk (P : Program) (w : World) (K : PySem.W.Frag) (mg : Str → Option Value) (base : Heap) (x : Str) (k n : Nat) (ps : List Str) (m : Fn) : Prop where
  ex : ∃ f fd, FnOk P w K mg base (L2N.CX P w) k f fd ps (spG K mg n m) ∧ mg x = some (.ref f) ∧ PySem.W.keepIn K (.ref f) = true ∧ Binds K fd ps []
theorem DefOk.mk' {P : Program} {w : World} {K : PySem.W.Frag} {mg : Str → Option Value} {base : Heap} {x : Str} {k n : Nat} {ps : List Str} {m : Fn} {f : Addr} {fd : FuncData} (h : FnOk P w K mg base (L2N.CX P w) k f fd ps (spG K mg n m)) (hm : mg x = some (.ref f)) (hk : PySem.W.keepIn K (.ref f) = true) (hb : Binds K fd ps []) :
    DefOk P w K mg base x k n ps m := ⟨f, fd, h, hm, hk, hb⟩
structure ExcOk (K : PySem.W.Frag) (mg : Str → Option Value) (cs : String) : Prop where
  ex : ∃ C, mg (Str.ofString cs) = some (.ref C) ∧ PySem.W.excIn K C [.type "ValueError", .type "Exception", .type "BaseException", .type "object"] "ValueError.__new__" = true ∧ PySem.W.keepIn K (.ref C) = true ∧ PySem.W.subIn K (.ref C) (.type "BaseException") = some true ∧ PySem.W.typeIn K (.ref C) = some (.type "type")
section
variable {X : Cx} {k n : Nat} {ps : List Str} {fm : Fn} {x : Str} {e : Expr} {es : List Expr} {fa : M (List D)} {p pos : Pos}
theorem pde_callD (d : DefOk X.prog X.w X.K X.mg X.base x k n ps fm) (hr : Room k X.A) (ha : PDA X (e :: es) fa)
    (hg : Gl X x := by rfl) (hdb : (x == ("__debug__" : Str)) = false := by decide) (he : starEach (e :: es) X.env = (false, eval e X.env) :: starEach es X.env := by rfl) (hpl : (backTo pos (starEach es X.env)).any (·.1) = false := by rfl) :
    PDE X (.Call (.Name x p) (e :: es) [] pos) (eCall n fm fa) := by
  obtain ⟨f, fd, F, hm, hk, hb⟩ := d.ex
  exact pde_call n F hr hm hk hb ha hg hdb he hpl
theorem pde_callMD (d : DefOk X.prog X.w X.K X.mg X.base x k n ps fm) (hr : Room k X.A) (ha : PDA X (e :: es) fa)
    (hg : Gl X x := by rfl) (hdb : (x == ("__debug__" : Str)) = false := by decide) (he : starEach (e :: es) X.env = (false, eval e X.env) :: starEach es X.env := by rfl) (hpl : (backTo pos (starEach es X.env)).any (·.1) = false := by rfl) :
    PDE X (.Call (.Name x p) (e :: es) [] pos) (eCallM n fm fa) := by
  obtain ⟨f, fd, F, hm, hk, hb⟩ := d.ex
  exact pde_callM n F hr hm hk hb ha hg hdb he hpl
theorem pds_raiseD {c m : Str} {cs : String} {j : Nat} {p p2 pos pos2 : Pos} (d : ExcOk X.K X.mg cs)
    (hc : c = Str.ofString cs := by rfl) (hcalm : X.calm = true := by rfl) (hg : Gl X c := by rfl) (hdb : (c == ("__debug__" : Str)) = false := by decide) :
    PDS X (.Raise (some (.Call (.Name c p) [.Constant (.str m) j p2] [] pos)) none pos2) (sRaise cs) := by
  obtain ⟨C, h1, h2, h3, h4, h5⟩ := d.ex
  exact pds_raise h2 h1 h3 (raises_own h4 h5) hc hcalm hg hdb
end
/-- the law's own promise -/
def spLaw (K : PySem.W.Frag) : Sp := fun vs H Q _ => ∃ (a : Addr) (ns : List Int), vs = [.ref a] ∧ SqL K H a (ns.map V.int) ∧ ns.length ≤ 63 ∧ ∀ H', Q (.bl true) H'
theorem law_from {m : Fn} (h : ∀ ns : List Int, ns.length ≤ 63 → ∃ L', m [.scr ns] [] = some (.ok (.bl true), L')) {K : PySem.W.Frag} {mg : Str → Option Value} : ∀ vs H Q E, spLaw K vs H Q E → spG K mg 1 m vs H Q E := fun vs H Q E ⟨a, ns, e, hs, hl, q⟩ => by
  subst e
  obtain ⟨L', e⟩ := h ns hl
  refine ⟨rfl, ⟨H, []⟩, [], [.scr ns], StR.alone (Same.refl _), .cons (.scr hs) .nil, ?_⟩
  rw [e]
  intro w' v H' _ _ r
  cases r
  exact q H'
theorem cx_none {P : Program} {w : World} {l : List PySem.Env} {H : Hp} {s : Shared} {e : Value} {s' : Shared} (h : L2N.CX P w l H s (fun _ _ _ => False) e s') : False := by
  obtain ⟨a, B, H', cls, d, _, _, _, _, _, _, _, z⟩ := h
  exact z
end Rg
namespace Rg
open PySem PySem.Spec L2
open PyProof.Rows hiding St
section
variable {X : Cx}
/-! ### list comprehensions -/
theorem EnvR.wipe {K : PySem.W.Frag} {w : Wd} {env : Env} {σ : L2.St} (R : EnvR K w env σ) : ∀ vs : List Nat, EnvR K w (wipeE env vs) (L2.wipe σ vs)
  | [] => R
  | v :: vs => by
    have h := EnvR.wipe R vs
    unfold wipeE L2.wipe
    refine ⟨by rw [List.length_set, List.length_set]; exact h.1, fun i d e => ?_⟩
    by_cases hi : v = i
    · subst hi
      by_cases hl : v < (wipeE env vs).length
      · rw [List.getElem?_set_self hl] at e
        cases e
      · rw [List.getElem?_eq_none (by rw [List.length_set]; omega)] at e
        cases e
    · rw [List.getElem?_set_ne hi] at e ⊢
      exact h.2 i d e
def tG2 (K : PySem.W.Frag) (mg : Str → Option Value) (vs : List Nat) (g : Tg) : TG := fun v σ H Q => ∃ B w env L d, StR K mg B w H L ∧ EnvR K w env σ ∧ Rep K w v d ∧ match g d env L with
  | none => False
  | some (env', L') => ∀ w' σ' H', w.le w' → StR K mg B w' H' L' → EnvR K w' env' σ' → L2.wipe σ' vs = L2.wipe σ vs → Q σ' H'
def tGs2 (K : PySem.W.Frag) (mg : Str → Option Value) (us : List Nat) (g : Tgs) : TGs := fun vs σ H Q => ∃ B w env L ds, StR K mg B w H L ∧ EnvR K w env σ ∧ Reps K w vs ds ∧ match g ds env L with
  | none => False
  | some (env', L') => ∀ w' σ' H', w.le w' → StR K mg B w' H' L' → EnvR K w' env' σ' → L2.wipe σ' us = L2.wipe σ us → Q σ' H'
def PDG2 (X : Cx) (us : List Nat) (e : Expr) (g : Tg) : Prop := PG X e (tG2 X.K X.mg us g)
def PDGs2 (X : Cx) (us : List Nat) (e : List Expr) (g : Tgs) : Prop := PGs X e (tGs2 X.K X.mg us g)
theorem wipe_set {σ : L2.St} {i : Nat} {v : Option V} : ∀ {vs : List Nat}, i ∈ vs → L2.wipe (σ.set i v) vs = L2.wipe σ vs
  | [], h => by cases h
  | u :: vs, h => by
    have comm : ∀ (vs : List Nat), i ∉ vs → L2.wipe (σ.set i v) vs = (L2.wipe σ vs).set i v := by
      intro vs
      induction vs with
      | nil => intro _; rfl
      | cons u vs ih =>
        intro hn
        simp only [List.mem_cons, not_or] at hn
        show (L2.wipe (σ.set i v) vs).set u none = ((L2.wipe σ vs).set u none).set i v
        rw [ih hn.2, List.set_comm _ _ hn.1]
    show (L2.wipe (σ.set i v) vs).set u none = (L2.wipe σ vs).set u none
    by_cases hv : i ∈ vs
    · rw [wipe_set hv]
    · have : i = u := by
        rcases List.mem_cons.mp h with h | h
        · exact h
        · exact absurd h hv
      subst this
      rw [comm vs hv, List.set_set]
theorem pdg2_var (i : Nat) {us : List Nat} {x : Str} {pos : Pos} (hN : X.N.Nodup) (hi : X.N[i]? = some x := by rfl) (hu : i ∈ us := by decide) (hx : Loc X.env.scope x := by first | exact Or.inl rfl | exact Or.inr rfl) (hf : X.fn x = true ∨ X.env.scope.names.lookup x = some .local := by first | exact .inl rfl | exact .inr rfl | assumption) : PDG2 X us (.Name x pos) (gVar i) :=
  PG.imp (pg_name hN hi hx hf) fun v σ H Q ⟨B, w, env, L, d, S, R, r, h⟩ => h w _ H (Wd.le.refl _) S (R.set i r) (wipe_set hu)
theorem pdgs2_nil {us : List Nat} : PDGs2 X us [] gNil := PGs.imp pgs_nil fun vs σ H Q ⟨B, w, env, L, ds, S, R, r, h⟩ => by
  cases r with
  | nil => exact ⟨rfl, h w σ H (Wd.le.refl _) S R rfl⟩
  | cons _ _ => exact h.elim
theorem pdgs2_cons {us : List Nat} {e : Expr} {es : List Expr} {g : Tg} {r : Tgs} (h1 : PDG2 X us e g) (h2 : PDGs2 X us es r)
    (hs : (assignEach (e :: es) X.env).map (·.2) = assign e X.env :: (assignEach es X.env).map (·.2) := by rfl) : PDGs2 X us (e :: es) (gCons g r) := PGs.imp (pgs_cons h1 h2 hs) fun vs σ H Q ⟨B, w, env, L, ds, S, R, rp, h⟩ => by
  cases rp with
  | nil => exact h.elim
  | @cons v vs d ds r1 r2 =>
    refine ⟨v, vs, rfl, B, w, env, L, d, S, R, r1, ?_⟩
    simp only [gCons] at h
    revert h
    cases g d env L with
    | none => exact fun h => h
    | some p =>
      obtain ⟨env1, L1⟩ := p
      intro h w1 σ1 H1 l1 S1 R1 z1
      refine ⟨B, w1, env1, L1, ds, S1, R1, r2.mono l1, ?_⟩
      dsimp only at h
      revert h
      cases r ds env1 L1 with
      | none => exact fun h => h
      | some p => exact fun h w2 σ2 H2 l2 S2 R2 z2 => h w2 σ2 H2 (l1.trans l2) S2 R2 (z2.trans z1)
theorem pdg2_tup (n : Nat) {us : List Nat} {es : List Expr} {k : Nat} {g : Tgs} {pos : Pos} (h : PDGs2 X us es g) (hc : X.calm = true := by rfl)
    (hn : (assignEach es X.env).length = n := by rfl) (hst : (assignEach es X.env).findIdx? (·.1) = none := by rfl) : PDG2 X us (.Tuple es k pos) (gTup n g) := PG.imp (pg_tup hc h hn hst) fun v σ H Q ⟨B, w, env, L, d, S, R, r, h⟩ => by
  cases r with
  | @tup a vs ds hs rs =>
    simp only [Rg.gTup] at h
    by_cases hl : ds.length = n
    · rw [if_pos hl] at h
      exact ⟨a, vs, rfl, SqT.of (S.sub _ _ hs), by rw [rs.length, hl], B, w, env, L, ds, S, R, rs, h⟩
    · rw [if_neg hl] at h
      exact h.elim
  | _ => exact h.elim
def PDTs (X : Cx) (e : List Expr) (f : M Bool) : Prop := ∀ W, Takes X W → PTs X e (tB1 X.K X.mg W f)
theorem _root_.L2.PTs.imp {e : List Expr} {t t' : TT} (h : PTs X e t) (hi : ∀ σ H Q, t' σ H Q → t σ H Q) : PTs X e t' := ⟨fun pins s σ H Q I q => h.run pins s σ H Q I (hi σ H Q q)⟩
theorem pdts_nil : PDTs X [] tTrue := fun W _ => pts_nil.imp fun σ H Q ⟨B, w, env, L, S, R, h⟩ => h w H (Wd.le.refl _) S
theorem pdts_one {c : Expr} {t : M Bool} (h : PDT X c t) : PDTs X [c] t := fun W tk => pts_one (h W tk)
def noW : WX := fun _ _ _ _ => False
theorem takes_no : Takes X noW := fun _ _ ⟨_, _, _, _, _, _, _, _, _, _, _, _, _, _, _, _, w⟩ => w.elim
theorem lc_imp {own : List Nat} {it : Ms} {g : Tg} {t : M Bool} {e : M D} {W : WX} (σ : L2.St) (H : Hp) (Q : VK) (h : tE X.K X.mg W (eLc own it g t e) σ H Q) : tLc (tI1 X.K X.mg W it) (tG2 X.K X.mg own g) (tB1 X.K X.mg noW t) (tE X.K X.mg noW e) own σ H Q := by
  obtain ⟨B, w, env, L, S, R, h⟩ := h
  refine ⟨B, w, env, L, S, R, ?_⟩
  simp only [eLc] at h
  cases hf : it env L with
  | none =>
    rw [hf] at h
    exact h
  | some p =>
    obtain ⟨r, L1⟩ := p
    rw [hf] at h
    cases r with
    | ex e => exact h
    | ok s =>
      simp only [bnd_ok] at h
      intro w1 J H1 l1 S1 sr D hD
      obtain ⟨l2, S2⟩ := S1.alloc hD (CellR.lst (K := X.K) (mg := X.mg) (w := w1) (vs := []) (ds := []) .nil)
      have hn : (w1.io ++ [D])[L1.length]? = some D := by rw [← S1.len]; simp
      refine ⟨fun i m H' => ∃ w' L', Wd.le ⟨w1.F, w1.io ++ [D]⟩ w' ∧ StR X.K X.mg B w' H' L' ∧ i ≤ s.xs.length ∧ m = s.xs.length - i ∧ PostE X.K X.mg B w' σ W (lcL s g t e L1.length (wipeE env own) (s.xs.drop i) L') Q,
        ⟨s.xs.length, _, _, Wd.le.refl _, S2, Nat.zero_le _, rfl, h.le (l1.trans l2)⟩, ?_⟩
      rintro i m H3 ⟨w3, L3, l3, S3, hi, rfl, h3⟩
      have l13 : w1.le w3 := l2.trans l3
      by_cases hlt : i < s.xs.length
      · refine .inr ?_
        rw [List.drop_eq_getElem_cons hlt] at h3
        simp only [lcL] at h3
        split at h3
        · rename_i hst
          obtain ⟨k1, k2⟩ := sr w3 H3 L3 l13 S3 hst i
          obtain ⟨hgo, hy⟩ := k1 hlt
          refine ⟨hgo, fun H' => ∃ w' L', Wd.le ⟨w1.F, w1.io ++ [D]⟩ w' ∧ StR X.K X.mg B w' H' L' ∧ PostE X.K X.mg B w' σ W (lcL s g t e L1.length (wipeE env own) (s.xs.drop (i + 1)) L') Q,
            fun H' ⟨w', L', q1, q2, q3⟩ => ⟨s.xs.length - (i + 1), by omega, w', L', q1, q2, hlt, rfl, q3⟩, fun x H' y => ?_⟩
          obtain ⟨w4, d, l4, S4, hd, rd⟩ := hy x H' y
          rw [List.getElem?_eq_getElem hlt] at hd
          cases hd
          refine ⟨B, w4, wipeE env own, L3, _, S4, (R.wipe own).mono (l1.trans (l13.trans l4)), rd, ?_⟩
          revert h3
          cases g s.xs[i] (wipeE env own) L3 with
          | none => exact fun h => h
          | some p =>
            obtain ⟨env5, L5⟩ := p
            intro h3 w5 σ5 H5 l5 S5 R5 z5
            dsimp only at h3
            refine ⟨by rw [z5]; exact wipe_wipe, B, w5, env5, L5, S5, R5, ?_⟩
            revert h3
            cases t env5 L5 with
            | none => exact fun h => h
            | some p =>
              obtain ⟨r6, L6⟩ := p
              cases r6 with
              | ex _ => exact fun h => h.elim
              | ok b =>
                cases b with
                | false =>
                  intro h3 w6 H6 l6 S6
                  simp only [Bool.false_eq_true, if_false]
                  exact ⟨w6, L6, l3.trans (l4.trans (l5.trans l6)), S6, h3.le (l4.trans (l5.trans l6))⟩
                | true =>
                  intro h3 w6 H6 l6 S6
                  simp only [if_true]
                  refine ⟨B, w6, env5, L6, S6, R5.mono l6, ?_⟩
                  dsimp only at h3
                  revert h3
                  cases e env5 L6 with
                  | none => exact fun h => h
                  | some p =>
                    obtain ⟨r7, L7⟩ := p
                    cases r7 with
                    | ex _ => exact fun h => h.elim
                    | ok d7 =>
                      intro h3 w7 v7 H7 l7 S7 r7
                      dsimp only at h3
                      split at h3
                      · rename_i acc hacc
                        split at h3
                        · rename_i hlen
                          have lall := l3.trans (l4.trans (l5.trans (l6.trans l7)))
                          have hD7 : w7.io[L1.length]? = some D := lall.io hn
                          obtain ⟨a, vs, e1, ha, h2, r2⟩ := S7.lcell (.ref hD7) hacc
                          cases e1
                          refine ⟨vs, h2, lt_line (m := 10000) (by rw [r2.length]; exact hlen), w7, _, lall, S7.store ha (CellR.lst (r2.append (.cons r7 .nil))), h3.le (l4.trans (l5.trans (l6.trans l7)))⟩
                        · exact h3.elim
                      · exact h3.elim
        · exact h3.elim
      · have e : i = s.xs.length := by omega
        subst e
        rw [List.drop_eq_nil_of_le (Nat.le_refl _)] at h3
        simp only [lcL] at h3
        split at h3
        · rename_i hst
          obtain ⟨k1, k2⟩ := sr w3 H3 L3 l13 S3 hst s.xs.length
          exact .inl ⟨k2 (Nat.le_refl _), h3 w3 _ H3 (Wd.le.refl _) S3 (.ref (l3.io hn))⟩
        · exact h3.elim
where
  wipe_wipe : ∀ {own : List Nat}, L2.wipe (L2.wipe σ own) own = L2.wipe σ own := by
    intro own
    have : ∀ vs : List Nat, vs ⊆ own → L2.wipe (L2.wipe σ own) vs = L2.wipe σ own := by
      intro vs
      induction vs with
      | nil => intro _; rfl
      | cons u vs ih =>
        intro hs
        show (L2.wipe (L2.wipe σ own) vs).set u none = L2.wipe σ own
        rw [ih fun x hx => hs (List.mem_cons_of_mem _ hx)]
        have hu := hs List.mem_cons_self
        clear ih hs
        have hw : ∀ (own : List Nat), u ∈ own → (L2.wipe σ own).set u none = L2.wipe σ own := by
          intro own
          induction own with
          | nil => intro h; cases h
          | cons o own ih =>
            intro h
            show ((L2.wipe σ own).set o none).set u none = (L2.wipe σ own).set o none
            by_cases e : o = u
            · subst e
              rw [List.set_set]
            · rw [List.set_comm _ _ e, ih (by
                rcases List.mem_cons.mp h with h | h
                · exact absurd h.symm e
                · exact h)]
        exact hw own hu
    exact this own fun _ h => h
theorem pde_lc {elt tg iter : Expr} {ifs : List Expr} {scope : Scope} (own : List (Str × Nat)) {pos : Pos} {it : Ms} {g : Tg} {t : M Bool} {e : M D} (hN : X.N.Nodup) (ok : BlkOk X.N X.env.scope scope own) (hi : PDI X tg iter it)
    (hg : ∀ (s : Shared) (H : Hp) (C : Addr) (cl : List (Str × Addr)) (fp : List Addr), PDG2 (X.blk s H scope (compEnvC scope cl C X.env) fp) (own.map (·.2)) tg g) (ht : ∀ (s : Shared) (H : Hp) (C : Addr) (cl : List (Str × Addr)) (fp : List Addr), PDTs (X.blk s H scope (compEnvC scope cl C X.env) fp) ifs t)
    (he : ∀ (s : Shared) (H : Hp) (C : Addr) (cl : List (Str × Addr)) (fp : List Addr), PDE (X.blk s H scope (compEnvC scope cl C X.env) fp) elt e) (hc : X.calm = true := by rfl) (hs : ∀ x, foldedSetIterable iter X.env x = pure x := by intro _; rfl) :
    PDE X (.ListComp elt [⟨tg, iter, ifs, 0⟩] scope pos) (eLc (own.map (·.2)) it g t e) := fun W tk =>
  (L2.pe_lc (g := tG2 X.K X.mg (own.map (fun p : Str × Nat => p.2)) g) (tt := tB1 X.K X.mg noW t) (te := tE X.K X.mg noW e) hc hN (hi W tk) ok hg (fun s H C cl fp => ht s H C cl fp noW takes_no) (fun s H C cl fp => he s H C cl fp noW takes_no) hs).imp lc_imp
theorem pds_setLc (i : Nat) {y : Str} {py : Pos} {elt tg iter : Expr} {ifs : List Expr} {scope : Scope} (own : List (Str × Nat)) {pos spos : Pos} {it : Ms} {g : Tg} {t : M Bool} {e : M D} (hN : X.N.Nodup) (ok : BlkOk X.N X.env.scope scope own) (hi : PDI X tg iter it)
    (hg : ∀ (s : Shared) (H : Hp) (C : Addr) (cl : List (Str × Addr)) (fp : List Addr), PDG2 (X.blk s H scope (compEnvC scope cl C X.env) fp) (own.map (·.2)) tg g) (ht : ∀ (s : Shared) (H : Hp) (C : Addr) (cl : List (Str × Addr)) (fp : List Addr), PDTs (X.blk s H scope (compEnvC scope cl C X.env) fp) ifs t)
    (he : ∀ (s : Shared) (H : Hp) (C : Addr) (cl : List (Str × Addr)) (fp : List Addr), PDE (X.blk s H scope (compEnvC scope cl C X.env) fp) elt e) (hc : X.calm = true := by rfl) (hy : X.N[i]? = some y := by rfl) (hyl : X.env.scope.names.lookup y = some .local := by rfl)
    (hsw : swapsWith (.ListComp elt [⟨tg, iter, ifs, 0⟩] scope pos) (some (.Name y py)) spos.line X.env = pure true := by exact sw_true rfl rfl rfl (by decide +kernel)) (hs : ∀ x, foldedSetIterable iter X.env x = pure x := by intro _; rfl) :
    PDS X (.Assign [.Name y py] (.ListComp elt [⟨tg, iter, ifs, 0⟩] scope pos) spos) (sSet i (eLc (own.map (·.2)) it g t e)) := fun W tk =>
  PS.imp (L2.ps_setLc (g := tG2 X.K X.mg (own.map (fun p : Str × Nat => p.2)) g) (tt := tB1 X.K X.mg noW t) (te := tE X.K X.mg noW e) hc hN hy hyl hsw (hi W tk) ok hg (fun s H C cl fp => ht s H C cl fp noW takes_no) (fun s H C cl fp => he s H C cl fp noW takes_no) hs) fun D σ H ⟨B, w, env, L, S, R, h⟩ => by
    refine lc_imp (own := own.map (·.2)) (W := W) σ H _ (?_ : tE X.K X.mg W (eLc (own.map (·.2)) it g t e) σ H _)
    refine tE_sb S R h fun w1 v H1 d L1 l1 S1 r1 h1 => ?_
    exact h1 w1 _ H1 (Wd.le.refl _) S1 ((R.mono l1).set i r1)
end
end Rg
namespace Rg
open PySem PySem.Spec L2
open PyProof.Rows hiding St
section
variable {X : Cx}
/-! ### comparisons in a chain -/
def tC1 (K : PySem.W.Frag) (mg : Str → Option Value) (W : WX) (r : D → M D) (x : V) : TE := fun σ H Q => ∃ B w env L d, StR K mg B w H L ∧ EnvR K w env σ ∧ Rep K w x d ∧ PostE K mg B w σ W (r d env L) Q
structure PDC (X : Cx) (ops : List CmpOp) (es : List Expr) (r : D → M D) : Prop where
  val : ∀ W, Takes X W → ∀ (pos : Pos) (pins : List (Addr × Obj)) (s : Shared) (σ : L2.St) (H : Hp) (x : V) (v : Value) (Q : VK), Inv X pins σ H s → RelV x v → tC1 X.K X.mg W r x σ H Q → wpAny (model X.prog X.w) X.A (compareChain pos v ops (evalEach es X.env)) (EP X pins σ Q) X.xe s
  tst : ∀ W, Takes X W → ∀ (pos : Pos) (pins : List (Addr × Obj)) (s : Shared) (σ : L2.St) (H : Hp) (x : V) (v : Value) (Q : Bool → Hp → Prop), Inv X pins σ H s → RelV x v → tC1 X.K X.mg W r x σ H (fun z H' => ∃ k, z = .bl k ∧ Q k H') → wpAny (model X.prog X.w) X.A (testChain pos v ops (evalEach es X.env)) (TP X pins σ Q) X.xe s
theorem pdc_end {op : CmpOp} {c : Expr} {g : Op2} {fc : M D} (ho : OpD X (compareOp op) g) (hc : PDE X c fc) : PDC X [op] [c] (chEnd g fc) := by
  have rd : ∀ {W : WX} {x : V} {σ : L2.St} {H : Hp} {Q : VK}, tC1 X.K X.mg W (chEnd g fc) x σ H Q → tE X.K X.mg W fc σ H fun y H2 => rAny2 X (compareOp op) x y H2 Q := by
    intro W x σ H Q ⟨B, w, env, L, d, S, R, rx, h⟩
    exact tE_bnd S R h fun w1 v H1 e L1 l1 S1 r1 h1 => ho.d _ _ _ _ _ _ _ _ _ _ _ S1 (rx.mono l1) r1 h1
  refine ⟨fun W tk pos pins s σ H x v Q I rx h => ?_, fun W tk pos pins s σ H x v Q I rx h => ?_⟩
  · exact chain_last (thn ((hc W tk).run pins s σ H _ I (rd h)) fun u s2 ⟨y, H2, I2, r2, q2⟩ => opR_any pins s2 σ H2 x y v u Q I2 rx r2 q2)
  · refine test_last (thn ((hc W tk).run pins s σ H _ I (rd h)) fun u s2 ⟨y, H2, I2, r2, q2⟩ => thn (opR_any pins s2 σ H2 x y v u _ I2 rx r2 q2) fun d' s5 ⟨z2, H5, I5, r5, k2, e2, q5⟩ => ?_)
    subst e2
    cases r5
    exact wpAny_truthy_bool ⟨H5, I5, q5⟩
theorem pdc_more {op op' : CmpOp} {ops : List CmpOp} {c e : Expr} {es : List Expr} {g : Op2} {fc : M D} {r : D → M D} (ho : OpD X (compareOp op) g) (hc : PDE X c fc) (hr : PDC X (op' :: ops) (e :: es) r) : PDC X (op :: op' :: ops) (c :: e :: es) (chMore g fc r) := by
  have rd : ∀ {W : WX} {x : V} {σ : L2.St} {H : Hp} {Q : VK}, tC1 X.K X.mg W (chMore g fc r) x σ H Q → tE X.K X.mg W fc σ H fun y H2 => rAny2 X (compareOp op) x y H2 fun z H3 => ∃ k, z = .bl k ∧ if k = true then tC1 X.K X.mg W r y σ H3 Q else Q (.bl false) H3 := by
    intro W x σ H Q ⟨B, w, env, L, d, S, R, rx, h⟩
    refine tE_bnd S R h fun w1 v H1 e L1 l1 S1 r1 h1 => ho.d B w1 σ W _ _ _ _ _ _ _ S1 (rx.mono l1) r1 ?_
    revert h1
    cases g d e L1 with
    | none => exact fun h => h
    | some p =>
      obtain ⟨r', L2⟩ := p
      cases r' with
      | ex e => exact fun h => h
      | ok b =>
        intro h1 w2 z H2 l2 S2 rz
        simp only [bnd_ok] at h1
        split at h1
        · exact ⟨true, rz.bool, iteT ⟨B, w2, env, L2, e, S2, R.mono (l1.trans l2), r1.mono l2, h1.le l2⟩⟩
        · exact ⟨false, rz.bool, iteF (h1 w2 _ H2 l2 S2 (.bl false))⟩
        · exact h1.elim
  refine ⟨fun W tk pos pins s σ H x v Q I rx h => ?_, fun W tk pos pins s σ H x v Q I rx h => ?_⟩
  · refine chain_link (thn ((hc W tk).run pins s σ H _ I (rd h)) fun u s2 ⟨y, H2, I2, r2, q2⟩ => thn (opR_any pins s2 σ H2 x y v u _ I2 rx r2 q2) fun d' s3 ⟨z, H3, I3, r3, k, e, q3⟩ => ?_)
    subst e
    cases r3
    refine wpAny_truthy_bool ?_
    cases k with
    | false => exact ite_ff ⟨.bl false, H3, I3, rfl, q3⟩
    | true => exact ite_tt (hr.val W tk _ pins s3 σ H3 y u Q I3 r2 q3)
  · refine test_link (thn ((hc W tk).run pins s σ H _ I (rd h)) fun u s2 ⟨y, H2, I2, r2, q2⟩ => thn (opR_any pins s2 σ H2 x y v u _ I2 rx r2 q2) fun d' s3 ⟨z, H3, I3, r3, k, e, q3⟩ => ?_)
    subst e
    cases r3
    refine wpAny_truthy_bool ?_
    cases k with
    | false =>
      obtain ⟨k', e', q'⟩ := q3
      cases e'
      exact ite_ff ⟨H3, I3, q'⟩
    | true => exact ite_tt (hr.tst W tk _ pins s3 σ H3 y u Q I3 r2 q3)
theorem chain_rd {fa : M D} {r : D → M D} {W : WX} {σ : L2.St} {H : Hp} {Q : VK} (h : tE X.K X.mg W (eChain fa r) σ H Q) : tE X.K X.mg W fa σ H fun x H1 => tC1 X.K X.mg W r x σ H1 Q := by
  obtain ⟨B, w, env, L, S, R, h⟩ := h
  exact tE_bnd S R h fun w1 v H1 d L1 l1 S1 r1 h1 => ⟨B, w1, env, L1, d, S1, R.mono l1, r1, h1⟩
theorem pde_chain {a r1 r2 : Expr} {op1 op2 : CmpOp} {ops : List CmpOp} {rs : List Expr} {fa : M D} {r : D → M D} {pos : Pos} (ha : PDE X a fa) (h : PDC X (op1 :: op2 :: ops) (r1 :: r2 :: rs) r) (hm : lastMarks (op1 :: op2 :: ops) (r1 :: r2 :: rs) = false := by with_unfolding_all rfl) : PDE X (.Compare a (op1 :: op2 :: ops) (r1 :: r2 :: rs) pos) (eChain fa r) := fun W tk =>
  ⟨fun pins s σ H Q I q => PyProof.Rows.Compare_chain (thn ((ha W tk).run pins s σ H _ I (chain_rd q)) fun v s1 ⟨x, H1, I1, r1, q1⟩ => h.val W tk _ pins s1 σ H1 x v Q I1 r1 q1) hm⟩
theorem pdt_chain {a r1 r2 : Expr} {op1 op2 : CmpOp} {ops : List CmpOp} {rs : List Expr} {fa : M D} {r : D → M D} {pos : Pos} (ha : PDE X a fa) (h : PDC X (op1 :: op2 :: ops) (r1 :: r2 :: rs) r) (hm : lastMarks (op1 :: op2 :: ops) (r1 :: r2 :: rs) = false := by with_unfolding_all rfl) : PDT X (.Compare a (op1 :: op2 :: ops) (r1 :: r2 :: rs) pos) (tVal (eChain fa r)) := fun W tk =>
  ⟨fun pins s σ H Q I q => PyProof.Rows.isTrue_chain (thn ((ha W tk).run pins s σ H _ I (chain_rd (tval_imp σ H Q q))) fun v s1 ⟨x, H1, I1, r1, q1⟩ => h.tst W tk _ pins s1 σ H1 x v Q I1 r1 q1) hm⟩
/-! ### in, not in -/
theorem flat_rep {w : Wd} {x : V} {d : D} (r : Rep X.K w x d) (h : flatD d = true) : flatV x = true := by
  cases r <;> first | rfl | (simp [flatD] at h)
theorem eqV_rep {w : Wd} {x y : V} {dx dy : D} (rx : Rep X.K w x dx) (ry : Rep X.K w y dy) (hx : flatD dx = true) (hy : flatD dy = true) : eqV y x = D.eqv dy dx := by
  cases rx <;> cases ry <;> first
    | (simp [flatD] at hx; done)
    | (simp [flatD] at hy; done)
    | (simp [eqV, D.eqv, tx_beq]; done)
    | skip
  all_goals
    simp only [eqV, D.eqv]
    first
      | rfl
      | (rename_i a b; cases a <;> rfl)
      | (rename_i a b; cases b <;> rfl)
theorem inV_rep {w : Wd} {x : V} {dx : D} (rx : Rep X.K w x dx) (hx : flatD dx = true) : ∀ {vs : List V} {ds : List D}, Reps X.K w vs ds → ds.all flatD = true → inV x vs = (ds.any fun z => D.eqv z dx) ∧ vs.all flatV = true
  | _, _, .nil, _ => ⟨rfl, rfl⟩
  | _, _, .cons r rs, h => by
    rw [List.all_cons, Bool.and_eq_true] at h
    obtain ⟨h1, h2⟩ := inV_rep rx hx rs h.2
    have h3 := eqV_rep rx r hx h.1
    refine ⟨?_, ?_⟩
    · show (_ :: _).any _ = _
      rw [List.any_cons, List.any_cons, h3]
      congr 1
    · rw [List.all_cons, flat_rep r h.1, h2]
      rfl
theorem any_py {L : Hh} : ∀ {zs : List D} {d : D}, D.pures zs = true → D.pure d = true → ((pys zs).any fun z => PyData.eqv z (py d)) = zs.any fun z => D.eqv z d
  | [], _, _, _ => by simp [pys]
  | z :: zs, d, h1, h2 => by
    simp only [D.pures, Bool.and_eq_true] at h1
    simp only [pys, List.any_cons]
    rw [eqv_py z d h1.1 h2, any_py (L := L) h1.2 h2]
theorem op_in_dct (hu : X.A.units + 1 < cLine) : OpR X (compareOp .In) (fun x y H Q => ∃ a o, y = .ref a ∧ DGet H a x o ∧ Q (.bl o.isSome) H) := by
  intro pins s σ H x y v u Q I rx ry h
  obtain ⟨a, o, rfl, g, q⟩ := h
  obtain rfl : u = Value.ref a := ry
  exact d_in hu I g rx fun s3 I3 => ⟨.bl o.isSome, H, I3, rfl, q⟩
theorem op_notIn_dct (hu : X.A.units + 1 < cLine) : OpR X (compareOp .NotIn) (fun x y H Q => ∃ a o, y = .ref a ∧ DGet H a x o ∧ Q (.bl (!o.isSome)) H) := by
  intro pins s σ H x y v u Q I rx ry h
  obtain ⟨a, o, rfl, g, q⟩ := h
  obtain rfl : u = Value.ref a := ry
  exact d_notIn hu I g rx fun s3 I3 => ⟨.bl (!o.isSome), H, I3, rfl, q⟩
theorem opInB_ok (hu : X.A.units + 64 + 1 < cLine) {B : Bs} {w : Wd} {H : Hp} {L : Hh} {x y : V} {dx dy : D} {b : Bool} (S : StR X.K X.mg B w H L) (rx : Rep X.K w x dx) (ry : Rep X.K w y dy) (h : opInB L dx dy = some b) :
    (∀ Q : VK, Q (.bl b) H → ∃ r, OpR X (compareOp .In) r ∧ r x y H Q) ∧ (∀ Q : VK, Q (.bl (!b)) H → ∃ r, OpR X (compareOp .NotIn) r ∧ r x y H Q) := by
  have hu' : X.A.units + 65 < cLine := hu
  unfold opInB at h
  split at h
  · rename_i s
    split at h
    · rename_i c
      cases h
      cases rx with
      | str hx =>
        cases ry with
        | str hy =>
          have e : (tx s).cps.toList = s := by simp [tx]
          refine ⟨fun Q q => ⟨_, op_in_sign, c, tx s, rfl, rfl, ?_⟩, fun Q q => ⟨_, op_notIn_sign, c, tx s, rfl, rfl, ?_⟩⟩
          · rw [e]
            exact q
          · rw [e]
            exact q
    · cases h
  · rename_i ys
    split at h
    · rename_i hf
      cases h
      cases ry with
      | @tup a vs _ hv rs =>
        obtain ⟨h1, h2⟩ := inV_rep rx hf.1 rs hf.2
        have hs : SqT X.K H a vs := SqT.of (S.sub _ _ hv)
        refine ⟨fun Q q => ⟨_, op_in_seq, a, vs, rfl, .inr hs, flat_rep rx hf.1, h2, ?_⟩, fun Q q => ⟨_, op_notIn_seq, a, vs, rfl, .inr hs, flat_rep rx hf.1, h2, ?_⟩⟩
        · rw [if_neg (by simp), h1]
          exact q
        · rw [if_pos rfl, h1]
          exact q
    · cases h
  · split at h
    · rename_i o e
      cases h
      obtain ⟨a, r, rfl, g, h1, h2⟩ := dget_ok S ry rx e
      have hb : r.isSome = o.isSome := by
        cases o with
        | none => rw [h1 rfl]; rfl
        | some d =>
          obtain ⟨v, rfl, _⟩ := h2 d rfl
          rfl
      refine ⟨fun Q q => ⟨_, op_in_dct (by omega), a, r, rfl, g, ?_⟩, fun Q q => ⟨_, op_notIn_dct (by omega), a, r, rfl, g, ?_⟩⟩
      · rw [hb]
        exact q
      · rw [hb]
        exact q
    split at h
    · rename_i zs d e1 e2
      cases h
      obtain ⟨h1, h2, h3, h4⟩ := deep_ok S 8 y dy _ ry e1
      obtain ⟨k1, k2, k3, k4⟩ := deep_ok S 8 x dx _ rx e2
      have hsy : SeqAt.shaped (.list (pys zs)) = true := by
        have h3' : PyData.canLay0 (.list (pys zs)) = true := h3
        have h4' : PyData.depth (.list (pys zs)) ≤ 8 := h4
        unfold SeqAt.shaped
        rw [h3', decide_eq_true (by omega)]
        rfl
      have hsx : SeqAt.shaped (py d) = true := by
        unfold SeqAt.shaped
        rw [k3, decide_eq_true (by omega)]
        rfl
      have ha := any_py (L := L) (zs := zs) (d := d) (by simpa [D.pure] using h2) k2
      refine ⟨fun Q q => ⟨_, op_inD hu', py d, pys zs, k1, h1, hsx, hsy, ?_⟩, fun Q q => ⟨_, op_notInD hu', py d, pys zs, k1, h1, hsx, hsy, ?_⟩⟩
      · rw [ha]
        exact q
      · rw [ha]
        exact q
    · cases h
theorem opd_in (hu : X.A.units + 64 + 1 < cLine) : OpD X (compareOp .In) opIn := fun B w σ W H L x y dx dy Q S rx ry q => by
  unfold opIn at q
  split at q
  · rename_i b e
    exact (opInB_ok hu S rx ry e).1 Q (post_bl S q)
  · exact q.elim
theorem opd_notin (hu : X.A.units + 64 + 1 < cLine) : OpD X (compareOp .NotIn) opNotIn := fun B w σ W H L x y dx dy Q S rx ry q => by
  unfold opNotIn at q
  split at q
  · rename_i b e
    exact (opInB_ok hu S rx ry e).2 Q (post_bl S q)
  · exact q.elim
/-! ### slices -/
theorem sIx_eq (n d : Nat) (o : Option Int) : HT.sIx n d o = Rg.sIx n d o := by cases o <;> rfl
theorem Reps.cut {K : PySem.W.Frag} {w : Wd} {vs : List V} {ds : List D} (r : Reps K w vs ds) (lo hi : Option Int) : Reps K w (cutV vs lo hi) (Rg.cut ds lo hi) := by
  unfold cutV Rg.cut
  rw [sIx_eq, sIx_eq, r.length]
  exact (r.drop _).take _
def rSlAny (X : Cx) : V → Option Int → Option Int → Hp → VK → Prop := fun x lo hi H Q => ∃ r, SlR X r ∧ r x lo hi H Q
theorem slR_any : SlR X (rSlAny X) := fun pins s σ H x v vl vu lo hi sl Q I rx hs pl pu ⟨_, hr, q⟩ => hr pins s σ H x v vl vu lo hi sl Q I rx hs pl pu q
def tO1 (K : PySem.W.Frag) (mg : Str → Option Value) (W : WX) (f : M (Option Int)) : TO := fun σ H Q => ∃ B w env L, StR K mg B w H L ∧ EnvR K w env σ ∧ match f env L with
  | none => False
  | some (.ok o, L') => ∀ w' H', w.le w' → StR K mg B w' H' L' → Q o H'
  | some (.ex e, L') => ∀ w' H' cls dd, w.le w' → StR K mg B w' H' L' → ExR K mg w' H' cls dd e → W cls dd σ H'
def PDO (X : Cx) (e : Option Expr) (f : M (Option Int)) : Prop := ∀ W, Takes X W → PO X e (tO1 X.K X.mg W f)
theorem _root_.L2.PO.imp {e : Option Expr} {t t' : TO} (h : PO X e t) (hi : ∀ σ H Q, t' σ H Q → t σ H Q) : PO X e t' := ⟨fun pins s σ H Q I q => h.run pins s σ H Q I (hi σ H Q q)⟩
theorem pdo_none : PDO X none pNone := fun W _ => po_none.imp fun σ H Q ⟨B, w, env, L, S, R, h⟩ => h w H (Wd.le.refl _) S
theorem pdo_some {e : Expr} {f : M D} (he : PDE X e f) : PDO X (some e) (pSome f) := fun W tk => (po_some (he W tk)).imp fun σ H Q ⟨B, w, env, L, S, R, h⟩ => by
  refine ⟨B, w, env, L, S, R, ?_⟩
  simp only [pSome] at h
  cases hf : f env L with
  | none =>
    rw [hf] at h
    exact h
  | some p =>
    obtain ⟨r, L'⟩ := p
    rw [hf] at h
    cases r with
    | ex e => exact h
    | ok d =>
      simp only [bnd_ok] at h
      cases d with
      | int i =>
        intro w1 v H1 l1 S1 r1
        cases r1
        exact ⟨_, rfl, h w1 H1 l1 S1⟩
      | _ => exact h.elim
theorem opSl_ok {B : Bs} {w : Wd} {σ : L2.St} {W : WX} {H : Hp} {L : Hh} {x : V} {d : D} {lo hi : Option Int} {Q : VK} (S : StR X.K X.mg B w H L) (rx : Rep X.K w x d) (q : PostE X.K X.mg B w σ W (opSl d lo hi L) Q) : rSlAny X x lo hi H Q := by
  unfold opSl at q
  split at q
  · rename_i s
    cases rx with
    | str hx =>
      split at q
      · rename_i hl
        refine ⟨_, sl_str, tx s, rfl, by rw [tx_len]; exact le_line hl, ?_⟩
        have e : cutS (tx s) lo hi = tx (Rg.cut s lo hi) := by
          unfold cutS Rg.cut
          rw [tx_len, sIx_eq, sIx_eq]
          simp [tx]
        rw [e]
        refine post_rep S (.str (okT_sub hx fun c hc => ?_)) q
        unfold Rg.cut at hc
        exact List.mem_of_mem_drop (List.mem_of_mem_take hc)
      · exact q.elim
  · rename_i ns
    cases rx with
    | scr h => exact ⟨_, sl_list, _, _, rfl, S.sub.seq h, new_list S ((Reps.ints ns).cut lo hi) q⟩
  · rename_i xs
    cases rx with
    | @tup a vs _ hv rs =>
      have hs : SqT X.K H a vs := SqT.of (S.sub _ _ hv)
      refine ⟨_, sl_tupA, a, vs, rfl, hs, fun hw => ?_, fun _ => new_tup S (rs.cut lo hi) q⟩
      have e : Rg.cut xs lo hi = xs := by
        unfold Rg.cut
        rw [← sIx_eq, ← sIx_eq, ← rs.length, hw.1, hw.2, rs.length]
        simp
      rw [e] at q
      exact post_rep S (.tup hv rs) q
  · split at q
    · rename_i xs e
      obtain ⟨a, vs, rfl, h2, rs⟩ := S.look rx e
      exact ⟨_, sl_list, a, vs, rfl, SqL.of h2, new_list S (rs.cut lo hi) q⟩
    · exact q.elim
theorem tO_bnd {B : Bs} {w : Wd} {σ : L2.St} {W : WX} {f : M (Option Int)} {k : Option Int → Hh → Ro D} {env : Env} {L : Hh} {H : Hp} {Q : VK} {Q1 : Option Int → Hp → Prop} (S : StR X.K X.mg B w H L) (R : EnvR X.K w env σ) (h : PostE X.K X.mg B w σ W (bnd (f env L) k) Q)
    (hk : ∀ w' o H' L', w.le w' → StR X.K X.mg B w' H' L' → PostE X.K X.mg B w' σ W (k o L') Q → Q1 o H') : tO1 X.K X.mg W f σ H Q1 := by
  refine ⟨B, w, env, L, S, R, ?_⟩
  revert h
  cases f env L with
  | none => exact fun h => h
  | some p =>
    obtain ⟨r, L'⟩ := p
    cases r with
    | ok d => exact fun h w' H' l S' => hk w' d H' L' l S' (h.le l)
    | ex e => exact fun h => h
theorem pde_slice {e : Expr} {lo hi : Option Expr} {f : M D} {fl fh : M (Option Int)} {p2 pos : Pos} (he : PDE X e f) (hl : PDO X lo fl) (hh : PDO X hi fh) : PDE X (.Subscript e (.Slice lo hi none p2) pos) (eSl f fl fh) := fun W tk =>
  (pe_slice slR_any (he W tk) (hl W tk) (hh W tk)).imp fun σ H Q ⟨B, w, env, L, S, R, h⟩ => by
    refine tE_bnd S R h fun w1 v H1 d L1 l1 S1 r1 h1 => ?_
    refine tO_bnd S1 (R.mono l1) h1 fun w2 o H2 L2 l2 S2 h2 => ?_
    refine tO_bnd S2 (R.mono (l1.trans l2)) h2 fun w3 u H3 L3 l3 S3 h3 => ?_
    exact opSl_ok S3 (r1.mono (l2.trans l3)) h3
/-! ### o[i] = .. -/
theorem dput_ok {B : Bs} {w : Wd} {H : Hp} {L L' : Hh} {n : Nat} {x y v : V} {dy d : D} (S : StR X.K X.mg B w H L) (rx : Rep X.K w x (.ref n)) (ry : Rep X.K w y dy) (rv : Rep X.K w v d) (h : dPut L n dy d = some L') : ∃ a H', x = .ref a ∧ DPut H a y v H' ∧ StR X.K X.mg B w H' L' := by
  unfold dPut at h
  split at h
  · rename_i kvs hk
    split at h
    · rename_i k e
      split at h
      · rename_i hl
        cases h
        obtain ⟨a, ho, rfl, ha, h2, c⟩ := S.dcell rx hk
        cases c with
        | dK r =>
          rw [keyOf_rep ry e]
          exact ⟨a, _, rfl, DPut.k h2 (lt_line (m := 16000000) (by rw [Paired.len r]; exact hl)), S.store ha (CellR.dK (putD_rep (f := kx) (fun _ _ => kx_inj) rv r))⟩
      · cases h
    · cases h
  · rename_i kvs hk
    split at h
    · rename_i k e
      split at h
      · rename_i hl
        cases h
        obtain ⟨a, ho, rfl, ha, h2, c⟩ := S.dcell rx hk
        cases c with
        | dT r =>
          cases ry with
          | @tup b vs ds hv rs =>
            have ev := keysOf_reps rs e
            subst ev
            exact ⟨a, _, rfl, DPut.t h2 (S.sub _ _ hv) (lt_line (m := 16000000) (by rw [Paired.len r]; exact hl)), S.store ha (CellR.dT (putD_rep (f := List.map kx) mapkx_inj rv r))⟩
          | _ => cases e
      · cases h
    · cases h
  · cases h
def rSetAny (X : Cx) : TSet := fun o i v H Q => ∃ t, PSet X t ∧ t o i v H Q
theorem set_any : PSet X (rSetAny X) := fun pins s σ H o i v ov iv u Q I ro ri rv ⟨_, h, q⟩ => h pins s σ H o i v ov iv u Q I ro ri rv q
theorem pdg_sub {o i : Expr} {fo fi : M D} {pos : Pos} (ho : PDE X o fo) (hi : PDE X i fi) (hu : X.A.units + 1 < cLine)
    (ha : ∀ v, assign (.Subscript o i pos) X.env v = (do
      let ov ← holding [v] (eval o X.env)
      let iv ← holding [v, ov] (eval i X.env)
      standAt pos
      holding [v, ov, iv] (setItem ov iv v)
      release [v, ov, iv] []) := by intro _; rfl) (tk : Takes X noW := by exact takes_no) : PDG X (.Subscript o i pos) (Rg.gSub fo fi) :=
  PG.imp (pg_sub (ho noW tk) (hi noW tk) set_any ha) fun v σ H Q ⟨B, w, env, L, d, S, R, r, h⟩ => by
    refine ⟨B, w, env, L, S, R, ?_⟩
    simp only [Rg.gSub] at h
    revert h
    cases fo env L with
    | none => exact fun h => h
    | some p =>
      obtain ⟨r1, L1⟩ := p
      cases r1 with
      | ex e => exact fun h => h.elim
      | ok x =>
        cases x with
        | ref n =>
          intro h w1 v1 H1 l1 S1 rv1
          refine ⟨B, w1, env, L1, S1, R.mono l1, ?_⟩
          dsimp only at h
          revert h
          cases fi env L1 with
          | none => exact fun h => h
          | some p =>
            obtain ⟨r2, L2⟩ := p
            cases r2 with
            | ex e => exact fun h => h.elim
            | ok y =>
              intro h w2 v2 H2 l2 S2 rv2
              dsimp only at h
              split at h
              · cases h
              · rename_i z e
                split at e
                · rename_i xs hx
                  split at e
                  · rename_i k
                    split at e
                    · rename_i j hj
                      cases e
                      cases rv2
                      obtain ⟨a, vs, rfl, ha, h2, rs⟩ := S2.lcell (rv1.mono l2) hx
                      refine ⟨_, set_list, a, vs, k, j, rfl, rfl, h2, by rw [ixN_eq, rs.length]; exact hj, ?_⟩
                      exact h w2 σ _ (l1.trans l2) (S2.store ha (CellR.lst (rs.set (r.mono (l1.trans l2)) j))) (R.mono (l1.trans l2))
                    · cases e
                  · cases e
                · split at e
                  · rename_i L3 hp
                    cases e
                    obtain ⟨a, H', rfl, g, S3⟩ := dput_ok S2 (rv1.mono l2) rv2 (r.mono (l1.trans l2)) hp
                    exact ⟨_, set_dict hu, a, H', rfl, g, h w2 σ _ (l1.trans l2) S3 (R.mono (l1.trans l2))⟩
                  · cases e
        | _ => exact fun h => h.elim
theorem pde_dictK {pos : Pos} : PDE X (.Dict [] [] pos) eDictK := fun W tk => pe_dnewK.imp fun σ H Q ⟨B, w, env, L, S, R, h⟩ p hp => by
  obtain ⟨l2, S2⟩ := S.alloc hp (CellR.dK (K := X.K) (mg := X.mg) (w := w) (kvs := []) (ds := []) .nil)
  exact h _ _ _ l2 S2 (.ref (by rw [← S.len]; simp))
theorem pde_dictT {pos : Pos} : PDE X (.Dict [] [] pos) eDictT := fun W tk => pe_dnewT.imp fun σ H Q ⟨B, w, env, L, S, R, h⟩ p hp => by
  obtain ⟨l2, S2⟩ := S.alloc hp (CellR.dT (K := X.K) (mg := X.mg) (w := w) (kvs := []) (ds := []) .nil)
  exact h _ _ _ l2 S2 (.ref (by rw [← S.len]; simp))
/-! ### list(range), tuple(range) -/
theorem rgV_rep {K : PySem.W.Frag} {w : Wd} (i j : Int) : Reps K w (rgV i j) (rangeL i (j - i).toNat) := by
  unfold rgV rangeL
  generalize (j - i).toNat = n
  have : ∀ ks : List Nat, Reps K w (ks.map fun k => V.int (i + (k : Nat))) (ks.map fun k => D.int (i + (k : Nat))) := by
    intro ks
    induction ks with
    | nil => exact .nil
    | cons k ks ih => exact .cons (.int _) ih
  exact this _
theorem rgOk_of {i j : Int} (h1 : big i = true) (h2 : big j = true) (h3 : (j - i).toNat ≤ 10000) : RgOk i j := by
  have := big_ok h1
  have := big_ok h2
  exact ⟨by omega, by omega, by omega, by omega, by omega⟩
theorem pde_listR1 {a : Expr} {f : M D} {p p2 pos pos2 : Pos} (zr : X.mg "range" = none) (zl : X.mg "list" = none) (ha : PDE X a f) (hc : X.calm = true := by rfl) (hg : Gl X "list" := by rfl) (hgr : Gl X "range" := by rfl) (na : starEach [a] X.env = (false, eval a X.env) :: starEach [] X.env := by rfl)
    (na2 : starEach [.Call (.Name "range" p2) [a] [] pos2] X.env = (false, eval (.Call (.Name "range" p2) [a] [] pos2) X.env) :: starEach [] X.env := by rfl) :
    PDE X (.Call (.Name "list" p) [.Call (.Name "range" p2) [a] [] pos2] [] pos) (eListR (eC (.int 0)) f) := fun W tk =>
  (pe_listRg hc hg zl (prg_1 hgr zr (ha W tk) na) na2).imp fun σ H Q ⟨B, w, env, L, S, R, h⟩ => by
    refine tE_bnd S R h fun w1 v H1 d L1 l1 S1 r1 h1 => ?_
    split at h1
    · rename_i i j e1
      cases e1
      cases r1
      split at h1
      · rename_i hb
        exact ⟨_, rfl, rgOk_of hb.1 hb.2.1 hb.2.2, new_list S1 (rgV_rep _ _) h1⟩
      · exact h1.elim
    · exact h1.elim
theorem pde_tupR1 {a : Expr} {f : M D} {p p2 pos pos2 : Pos} (zr : X.mg "range" = none) (zl : X.mg "tuple" = none) (ha : PDE X a f) (hc : X.calm = true := by rfl) (hg : Gl X "tuple" := by rfl) (hgr : Gl X "range" := by rfl) (na : starEach [a] X.env = (false, eval a X.env) :: starEach [] X.env := by rfl)
    (na2 : starEach [.Call (.Name "range" p2) [a] [] pos2] X.env = (false, eval (.Call (.Name "range" p2) [a] [] pos2) X.env) :: starEach [] X.env := by rfl) :
    PDE X (.Call (.Name "tuple" p) [.Call (.Name "range" p2) [a] [] pos2] [] pos) (eTupR (eC (.int 0)) f) := fun W tk =>
  (pe_tupRg hc hg zl (prg_1 hgr zr (ha W tk) na) na2).imp fun σ H Q ⟨B, w, env, L, S, R, h⟩ => by
    refine tE_bnd S R h fun w1 v H1 d L1 l1 S1 r1 h1 => ?_
    split at h1
    · rename_i i j e1
      cases e1
      cases r1
      split at h1
      · rename_i hb
        exact ⟨_, rfl, rgOk_of hb.1 hb.2.1 hb.2.2, new_tup S1 (rgV_rep _ _) h1⟩
      · exact h1.elim
    · exact h1.elim
theorem pde_listR2 {a b : Expr} {f g : M D} {p p2 pos pos2 : Pos} (zr : X.mg "range" = none) (zl : X.mg "list" = none) (ha : PDE X a f) (hb : PDE X b g) (hc : X.calm = true := by rfl) (hg : Gl X "list" := by rfl) (hgr : Gl X "range" := by rfl) (na : starEach [a, b] X.env = (false, eval a X.env) :: starEach [b] X.env := by rfl) (nb : starEach [b] X.env = (false, eval b X.env) :: starEach [] X.env := by rfl)
    (hp : (backTo pos2 (starEach [b] X.env)).any (·.1) = false := by rfl) (na2 : starEach [.Call (.Name "range" p2) [a, b] [] pos2] X.env = (false, eval (.Call (.Name "range" p2) [a, b] [] pos2) X.env) :: starEach [] X.env := by rfl) :
    PDE X (.Call (.Name "list" p) [.Call (.Name "range" p2) [a, b] [] pos2] [] pos) (eListR f g) := fun W tk =>
  (pe_listRg hc hg zl (prg_2 hgr zr (ha W tk) (hb W tk) na nb hp) na2).imp fun σ H Q ⟨B, w, env, L, S, R, h⟩ => by
    refine tE_bnd S R h fun w1 v H1 d L1 l1 S1 r1 h1 => ?_
    refine tE_bnd S1 (R.mono l1) h1 fun w2 u H2 e L2 l2 S2 r2 h2 => ?_
    split at h2
    · rename_i i j
      have r1' := r1.mono l2
      cases r1'
      cases r2
      split at h2
      · rename_i hb
        exact ⟨_, _, rfl, rfl, rgOk_of hb.1 hb.2.1 hb.2.2, new_list S2 (rgV_rep _ _) h2⟩
      · exact h2.elim
    · exact h2.elim
theorem pde_tupR2 {a b : Expr} {f g : M D} {p p2 pos pos2 : Pos} (zr : X.mg "range" = none) (zl : X.mg "tuple" = none) (ha : PDE X a f) (hb : PDE X b g) (hc : X.calm = true := by rfl) (hg : Gl X "tuple" := by rfl) (hgr : Gl X "range" := by rfl) (na : starEach [a, b] X.env = (false, eval a X.env) :: starEach [b] X.env := by rfl) (nb : starEach [b] X.env = (false, eval b X.env) :: starEach [] X.env := by rfl)
    (hp : (backTo pos2 (starEach [b] X.env)).any (·.1) = false := by rfl) (na2 : starEach [.Call (.Name "range" p2) [a, b] [] pos2] X.env = (false, eval (.Call (.Name "range" p2) [a, b] [] pos2) X.env) :: starEach [] X.env := by rfl) :
    PDE X (.Call (.Name "tuple" p) [.Call (.Name "range" p2) [a, b] [] pos2] [] pos) (eTupR f g) := fun W tk =>
  (pe_tupRg hc hg zl (prg_2 hgr zr (ha W tk) (hb W tk) na nb hp) na2).imp fun σ H Q ⟨B, w, env, L, S, R, h⟩ => by
    refine tE_bnd S R h fun w1 v H1 d L1 l1 S1 r1 h1 => ?_
    refine tE_bnd S1 (R.mono l1) h1 fun w2 u H2 e L2 l2 S2 r2 h2 => ?_
    split at h2
    · rename_i i j
      have r1' := r1.mono l2
      cases r1'
      cases r2
      split at h2
      · rename_i hb
        exact ⟨_, _, rfl, rfl, rgOk_of hb.1 hb.2.1 hb.2.2, new_tup S2 (rgV_rep _ _) h2⟩
      · exact h2.elim
    · exact h2.elim
/-! ### methods of texts, more of lists -/
/-- a method of a text by its one argument, the rule chosen by the data -/
def MtS (X : Cx) (id : String) (g : Tx → D → Hh → Ro D) : Prop := ∀ (B : Bs) (w : Wd) (σ : L2.St) (W : WX) (H : Hp) (L : Hh) (s : Tx) (y : V) (d : D) (Q : VK), StR X.K X.mg B w H L → okT s = true → Rep X.K w y d → PostE X.K X.mg B w σ W (g s d L) Q → ∃ r, MtR X id r ∧ r (.str (tx s)) [y] H Q
theorem pde_mtS {name : Str} {id : String} {g : Tx → D → Hh → Ro D} {o e : Expr} {fo fe : M D} {apos pos : Pos} (hm : MtS X id g) (slot : Slot "str" name id) (ty : typeOf (.builtin id) = pure (.type "method_descriptor")) (ho : PDE X o fo) (he : PDE X e fe)
    (hs : starEach [e] X.env = [(false, eval e X.env)] := by rfl) (hbase : attributeBase o name X.env (eval o X.env) = eval o X.env := by rfl) (hline : (apos.endLine == pos.line) = true := by rfl) : PDE X (.Call (.Attribute o name apos) [e] [] pos) (eMtS g fo fe) := fun W tk =>
  (pe_m1 slot ty mtR_any (ho W tk) (he W tk) hs hbase hline).imp fun σ H Q ⟨B, w, env, L, S, R, h⟩ => by
    refine tE_bnd S R h fun w1 v H1 d L1 l1 S1 r1 h1 => ?_
    split at h1
    · rename_i s
      cases r1 with
      | str hx =>
        refine ⟨⟨_, rfl⟩, ?_⟩
        refine tE_bnd S1 (R.mono l1) h1 fun w2 u H2 e L2 l2 S2 r2 h2 => ?_
        exact hm _ _ _ _ _ _ _ _ _ _ S2 hx r2 h2
    · exact h1.elim
theorem strs_rep {K : PySem.W.Frag} {w : Wd} : ∀ {vs : List V} {ds : List D} {ys : List Tx}, Reps K w vs ds → ds.mapM strD = some ys → vs = (ys.map tx).map V.str ∧ ys.all okT = true
  | _, _, ys, .nil, h => by
    simp at h
    subst h
    exact ⟨rfl, rfl⟩
  | _, _, ys, .cons r rs, h => by
    rw [List.mapM_cons] at h
    cases r with
    | @str x hx =>
      simp only [strD] at h
      rename_i ds
      cases e2 : ds.mapM strD with
      | none => rw [e2] at h; simp at h
      | some ms =>
        rw [e2] at h
        simp at h
        subst h
        obtain ⟨h1, h2⟩ := strs_rep rs e2
        exact ⟨by rw [h1]; rfl, by rw [List.all_cons, hx, h2]; rfl⟩
    | _ => simp [strD] at h
theorem joinT_okT {a : Tx} (ha : okT a = true) : ∀ {ys : List Tx}, ys.all okT = true → okT (joinT a ys) = true
  | [], _ => rfl
  | [p], h => by
    rw [List.all_cons, Bool.and_eq_true] at h
    exact h.1
  | p :: q :: r, h => by
    rw [List.all_cons, Bool.and_eq_true] at h
    rw [joinT]
    exact okT_app h.1 (okT_app ha (joinT_okT ha h.2))
theorem tl_tx (x : Tx) : TL.tl (tx x) = x := by simp [TL.tl, tx]
theorem join_tx (a : Tx) (ys : List Tx) : Txt.join (tx a) (ys.map tx) = tx (joinT a ys) := by
  rw [TL.join_eq]
  have h1 := TL.tl_join (tx a) (ys.map tx)
  have h2 : ∀ ys : List Tx, TL.joinL a ys = joinT a ys := by
    intro ys
    induction ys with
    | nil => rfl
    | cons p ys ih =>
      cases ys with
      | nil => rfl
      | cons q r => simp only [TL.joinL, joinT, ih]
  rw [tl_tx, List.map_map, show (TL.tl ∘ tx) = id from funext tl_tx, List.map_id, h2] at h1
  generalize Str.join (tx a) (ys.map tx) = z at h1
  rw [← h1]
  simp [tx, TL.tl]
theorem mts_join : MtS X "str.join" mJoin := fun B w σ W H L s y d Q S hs ry q => by
  unfold mJoin at q
  split at q
  · rename_i ds e
    split at q
    · rename_i ys e2
      split at q
      · rename_i hl
        obtain ⟨a, vs, rfl, h2, rs⟩ := S.seqOf ry e
        obtain ⟨e3, h3⟩ := strs_rep rs e2
        subst e3
        refine ⟨_, mt_join, tx s, a, ys.map tx, rfl, rfl, h2.imp SqL.of SqT.of, ?_, ?_⟩
        · rw [List.map_map, List.length_map, tx_len, show ((fun x => Str.length x) ∘ tx) = (fun x : Tx => x.length) from funext tx_len]
          omega
        · rw [join_tx]
          exact post_rep S (.str (joinT_okT hs h3)) q
      · exact q.elim
    · exact q.elim
  · exact q.elim
theorem mtd_insert : MtD X "list.insert" mInsert := fun B w σ W H L x xs dx ds Q S rx rs q => by
  unfold mInsert at q
  split at q
  · rename_i n i y
    split at q
    · rename_i ys hy
      split at q
      · rename_i hl
        obtain ⟨a, vs, rfl, ha, h2, r2⟩ := S.lcell rx hy
        obtain ⟨v, u, rfl, rv, ru⟩ := rs.two
        cases rv
        have := big_ok hl.2.2
        refine ⟨_, mt_insert, a, vs, i, u, rfl, rfl, h2, lt_line (m := 10000) (by rw [r2.length]; exact hl.1), hl.2.1, by omega, ?_⟩
        exact q w _ _ (Wd.le.refl _) (S.store ha (CellR.lst (((r2.take _).append (.cons ru .nil)).append (r2.drop _)))) .non
      · exact q.elim
    · exact q.elim
  · exact q.elim
theorem mtd_reverse : MtD X "list.reverse" mReverse := fun B w σ W H L x xs dx ds Q S rx rs q => by
  unfold mReverse at q
  split at q
  · rename_i n
    split at q
    · rename_i ys hy
      obtain ⟨a, vs, rfl, ha, h2, r2⟩ := S.lcell rx hy
      cases rs
      refine ⟨_, mtR_of mt_reverse, a, vs, rfl, rfl, h2, ?_⟩
      exact q w _ _ (Wd.le.refl _) (S.store ha (CellR.lst r2.reverse)) .non
    · exact q.elim
  · exact q.elim
end
theorem un65 {k : Nat} {A : Around} (r : Room k A) : A.units + 64 + 1 < cLine := by
  have := r.un
  omega
theorem un1 {k : Nat} {A : Around} (r : Room k A) : A.units + 1 < cLine := by
  have := r.un
  omega
end Rg
namespace Rg
open PySem PySem.Spec L2
open PyProof.Rows hiding St
section
variable {X : Cx}
/-! ### any, all -/
theorem truths_rep {K : PySem.W.Frag} {w : Wd} : ∀ {vs : List V} {ds : List D} {bs : List Bool}, Reps K w vs ds → ds.mapM truthD = some bs → vs = bs.map V.bl
  | _, _, bs, .nil, h => by
    simp at h
    subst h
    rfl
  | _, _, bs, .cons (d := d) (ds := ds) r rs, h => by
    rw [List.mapM_cons] at h
    cases r with
    | bl b =>
      simp only [truthD] at h
      cases e2 : ds.mapM truthD with
      | none => rw [e2] at h; simp at h
      | some ms =>
        rw [e2] at h
        simp at h
        subst h
        rw [truths_rep rs e2]
        rfl
    | _ => simp [truthD] at h
theorem callD_any (hc : X.calm = true) : Call1 X (.builtin "any") opAny := fun B w σ W H L x d Q S rx q => by
  unfold opAny at q
  split at q
  · rename_i ds e
    split at q
    · rename_i bs e2
      obtain ⟨a, vs, rfl, h2, rs⟩ := S.look rx e
      have := truths_rep rs e2
      subst this
      exact ⟨_, cr_any hc, a, bs, rfl, SqL.of h2, post_bl S q⟩
    · exact q.elim
  · exact q.elim
theorem callD_all (hc : X.calm = true) : Call1 X (.builtin "all") opAll := fun B w σ W H L x d Q S rx q => by
  unfold opAll at q
  split at q
  · rename_i ds e
    split at q
    · rename_i bs e2
      obtain ⟨a, vs, rfl, h2, rs⟩ := S.look rx e
      have := truths_rep rs e2
      subst this
      exact ⟨_, cr_all hc, a, bs, rfl, SqL.of h2, post_bl S q⟩
    · exact q.elim
  · exact q.elim
/-! ### s.index(c) -/
theorem occ_idx {s : Tx} {c i : Nat} (h : s.findIdx? (fun d => decide (d = c)) = some i) : ∃ rest, Builtin.Str.occurrences (tx s) (tx [c]) 0 (tx s).length 1 = i :: rest := by
  obtain ⟨h1, h2, h3⟩ := List.findIdx?_eq_some_iff_getElem.mp h
  have hi : (tx s).cps.toList[i]? = some c := by
    simp [tx, List.getElem?_eq_getElem h1]
    simpa using h2
  have hAt : PySem.StrLaws.At (tx s) ⟨#[c]⟩ (tx s).length i := (PySem.StrLaws.subAt_one (tx s) c i).mpr hi
  have hno : ∀ j, j < i → ¬ PySem.StrLaws.At (tx s) ⟨#[c]⟩ (tx s).length j := fun j hj hA => by
    have hg := (PySem.StrLaws.subAt_one (tx s) c j).mp hA
    have hjl : j < s.length := by omega
    have : s[j] = c := by
      simp [tx, List.getElem?_eq_getElem hjl] at hg
      exact hg
    have h4 := h3 j hj
    simp [this] at h4
  rcases PySem.StrLaws.occ_head (tx s) ⟨#[c]⟩ 1 (Nat.le_refl _) with ⟨_, hn⟩ | ⟨j, r, h0, ha, hn⟩
  · exact absurd hAt (hn i)
  · rcases Nat.lt_trichotomy i j with hl | hl | hl
    · exact absurd hAt (hn i hl)
    · subst hl
      exact ⟨r, h0⟩
    · exact absurd ha (hno j hl)
theorem mts_index : MtS X "str.index" mIndexS := fun B w σ W H L s y d Q S hs ry q => by
  unfold mIndexS at q
  split at q
  · rename_i c
    split at q
    · rename_i i e
      obtain ⟨rest, ho⟩ := occ_idx e
      cases ry
      exact ⟨_, mt_sindex, tx s, tx [c], i, rest, rfl, rfl, ho, post_int S q⟩
    · exact q.elim
  · exact q.elim
/-! ### zip of two lists -/
theorem look_stays {B : Bs} {w w2 : Wd} {H H2 : Hp} {L L2 : Hh} {a : Addr} {x : D} {xs : List D} (S : StR X.K X.mg B w H L) (r : Rep X.K w (.ref a) x) (e : look L x = some xs) (l : w.le w2) (S2 : StR X.K X.mg B w2 H2 L2) (st : ∀ p ∈ cellOf x xs, L2[p.1]? = some (.lst p.2)) : ∃ vs, H2 a = some (.lst vs) ∧ Reps X.K w2 vs xs := by
  cases r with
  | lst hv rs =>
    simp only [look, Option.some.injEq] at e
    subst e
    exact ⟨_, S2.sub _ _ (l.1 _ _ hv), rs.mono l⟩
  | @ref _ n ha =>
    have h2 := st (n, xs) (by simp [cellOf])
    obtain ⟨a', vs, e1, _, h3, r3⟩ := S2.lcell (.ref (l.io ha)) h2
    cases e1
    exact ⟨vs, h3, r3⟩
  | _ => simp [look] at e
/-- a row to be zipped stays what it is -/
theorem zip_row {B : Bs} {w : Wd} {H : Hp} {L : Hh} {u : V} {y : D} {ys : List D} (S : StR X.K X.mg B w H L) (r : Rep X.K w u y) (e : lookZ L y = some ys) : ∃ t b us, u = .ref b ∧ SqX t X.K H b us ∧
    ∀ {w2 : Wd} {H2 : Hp} {L2 : Hh}, w.le w2 → StR X.K X.mg B w2 H2 L2 → (∀ p ∈ cellOf y ys, L2[p.1]? = some (.lst p.2)) → ∃ vs, SqX t X.K H2 b vs ∧ Reps X.K w2 vs ys := by
  have hl : ∀ {z : D}, Rep X.K w u z → look L z = some ys → ∃ t b us, u = .ref b ∧ SqX t X.K H b us ∧
    ∀ {w2 : Wd} {H2 : Hp} {L2 : Hh}, w.le w2 → StR X.K X.mg B w2 H2 L2 → (∀ p ∈ cellOf z ys, L2[p.1]? = some (.lst p.2)) → ∃ vs, SqX t X.K H2 b vs ∧ Reps X.K w2 vs ys := by
    intro z r e
    obtain ⟨b, us, rfl, h3, rt⟩ := S.look r e
    refine ⟨false, b, us, rfl, SqL.of h3, fun l2 S2 st => ?_⟩
    obtain ⟨vs, g1, g2⟩ := look_stays S r e l2 S2 st
    exact ⟨vs, SqL.of g1, g2⟩
  cases y with
  | tup zs =>
    simp only [lookZ, Option.some.injEq] at e
    subst e
    cases r with
    | tup hv rs => exact ⟨true, _, _, rfl, SqT.of (S.sub _ _ hv), fun l2 S2 st => ⟨_, SqT.of (S2.sub _ _ (l2.1 _ _ hv)), rs.mono l2⟩⟩
  | _ => exact hl r e
theorem pdi_zip {e e2 : Expr} {f g : M D} {p pos tpos : Pos} {elts : List Expr} {kk : Nat} (hm : X.mg "zip" = none) (ha : PDE X e f) (hb : PDE X e2 g) (hg : Gl X "zip" := by rfl)
    (hs : starEach [e, e2] X.env = (false, eval e X.env) :: starEach [e2] X.env := by rfl) (hs2 : starEach [e2] X.env = (false, eval e2 X.env) :: starEach [] X.env := by rfl) (hpl : (backTo pos (starEach [e2] X.env)).any (·.1) = false := by rfl) :
    PDI X (.Tuple elts kk tpos) (.Call (.Name "zip" p) [e, e2] [] pos) (Rg.iZip f g) := fun W tk =>
  PI.imp (pi_zipX hg hm (pda_cons ha (pda_cons hb pda_nil hs2) hs W tk) hs hpl) fun σ H Q ⟨B, w, env, L, S, R, h⟩ => by
    refine ⟨B, w, env, L, S, R, ?_⟩
    simp only [Rg.iZip] at h
    simp only [aCons, aNil]
    cases hf : f env L with
    | none =>
      rw [hf] at h
      exact h
    | some p =>
      obtain ⟨r, L'⟩ := p
      rw [hf] at h
      cases r with
      | ex e => exact h
      | ok d =>
        simp only [bnd_ok] at h ⊢
        cases hf2 : g env L' with
        | none =>
          rw [hf2] at h
          exact h
        | some p =>
          obtain ⟨r, L2⟩ := p
          rw [hf2] at h
          cases r with
          | ex e => exact h
          | ok d2 =>
            simp only [bnd_ok] at h ⊢
            intro w1 vs H1 l1 S1 r1
            obtain ⟨v, u, rfl, rv, ru⟩ := r1.two
            split at h
            · rename_i xs ys ex ey
              obtain ⟨a, vs, rfl, h2, rs⟩ := S1.look rv ex
              obtain ⟨t2, b, us, rfl, h3, hrow⟩ := zip_row S1 ru ey
              refine ⟨false, t2, a, b, vs, us, rfl, rfl, SqL.of h2, h3, h w1 _ H1 l1 S1 fun w2 H2 L3 l2 S2 hst i => ?_⟩
              have hst' : ∀ p ∈ cellOf d xs ++ cellOf d2 ys, L3[p.1]? = some (.lst p.2) := fun p hp => by
                have := List.all_eq_true.mp hst p hp
                exact of_decide_eq_true this
              obtain ⟨vs', g1, g2⟩ := look_stays S1 rv ex l2 S2 fun p hp => hst' p (List.mem_append_left _ hp)
              obtain ⟨us', g3, g4⟩ := hrow l2 S2 fun p hp => hst' p (List.mem_append_right _ hp)
              have hlen : (Src.pair (cellOf d xs ++ cellOf d2 ys) (List.zipWith (fun u v => D.tup [u, v]) xs ys)).xs.length = min xs.length ys.length := by simp [Src.xs]
              rw [hlen]
              refine ⟨fun hi => ?_, fun hi => ⟨vs', us', SqL.of g1, g3, by rw [g2.length, g4.length]; omega⟩⟩
              obtain ⟨dx, hdx⟩ : ∃ dx, xs[i]? = some dx := ⟨xs[i], List.getElem?_eq_getElem (by omega)⟩
              obtain ⟨dy, hdy⟩ : ∃ dy, ys[i]? = some dy := ⟨ys[i], List.getElem?_eq_getElem (by omega)⟩
              obtain ⟨x, hx, rx⟩ := g2.get hdx
              obtain ⟨y, hy, ry⟩ := g4.get hdy
              refine ⟨⟨vs', us', x, y, SqL.of g1, g3, hx, hy⟩, fun z H' yl => ?_⟩
              obtain ⟨T, x', y', rfl, hT, rfl, q1, q2⟩ := yl
              have e1 := q1 _ (SqL.of g1)
              have e2 := q2 _ g3
              rw [hx] at e1
              rw [hy] at e2
              cases e1
              cases e2
              obtain ⟨l3, S3⟩ := S2.laid hT (.tup [x, y])
              refine ⟨_, .tup [dx, dy], l3, S3, ?_, .tup upd_same (.cons (rx.mono l3) (.cons (ry.mono l3) .nil))⟩
              simp [Src.xs, List.getElem?_zipWith, hdx, hdy]
            · exact h.elim
end
end Rg
namespace Rg
open PySem PySem.Spec L2
open PyProof.Rows hiding St
section
variable {X : Cx}
/-! ### a dict's display of texts -/
def kvOf : List (PyData × PyData) → Option (List (Key × V))
  | [] => some []
  | (.str x, .str y) :: r => (kvOf r).map fun t => (Sum.inr x, V.str y) :: t
  | _ => none
theorem lits_ok {P : Program} {w : World} : ∀ {vs : List (Value × Value)} {Dd : List (PyData × PyData)} {kv : List (Key × V)}, ReadAs vs Dd → kvOf Dd = some kv → ∃ kvv : List (Key × Value), Carries (mixKind P w) vs kvv ∧ KV kv kvv ∧ kvv.map (·.1) = kv.map (·.1)
  | _, _, kv, .nil, h => by
    simp [kvOf] at h
    subst h
    exact ⟨[], trivial, .nil, rfl⟩
  | _, _, kv, .cons (k := k) (v := v) (dk := dk) (dv := dv) (D := Dd) fk fv fr, h => by
    cases dk with
    | str x =>
      cases dv with
      | str y =>
        simp only [kvOf] at h
        cases e : kvOf Dd with
        | none => rw [e] at h; cases h
        | some kv1 =>
          rw [e] at h
          simp at h
          subst h
          obtain ⟨kvv, c, r, m⟩ := lits_ok (P := P) (w := w) fr e
          obtain ⟨t, rfl⟩ := fk.str_inv
          obtain ⟨t2, rfl⟩ := fv.str_inv
          exact ⟨(Sum.inr x, .str y t2) :: kvv, ⟨keyIs_str x t, rfl, c⟩, .cons ⟨rfl, ⟨t2, rfl⟩⟩ r, by simp [m]⟩
      | _ => simp [kvOf] at h
    | _ => simp [kvOf] at h
theorem pe_dlit {keys : List (Option Expr)} {values : List Expr} {pos : Pos} {Dd : List (PyData × PyData)} {kv : List (Key × V)} (hD : litPairs keys values = some Dd) (hk : kvOf Dd = some kv) (hn : (kv.map (·.1)).Nodup)
    (hall : keys.all (·.isSome) = true) (hl : keys.length = values.length) (h0 : keys ≠ []) (hlen : keys.length ≤ 15) (hz : kv.length ≤ 15) : PE X (.Dict keys values pos) (fun σ H Q => ∀ p, H p = none → Q (.ref p) (upd H p (.dK kv))) := ⟨fun pins s σ H Q I h => by
  refine wpAny_Dict_walk (knd := mixKind X.prog X.w) hall hl h0 hlen (evalPairs_lits keys values Dd _ _ hD fun vs tk fr => ?_)
  obtain ⟨kvv, c, hkv, hm1⟩ := lits_ok (P := X.prog) (w := X.w) fr hk
  refine ⟨kvv, c, Heap.DictOf.new _, fun h' hm hs => ?_⟩
  rw [merged_nil_of_nodup _ (by rw [hm1]; exact hn)] at hm
  exact ⟨.ref s.heap.objs.size, _, I.laid (a := s.heap.objs.size) (o := .dK kv) (fun b o e => (hs.2 b (Nat.ne_of_lt (Heap.lt_size e))).trans (Heap.get?_push_of_some _ e)) (Nat.le_refl _) ⟨le_line (m := 15) hz, beq_eq_false_iff_ne.mpr (Ne.symm (Nat.ne_of_lt I.big)), kvv, hkv, hm⟩, rfl, h _ (I.hok.fresh (Nat.le_refl _))⟩⟩
theorem lit_rep {K : PySem.W.Frag} {w : Wd} : ∀ kd : List (Tx × Tx), (kd.all fun p => okT p.2) = true → RepK K w kx (kd.map fun p => (Sum.inr (tx p.1), V.str (tx p.2))) (kd.map fun p => (.inr p.1, .str p.2))
  | [], _ => .nil
  | p :: kd, ho => by
    rw [List.all_cons, Bool.and_eq_true] at ho
    exact .cons ⟨rfl, .str ho.1⟩ (lit_rep kd ho.2)
theorem pde_dlit (kd : List (Tx × Tx)) {keys : List (Option Expr)} {values : List Expr} {pos : Pos} (hD : litPairs keys values = some (kd.map fun p => (.str (tx p.1), .str (tx p.2))) := by rfl) (ho : (kd.all fun p => okT p.2) = true := by decide +kernel) (hn : (kd.map (·.1)).Nodup := by decide +kernel)
    (hall : keys.all (·.isSome) = true := by rfl) (hl : keys.length = values.length := by rfl) (h0 : keys ≠ [] := by exact List.cons_ne_nil _ _) (hlen : kd.length ≤ 15 := by decide) (hlen2 : keys.length ≤ 15 := by decide) : PDE X (.Dict keys values pos) (eDictL (kd.map fun p => (.inr p.1, .str p.2))) := fun W tk => by
  have hk : ∀ kd : List (Tx × Tx), kvOf (kd.map fun p => (PyData.str (tx p.1), PyData.str (tx p.2))) = some (kd.map fun p => (Sum.inr (tx p.1), V.str (tx p.2))) := by
    intro kd
    induction kd with
    | nil => rfl
    | cons p kd ih => simp only [List.map_cons, kvOf, ih, Option.map_some]
  refine (pe_dlit hD (hk kd) ?_ hall hl h0 hlen2 (by simpa using hlen)).imp fun σ H Q ⟨B, w, env, L, S, R, h⟩ p hp => ?_
  · rw [List.map_map]
    refine List.Pairwise.map _ (fun a b hab e => ?_) (List.pairwise_map.mp hn)
    exact hab (tx_inj (Sum.inr.inj e))
  · obtain ⟨l2, S2⟩ := S.alloc (c := .dK (kd.map fun p => (.inr p.1, .str p.2))) hp (o := .dK (kd.map fun p => (Sum.inr (tx p.1), V.str (tx p.2)))) (CellR.dK (K := X.K) (mg := X.mg) (w := w) (lit_rep kd ho))
    exact h _ _ _ l2 S2 (.ref (by rw [← S.len]; simp))
end
end Rg
namespace RgL
open PySem PySem.Spec PyProof.Rows
section
variable {prog : Program} {w : World} {A : Around} {E : Value → Shared → Prop} {s : Shared}
/-! ### list(s), list(reversed(x)), at the library's level -/
theorem lx_str {R : Result → Shared → Prop} (hh : A.handled = none) (x : Str) (t : Tok) (S : Addr) (res : Value) (c₀ : Nat) (hS : s.heap.get? S = some { cls := .type "list", data := .seq #[] c₀ })
    (hR : ∀ h' tk acc' c', (∀ b o, b ≠ S → s.heap.get? b = some o → h'.get? b = some o) → h'.get? S = some { cls := .type "list", dict := none, data := .seq acc' c', slots := #[] } → ItemsOf (SignAt x) acc' x.cps.size → R (.ok (.ret res)) { s with heap := h', toks := tk }) (hn : x.cps.size ≤ sizeLine) :
    wpAny (model prog w) A.in1 (Builtin.List.listExtendWith (.ref S) (.str x t) res)
      (fun fin s' => match fin with | .done f => R (.ok f) s' | .again c' => c'.quiet = true ∧ codeAny (model prog w) A c' R s') (fun e s' => R (.error e) s') s := by
  have hSI : S ≠ s.heap.objs.size := Nat.ne_of_lt (Heap.lt_size hS)
  have hSf : S ∉ [s.heap.objs.size] := by simp only [List.mem_cons, List.not_mem_nil, or_false]; exact hSI
  unfold Builtin.List.listExtendWith
  refine wpAny_bind (wpAny_typeOf (T := "str") (v := .str x t) rfl ?_)
  have h1 : Builtin.List.listSameRef (.ref S) (.str x t) = false := rfl
  have h2 : (Value.type "str" == Value.type "list") = false := by decide
  have h3 : (Value.type "str" == Value.type "tuple") = false := by decide
  simp only [h1, h2, h3, Bool.or_false, Bool.false_eq_true, if_false]
  refine wpAny_bind (wpAny_pyIter_str fun o St W hst => ?_)
  refine wpAny_bind (wpAny_holding ?_)
  unfold Builtin.List.listLengthHint
  refine wpAny_bind (wpAny_specialOf (T := "str") (v := .str x t) rfl F.str_len ?_)
  wp_delta
  refine wpAny_bind (wpAny_isInstance (T := "str") (v := .str x t) (b := true) rfl (by rw [isSubtype_type]; kernel_rfl) ?_)
  show wpAny _ A.in1 (typeOf (Value.str x t) >>= _) _ _ _
  refine wpAny_bind (wpAny_typeOf (T := "str") (v := .str x t) rfl ?_)
  refine wpAny_pure ?_
  rw [if_neg (by decide)]
  have hS1 : (s.heap.push o).get? S = some { cls := .type "list", data := .seq (#[] : Array Value) c₀ } := Heap.get?_push_of_some _ hS
  refine wpAny_pure ⟨plainId_quiet F.plain_extend_loop _, codeAny_extend_loopS (W A.in1 hh).toS hn S hSf res x.cps.size 0 _ #[] c₀ rfl (Nat.zero_le _) hst hS1 (ItemsOf.nil _) fun s' acc' c' hm hS' hacc => ?_⟩
  rw [Moved.eq_with hm]
  refine hR s'.heap s'.toks acc' c' (fun b ob hb e => hm.heap b ob (fun hmem => ?_) (Heap.get?_push_of_some _ e)) hS' hacc
  rcases List.mem_cons.mp hmem with e' | hmem
  · exact hb e'
  · exact absurd (Heap.lt_size e) (by rw [List.mem_singleton.mp hmem]; exact Nat.lt_irrefl _)
theorem lx_rev {R : Result → Shared → Prop} (hh : A.handled = none) {it l : Addr} {items : Array Value} (hit : s.heap.IsRevIter it l ((items.size : Int) - 1)) (hl : s.heap.IsList l items) (hne : l ≠ it) (S : Addr) (hSit : S ≠ it) (hSl : S ≠ l) (res : Value) (c₀ : Nat) (hS : s.heap.get? S = some { cls := .type "list", data := .seq #[] c₀ })
    (hR : ∀ h' tk acc' c', (∀ b o, b ≠ S → b ≠ it → s.heap.get? b = some o → h'.get? b = some o) → h'.get? S = some { cls := .type "list", dict := none, data := .seq acc' c', slots := #[] } → ItemsOf (fun i v => items[items.size - 1 - i]? = some v) acc' items.size → R (.ok (.ret res)) { s with heap := h', toks := tk }) (hn : items.size ≤ sizeLine) :
    wpAny (model prog w) A.in1 (Builtin.List.listExtendWith (.ref S) (.ref it) res)
      (fun fin s' => match fin with | .done f => R (.ok f) s' | .again c' => c'.quiet = true ∧ codeAny (model prog w) A c' R s') (fun e s' => R (.error e) s') s := by
  have W := (Walks.listRev (prog := prog) (w := w) (A := A.in1) hh it l hne items).toS
  have hSf : S ∉ [it, l] := by simp only [List.mem_cons, List.not_mem_nil, or_false, not_or]; exact ⟨hSit, hSl⟩
  have hT : s.TypeIs (.ref it) "list_reverseiterator" := Heap.IsRevIter.typeIs (s := s) hit
  have h1 : Builtin.List.listSameRef (.ref S) (.ref it) = false := by simp [Builtin.List.listSameRef, hSit]
  unfold Builtin.List.listExtendWith
  refine wpAny_bind (wpAny_typeOf hT ?_)
  rw [if_neg (by rw [h1]; decide)]
  refine wpAny_bind (wpAny_pyIter_revIter (s := s) hit ?_)
  refine wpAny_bind (wpAny_holding ?_)
  unfold Builtin.List.listLengthHint
  refine wpAny_bind (wpAny_specialOf hT RT.nolen_lri ?_)
  show wpAny _ A.in1 (specialOf (Value.ref it) (Str.ofString "__length_hint__") >>= _) _ _ _
  refine wpAny_bind (wpAny_specialOf hT RT.hint_lri ?_)
  generalize hid : ("list_reverseiterator.__length_hint__" : String) = id0
  wp_delta
  rw [show splitId id0 = some ("list_reverseiterator", "__length_hint__") from by subst hid; decide +kernel]
  subst hid
  refine wpAny_bind (wpAny_isInstance (b := true) hT (by rw [isSubtype_type]; kernel_rfl) ?_)
  refine wpAny_pure ?_
  rw [if_neg (by decide)]
  have e0 : ((items.size : Nat) : Int) - 1 - ((0 : Nat) : Int) = (items.size : Int) - 1 := by omega
  refine wpAny_pure ⟨plainId_quiet F.plain_extend_loop _, codeAny_extend_loopS W hn _ hSf _ items.size 0 _ _ _ rfl (Nat.zero_le _) ⟨Nat.zero_le _, by rw [e0]; exact hit, hl⟩ hS (ItemsOf.nil _) fun s' acc' c' hm hS' hacc => ?_⟩
  rw [Moved.eq_with hm]
  refine hR s'.heap s'.toks acc' c' (fun b o hb hb2 e => hm.heap b o (fun hmem => ?_) e) hS' hacc
  rcases List.mem_cons.mp hmem with e' | hmem
  · exact hb e'
  · exact hb2 (List.mem_singleton.mp hmem)
/-- list(r), by what list.extend does -/
theorem l_call {r : Value} {Q : Value → Shared → Prop} {Bad : Addr → Prop} {P : Nat → Value → Prop} {n : Nat}
    (ext : ∀ (R : Result → Shared → Prop) (h1 : Heap) (c₀ : Nat), (∀ b o, s.heap.get? b = some o → h1.get? b = some o) → h1.get? s.heap.objs.size = some { cls := .type "list", data := .seq #[] c₀ } →
      (∀ h' tk acc' c', (∀ b o, b ≠ s.heap.objs.size → ¬ Bad b → h1.get? b = some o → h'.get? b = some o) → h'.get? s.heap.objs.size = some { cls := .type "list", dict := none, data := .seq acc' c', slots := #[] } → ItemsOf P acc' n → R (.ok (.ret .none)) { s with heap := h', toks := tk }) →
      wpAny (model prog w) A.in1.in1 (Builtin.List.listExtendWith (.ref s.heap.objs.size) r .none) (fun fin s' => match fin with | .done f => R (.ok f) s' | .again c' => c'.quiet = true ∧ codeAny (model prog w) A.in1 c' R s') (fun e s' => R (.error e) s') { s with heap := h1 })
    (hQ : ∀ h' tk acc' c', (∀ b o, ¬ Bad b → s.heap.get? b = some o → h'.get? b = some o) → h'.get? s.heap.objs.size = some { cls := .type "list", dict := none, data := .seq acc' c', slots := #[] } → ItemsOf P acc' n → Q (.ref s.heap.objs.size) { s with heap := h', toks := tk }) :
    wpAny (model prog w) A (call (.type "list") [r]) Q E s := by
  refine callType_codes (Q₁ := fun obj s₁ => obj = .ref s.heap.objs.size ∧ s₁ = { s with heap := s.heap.push { cls := .type "list", data := .seq #[] } }) PySem.F.called_list (PySem.F.typeCall_list_1 _) PySem.F.entry_list_init
    (code_list_new _ ⟨rfl, rfl⟩) fun obj s₁ h₁ => ?_
  obtain ⟨rfl, rfl⟩ := h₁
  have hS : (s.heap.push { cls := .type "list", data := .seq #[] }).get? s.heap.objs.size = some { cls := .type "list", data := .seq #[] } := Heap.get?_push_size _ rfl
  refine ⟨⟨_, hS, rfl⟩, PySem.F.args_list_init_2 _ _, ?_⟩
  show wpAny _ _ (do let old ← Builtin.List.listItems (.ref s.heap.objs.size); Builtin.List.listUpdate (.ref s.heap.objs.size) (fun _ => #[]); letGo old.toList.reverse; Builtin.List.listExtendWith (.ref s.heap.objs.size) r .none) _ _ _
  refine wpAny_bind ?_
  unfold Builtin.List.listItems
  refine wpAny_bind (wpAny_seqItems hS rfl (wpAny_pure ?_))
  show wpAny _ _ (updateSeq s.heap.objs.size (fun _ => #[]) >>= fun _ => letGo (#[] : Array Value).toList.reverse >>= fun _ => Builtin.List.listExtendWith (.ref s.heap.objs.size) r .none) _ _ _
  refine wpAny_bind (wpAny_updateSeq hS rfl ?_)
  have hS₂ := Heap.get?_update_self (Obj.mapSeq (fun _ => (#[] : Array Value))) hS rfl
  have oth : ∀ b o, b ≠ s.heap.objs.size → (s.heap.push { cls := .type "list", data := .seq #[] }).get? b = some o → ((s.heap.push { cls := .type "list", data := .seq #[] }).update s.heap.objs.size (Obj.mapSeq (fun _ => (#[] : Array Value)))).get? b = some o :=
    fun b o hb e => (Heap.get?_update_other _ _ (Ne.symm hb)).trans e
  have k0 : ∀ b o, s.heap.get? b = some o → ((s.heap.push { cls := .type "list", data := .seq #[] }).update s.heap.objs.size (Obj.mapSeq (fun _ => (#[] : Array Value)))).get? b = some o := fun b o e => oth b o (Nat.ne_of_lt (Heap.lt_size e)) (Heap.get?_push_of_some _ e)
  refine wpAny_bind (wpAny_letGo ?_)
  refine ext _ _ _ k0 hS₂ fun h' tk acc' c' hk hS' hacc => ?_
  exact ⟨rfl, hQ h' tk acc' c' (fun b o hb e => hk b o (Nat.ne_of_lt (Heap.lt_size e)) hb (k0 b o e)) hS' hacc⟩
theorem call_list_str (hh : A.handled = none) {x : Str} {t : Tok} {Q : Value → Shared → Prop} (hn : x.cps.size ≤ sizeLine)
    (hQ : ∀ h' tk acc' c', (∀ b o, s.heap.get? b = some o → h'.get? b = some o) → h'.get? s.heap.objs.size = some { cls := .type "list", dict := none, data := .seq acc' c', slots := #[] } → ItemsOf (SignAt x) acc' x.cps.size → Q (.ref s.heap.objs.size) { s with heap := h', toks := tk }) :
    wpAny (model prog w) A (call (.type "list") [.str x t]) Q E s :=
  l_call (Bad := fun _ => False) (P := SignAt x) (n := x.cps.size) (fun R h1 c₀ k hS hR => lx_str (A := A.in1) (s := { s with heap := h1 }) hh x t _ .none c₀ hS (fun h' tk acc' c' q1 q2 q3 => hR h' tk acc' c' (fun b o hb _ e => q1 b o hb e) q2 q3) hn)
    fun h' tk acc' c' q1 q2 q3 => hQ h' tk acc' c' (fun b o e => q1 b o (fun z => z) e) q2 q3
theorem call_list_rev (hh : A.handled = none) {it l : Addr} {items : Array Value} {Q : Value → Shared → Prop} (hit : s.heap.IsRevIter it l ((items.size : Int) - 1)) (hl : s.heap.IsList l items) (hne : l ≠ it) (hn : items.size ≤ sizeLine)
    (hQ : ∀ h' tk acc' c', (∀ b o, b ≠ it → s.heap.get? b = some o → h'.get? b = some o) → h'.get? s.heap.objs.size = some { cls := .type "list", dict := none, data := .seq acc' c', slots := #[] } → ItemsOf (fun i v => items[items.size - 1 - i]? = some v) acc' items.size → Q (.ref s.heap.objs.size) { s with heap := h', toks := tk }) :
    wpAny (model prog w) A (call (.type "list") [.ref it]) Q E s := by
  obtain ⟨oi, hoi, _⟩ := id hit
  obtain ⟨ol, hol, _⟩ := id hl
  refine l_call (Bad := fun b => b = it) (P := fun i v => items[items.size - 1 - i]? = some v) (n := items.size) (fun R h1 c₀ k hS hR => ?_) hQ
  exact lx_rev (A := A.in1) (s := { s with heap := h1 }) hh (hit.at fun o e => k _ _ e) (hl.at fun o e => k _ _ e) hne _ (Nat.ne_of_gt (Heap.lt_size hoi)) (Nat.ne_of_gt (Heap.lt_size hol)) .none c₀ hS (fun h' tk acc' c' q1 q2 q3 => hR h' tk acc' c' (fun b o hb hb2 e => q1 b o hb hb2 e) q2 q3) hn
end
end RgL
namespace Rg
open PySem PySem.Spec L2
open PyProof.Rows hiding St
section
variable {X : Cx}
theorem _root_.L2.PS.orS {e : Stmt} {t : TS} (h : ∀ D σ H, t D σ H → ∃ t', PS X e t' ∧ t' D σ H) : PS X e t := ⟨fun pins s σ H D I q => by
  obtain ⟨t', h', q'⟩ := h D σ H q
  exact h'.run pins s σ H D I q'⟩
/-! ### while, as often as a slot's number says -/
theorem pds_whlI (i : Nat) {c : Expr} {body : List Stmt} {t : M Bool} {b : Sm} {pos : Pos} (hp : PassesOwn (model X.prog X.w) X.A X.env X.xe) (hc : PDT X c t) (hb : PDSs X body b) : PDS X (.While c body [] pos) (sWhlI i t b) := fun W tk => PS.imp (PS.orS fun E σ H ⟨B, w, env, L, S, R, h⟩ => by
  unfold sWhlI at h
  split at h
  · rename_i v _
    exact ⟨_, pds_whl (v.natAbs + 9) hp hc hb W tk, B, w, env, L, S, R, h⟩
  · exact h.elim) fun _ _ _ h => h
/-! ### max of a list -/
theorem foldl_max : ∀ (ns : List Int) (n : Int), ns.foldl max n ∈ n :: ns ∧ ∀ y ∈ n :: ns, y ≤ ns.foldl max n
  | [], n => by simp
  | m :: ns, n => by
    obtain ⟨h1, h2⟩ := foldl_max ns (max n m)
    rw [List.foldl_cons]
    refine ⟨?_, fun y hy => ?_⟩
    · rcases List.mem_cons.mp h1 with h | h
      · rw [h]
        rcases Int.le_total n m with q | q
        · rw [Int.max_eq_right q]
          simp
        · rw [Int.max_eq_left q]
          simp
      · simp [h]
    · have h3 := h2 (max n m) List.mem_cons_self
      rcases List.mem_cons.mp hy with rfl | hy
      · omega
      · rcases List.mem_cons.mp hy with rfl | hy
        · omega
        · exact h2 y (List.mem_cons_of_mem _ hy)
theorem callD_max1 (hc : X.calm = true) : Call1 X (.builtin "max") opMax1 := fun B w σ W H L x d Q S rx q => by
  unfold opMax1 at q
  split at q
  · rename_i ds e
    split at q
    · rename_i n ns e2
      have ed := mapM_keyI e2
      subst ed
      obtain ⟨a, vs, rfl, h2, rs⟩ := S.look rx e
      have ev := Reps.ints_of rs
      subst ev
      obtain ⟨m1, m2⟩ := foldl_max ns n
      refine ⟨_, cr_max hc, a, n :: ns, rfl, SqL.of h2, by simp, fun m hm hle => ?_⟩
      have em : m = ns.foldl max n := by
        have := hle _ m1
        have := m2 _ hm
        omega
      rw [em]
      exact post_int S q
    · exact q.elim
  · exact q.elim
/-! ### list(s), list(d), list(reversed(x)) -/
theorem call_listS (hc : X.calm = true) : CallR X (.type "list") (fun xs H Q => ∃ z : Str, xs = [V.str z] ∧ z.cps.size ≤ sizeLine ∧ ∀ p, H p = none → Q (.ref p) (upd H p (.lst (z.cps.toList.map fun c => V.str ⟨#[c]⟩)))) := by
  intro pins s σ H xs us Q I r h
  obtain ⟨z, rfl, hz, q⟩ := h
  obtain ⟨u, rfl, rx⟩ := vals1 r
  obtain ⟨t, rfl⟩ := (show ∃ t, u = Value.str z t from rx)
  refine RgL.call_list_str (I.ok.hd hc) hz fun h' tk acc' c' kp e it => ?_
  have hl : acc'.toList.length = z.cps.size := by rw [Array.length_toList, it.1]
  have rv : Vals (z.cps.toList.map fun c => V.str ⟨#[c]⟩) acc'.toList := by
    have gen : ∀ (cs : List Nat) (vs : List Value), cs.length = vs.length → (∀ (j : Nat) (v : Value), vs[j]? = some v → ∃ c u, cs[j]? = some c ∧ v = .str ⟨#[c]⟩ u) → Vals (cs.map fun c => V.str ⟨#[c]⟩) vs := by
      intro cs
      induction cs with
      | nil =>
        intro vs hv _
        cases vs with
        | nil => exact .nil
        | cons _ _ => simp at hv
      | cons c cs ih =>
        intro vs hv hg
        cases vs with
        | nil => simp at hv
        | cons v vs =>
          obtain ⟨c', u, h1, rfl⟩ := hg 0 v rfl
          simp at h1
          subst h1
          exact .cons ⟨u, rfl⟩ (ih vs (by simpa using hv) fun j v hj => by simpa using hg (j + 1) v (by simpa using hj))
    refine gen _ _ (by rw [hl]; simp) fun j v hj => ?_
    obtain ⟨c, u, h1, h2⟩ := it.2 j v (by rw [← Array.getElem?_toList]; exact hj)
    exact ⟨c, u, by simpa using h1, h2⟩
  refine ⟨.ref s.heap.objs.size, _, I.laid (t' := tk) (o := .lst (z.cps.toList.map fun c => V.str ⟨#[c]⟩)) kp (Nat.le_refl _) ?_, rfl, q _ (I.hok.fresh (Nat.le_refl _))⟩
  exact ⟨by rw [rv.length, hl]; exact hz, acc'.toList, c', rv, by rw [Array.toArray_toList]; exact e⟩
def tListRev (K : PySem.W.Frag) (te : TE) : TE := fun σ H Q => te σ H fun v H1 => ∃ (a : Addr) (xs : List V), v = .ref a ∧ SqL K H1 a xs ∧ ∀ q, H1 q = none → Q (.ref q) (upd H1 q (.lst xs.reverse))
theorem pe_listRev {e : Expr} {te : TE} {p p2 pos pos2 : Pos} (hc : X.calm = true) (hg : Gl X "list") (hm : X.mg "list" = none) (hg2 : Gl X "reversed") (hm2 : X.mg "reversed" = none) (he : PE X e te)
    (hs : starEach [e] X.env = (false, eval e X.env) :: starEach [] X.env := by rfl)
    (hs2 : starEach [.Call (.Name "reversed" p2) [e] [] pos2] X.env = (false, eval (.Call (.Name "reversed" p2) [e] [] pos2) X.env) :: starEach [] X.env := by rfl) :
    PE X (.Call (.Name "list" p) [.Call (.Name "reversed" p2) [e] [] pos2] [] pos) (tListRev X.K te) := by
  refine ⟨fun pins s σ H Q I h => ?_⟩
  refine Call_ (ld_blt I hg hm boot_list (PyProof.Rows.callWith_type1 (args_cons (Call_ (ld_blt I hg2 hm2 PyProof.Rows.boot_reversed (PyProof.Rows.callWith_type1 (args_cons (thn (he.run pins s σ H _ I h) fun u s1 ⟨v, H1, I1, r1, q1⟩ => args_nil ?_) hs) hs rfl))) hs2) hs2 rfl))
  obtain ⟨a, xs, ev, hq, q⟩ := q1
  subst ev
  obtain rfl : u = Value.ref a := r1
  obtain ⟨its, rv, p', hz⟩ := I1.list hq
  refine call_reversed_list p'.isList (args_nil ?_)
  have k0 : ∀ b o, s1.heap.get? b = some o → (s1.heap.push (revObj a ((its.toArray.size : Int) - 1))).get? b = some o := fun b o e => Heap.get?_push_of_some _ e
  have I2 : Inv X pins σ H1 { s1 with heap := s1.heap.push (revObj a ((its.toArray.size : Int) - 1)) } := I1.kept (t' := s1.toks) k0
  obtain ⟨f0, f1, f2, f3, f4, f5⟩ := I1.fpOk (H' := H1) (b := s1.heap.objs.size) (Nat.le_refl _) (I1.hok.fresh (Nat.le_refl _))
  have hl := p'.isList
  obtain ⟨ol, hol, _⟩ := id hl
  have hne : a ≠ s1.heap.objs.size := Nat.ne_of_lt (Heap.lt_size hol)
  have hn : its.toArray.size ≤ sizeLine := by rw [List.size_toArray, ← rv.length]; exact hz
  refine RgL.call_list_rev (s := { s1 with heap := s1.heap.push (revObj a ((its.toArray.size : Int) - 1)) }) (I1.ok.hd hc) ⟨_, Heap.get?_push_size _ rfl, rfl, rfl⟩ (hl.push _) hne hn fun h' tk acc c' hk he' hi => ?_
  have hsz : (s1.heap.push (revObj a ((its.toArray.size : Int) - 1))).objs.size = s1.heap.objs.size + 1 := by
    rw [Heap.size_push]
  have he2 : h'.get? (s1.heap.objs.size + 1) = some { cls := .type "list", dict := none, data := .seq acc c', slots := #[] } := by
    rw [← hsz]
    exact he'
  have rv2 := RT.vals_rev rv hi
  show EP X pins σ Q (.ref (s1.heap.push (revObj a ((its.toArray.size : Int) - 1))).objs.size) _
  rw [hsz]
  refine ⟨.ref (s1.heap.objs.size + 1), _, I1.laid (t' := tk) (o := .lst xs.reverse) (fun b o e => hk b o (Nat.ne_of_lt (Heap.lt_size e)) (k0 b o e)) (Nat.le_succ _) ?_, rfl, q _ (I1.hok.fresh (Nat.le_succ _))⟩
  exact ⟨by rw [List.length_reverse]; exact hz, acc.toList, c', rv2, by rw [Array.toArray_toList]; exact he2⟩
theorem chars_okT {x : Tx} (hx : okT x = true) {K : PySem.W.Frag} {w : Wd} : Reps K w (x.map fun c => V.str ⟨#[c]⟩) (charsD x) := by
  unfold charsD
  have gen : ∀ (y : Tx), (∀ c ∈ y, c ∈ x) → Reps K w (y.map fun c => V.str ⟨#[c]⟩) (y.map fun c => D.str [c]) := by
    intro y
    induction y with
    | nil => intro _; exact .nil
    | cons c y ih =>
      intro h
      refine .cons (.str (x := [c]) (okT_sub hx fun z hz => ?_)) (ih fun z hz => h z (List.mem_cons_of_mem _ hz))
      rw [List.mem_singleton.mp hz]
      exact h c List.mem_cons_self
  exact gen x fun _ h => h
theorem key_rep {K : PySem.W.Frag} {w : Wd} {k : Ky} (h : okK k = true) : Rep K w (kV (kx k)) (keyD k) := by
  cases k with
  | inl i => exact .int i
  | inr s => exact .str h
theorem keys_rep {K : PySem.W.Frag} {w : Wd} : ∀ {ks : List Ky}, ks.all okK = true → Reps K w ((ks.map kx).map kV) (ks.map keyD)
  | [], _ => .nil
  | k :: ks, h => by
    rw [List.all_cons, Bool.and_eq_true] at h
    exact .cons (key_rep h.1) (keys_rep h.2)
theorem dK_rep {K : PySem.W.Frag} {w : Wd} : ∀ {kvs : List (Key × V)} {ds : List (Ky × D)}, RepK K w kx kvs ds → (ds.all fun p => okK p.1) = true → Reps K w (kvs.map fun kv => kV kv.1) (ds.map fun p => keyD p.1)
  | _, _, .nil, _ => .nil
  | _, _, .cons r t, h => by
    rw [List.all_cons, Bool.and_eq_true] at h
    refine .cons ?_ (dK_rep t h.2)
    dsimp only
    rw [r.1]
    exact key_rep h.1
/-- the key tuples laid for good -/
theorem StR.know {B : Bs} {w : Wd} {H : Hp} {L : Hh} (S : StR X.K X.mg B w H L) (bs : List Addr) (hb : ∀ b ∈ bs, ∃ o, H b = some o ∧ KnO o) : w.le ⟨fun a => if a ∈ bs then H a else w.F a, w.io⟩ ∧ StR X.K X.mg B ⟨fun a => if a ∈ bs then H a else w.F a, w.io⟩ H L := by
  have l : w.le ⟨fun a => if a ∈ bs then H a else w.F a, w.io⟩ := ⟨fun b u e => by
    show (if b ∈ bs then H b else w.F b) = some u
    by_cases h : b ∈ bs
    · rw [if_pos h]
      exact S.sub b u e
    · rw [if_neg h]
      exact e, [], by simp⟩
  refine ⟨l, ⟨fun b u e => ?_, S.len, S.nd, fun n a e => ?_, fun n a c e e' => (S.cell n a c e e').mono l, S.ge.trans l, S.keep, fun b hbn => ?_, S.newI⟩⟩
  · have e' : (if b ∈ bs then H b else w.F b) = some u := e
    split at e'
    · exact e'
    · exact S.sub b u e'
  · show (if a ∈ bs then H a else w.F a) = none
    have : a ∉ bs := fun z => by
      obtain ⟨o, h, k⟩ := hb a z
      exact S.no_kn h k (List.mem_of_getElem? e)
    rw [if_neg this]
    exact S.out n a e
  · have hbn' : (if b ∈ bs then H b else w.F b) ≠ none := hbn
    split at hbn'
    · rename_i hm
      obtain ⟨o, h, k⟩ := hb b hm
      exact .inr (S.btup h k)
    · exact S.newF b hbn'
theorem dT_rep {K : PySem.W.Frag} {w w2 : Wd} {H : Hp} : ∀ {kvs : List (List Key × V)} {ds : List (List Ky × D)} {bs : List Addr}, RepT K w kvs ds → IsKeys H kvs bs → (∀ b ∈ bs, w2.F b = H b) → (ds.all fun p => p.1.all okK) = true → Reps K w2 (bs.map V.ref) (ds.map fun p => .tup (p.1.map keyD))
  | _, _, _, .nil, .nil, _, _ => .nil
  | _, _, _, .cons r t, .cons r2 t2, hF, h => by
    rw [List.all_cons, Bool.and_eq_true] at h
    refine .cons (.tup (vs := (List.map kx _).map kV) ?_ (keys_rep h.1)) (dT_rep t t2 (fun b hb => hF b (List.mem_cons_of_mem _ hb)) h.2)
    rw [hF _ List.mem_cons_self, ← r.1]
    exact r2
theorem isKeys_tup {H : Hp} : ∀ {kvs : List (List Key × V)} {bs : List Addr}, IsKeys H kvs bs → ∀ b ∈ bs, ∃ vs, H b = some (.tup vs)
  | _, _, .nil, b, hb => by cases hb
  | _, _, .cons r t, b, hb => by
    rcases List.mem_cons.mp hb with rfl | hb
    · exact ⟨_, r⟩
    · exact isKeys_tup t b hb
theorem callD_list (hc : X.calm = true) : Call1 X (.type "list") opList := fun B w σ W H L x d Q S rx q => by
  unfold opList at q
  split at q
  · rename_i s
    cases rx with
    | str hx =>
      split at q
      · rename_i hl
        refine ⟨_, call_listS hc, tx s, rfl, ?_, ?_⟩
        · have : (tx s).cps.size = s.length := by simp [tx]
          rw [this]
          exact le_line hl
        · have e : (tx s).cps.toList = s := by simp [tx]
          rw [e]
          exact new_list S (chars_okT hx) q
      · exact q.elim
  · split at q
    · rename_i xs e
      obtain ⟨a, vs, rfl, h2, rs⟩ := S.seqOf rx e
      exact ⟨_, call_list_of, a, vs, rfl, h2.imp SqL.of SqT.of, new_list S rs q⟩
    · rename_i y _ _
      split at q
      · rename_i xs e
        unfold keysD at e
        split at e
        · rename_i n
          split at e
          · rename_i kvs hk
            split at e
            · rename_i hok
              cases e
              obtain ⟨a, o, rfl, ha, h2, c⟩ := S.dcell rx hk
              cases c with
              | dK r => exact ⟨_, call_list_dK hc, a, _, rfl, h2, new_list S (dK_rep r hok) q⟩
            · cases e
          · rename_i kvs hk
            split at e
            · rename_i hok
              cases e
              obtain ⟨a, o, rfl, ha, h2, c⟩ := S.dcell rx hk
              cases c with
              | dT r =>
                refine ⟨_, call_list_dT hc, a, _, rfl, .inl h2, fun p bs hp hbs => ?_⟩
                obtain ⟨l2, S2⟩ := S.know bs (fun b hb => by obtain ⟨vs, h⟩ := isKeys_tup hbs b hb; exact ⟨_, h, .inl ⟨vs, rfl⟩⟩)
                have rs := dT_rep (w2 := ⟨fun a => if a ∈ bs then H a else w.F a, w.io⟩) r hbs (fun b hb => if_pos hb) hok
                exact new_list S2 rs (q.le l2) p hp
            · cases e
          · cases e
        · cases e
      · exact q.elim
theorem pde_listRev {e : Expr} {f : M D} {p p2 pos pos2 : Pos} (hm2 : X.mg "reversed" = none) (hm : X.mg "list" = none) (he : PDE X e f) (hc : X.calm = true := by rfl) (hg : Gl X "list" := by rfl) (hg2 : Gl X "reversed" := by rfl)
    (hs : starEach [e] X.env = (false, eval e X.env) :: starEach [] X.env := by rfl)
    (hs2 : starEach [.Call (.Name "reversed" p2) [e] [] pos2] X.env = (false, eval (.Call (.Name "reversed" p2) [e] [] pos2) X.env) :: starEach [] X.env := by rfl) :
    PDE X (.Call (.Name "list" p) [.Call (.Name "reversed" p2) [e] [] pos2] [] pos) (eUn opListRev f) := fun W tk =>
  (pe_listRev hc hg hm hg2 hm2 (he W tk) hs hs2).imp fun σ H Q ⟨B, w, env, L, S, R, h⟩ => by
    refine tE_bnd S R h fun w1 v H1 d L1 l1 S1 r1 h1 => ?_
    unfold opListRev at h1
    split at h1
    · rename_i xs e
      obtain ⟨a, vs, rfl, h2, rs⟩ := S1.look r1 e
      exact ⟨a, vs, rfl, SqL.of h2, new_list S1 rs.reverse h1⟩
    · exact h1.elim
end
end Rg
namespace Rg
open PySem PySem.Spec L2
open PyProof.Rows hiding St
/-! ### the key def: bow[1] - bow[0] -/
section
variable {P : Program} {w : World} {K : PySem.W.Frag} {A : Around} {s : Shared} {f : Addr} {fd : FuncData} {st : Stmt} {x : Str}
theorem seq_nat {k n : Nat} (h : k < n) : seqIndex? (k : Int) n = some k := by
  unfold seqIndex?
  simp
  omega
theorem item_at {env : PySem.Env} {t : Addr} {its : List Value} {k : Nat} {u : Value} {p1 p2 p3 : Pos} {j : Nat} {prog : Program} {E : Value → Shared → Prop} {Q : Value → Shared → Prop} {m : Str → Option Value}
    (hk : env.scope.kind = .function) (hl : env.kindOf x = some .local) (hn : s.heap.Ns env.locals m) (hm : m x = some (.ref t)) (hd : (x == ("__debug__" : Str)) = false)
    (ht : IsTup s.heap t its.toArray) (hu : its[k]? = some u) (hz : k < 100) (h : Q u { s with toks := s.toks + 1 }) :
    wpAny (model prog w) A (eval (.Subscript (.Name x p1) (.Constant (.int (k : Nat)) j p2) p3) env) Q E s := by
  refine PyProof.Rows.Subscript_ (wpAny_Name (wpAny_loadName_local hk hl hn hm (wpAny_Constant_int ?_)) hd)
  have hlt : k < its.length := (List.getElem?_eq_some_iff.mp hu).1
  exact subscriptTail_builtinR (x := u) (s := { s with toks := s.toks + 1 }) (show Shared.TypeIs { s with toks := s.toks + 1 } (.ref t) "tuple" from ht.typeIs) slot_tuple_getitem.lookup (getItem_tuple (s := { s with toks := s.toks + 1 }) (j := k) (Q := fun r s' => r = u ∧ Q r s') ht (by omega) (by omega) (by rw [List.size_toArray]; exact seq_nat hlt) (by simpa using hu) ⟨rfl, h⟩) rfl
/-- a call of the def -/
theorem wide_key {t : Addr} {its : List Value} {i j : Int} {t1 t2 : Tok} {p1 p2 p3 p4 p5 p6 p7 p8 : Pos} {j1 j2 : Nat} (F : Fun K "wide" "wide" st f fd) (S : FnScope ["bow"] ["bow"] (defScope st))
    (hb : defBody st = [.Return (some (.BinOp (.Subscript (.Name "bow" p1) (.Constant (.int 1) j1 p2) p3) .Sub (.Subscript (.Name "bow" p4) (.Constant (.int 0) j2 p5) p6) p7)) p8])
    (KX : K.In s.heap) (lim : s.heap.NoLimit) (hr : A.depth < recursionLimit) (bnd : Binds K fd ["bow"] []) (hloc : (defScope st).names.lookup ("bow" : Str) = some .local) (ht : IsTup s.heap t its.toArray) (h0 : its[0]? = some (.int i t1)) (h1 : its[1]? = some (.int j t2)) :
    wpAny (model P w) A (call (.ref f) [.ref t]) (PySem.W.KeyPure (.int (j - i)) s) (fun _ _ => False) s := by
  obtain ⟨oc, od, kV, doc, pm, an, cdv, ct, osl, rfl, lk, hcd⟩ := F.ex
  have hkind : ∀ y ∈ (["bow"] : List Str).zip [Value.ref t], (defScope st).names.lookup y.1 = some .local ∨ ((defScope st).names.lookup y.1 = some .cell ∧ ((cellsFrom (s.heap.objs.size + 1) (defScope st).names []).lookup y.1).isSome = true) := fun ⟨n, v⟩ hy => by
    rcases S.par n (List.of_mem_zip hy).1 with q | q
    · exact .inl q
    · exact .inr ⟨q, PySem.W.cellsFrom_some _ _ _ (.inl q)⟩
  refine wpAny_call (codeAny_call_function hr (KX _ _ lk) rfl S.co S.gen rfl (PySem.W.codeRec_of KX hcd) (bnd s [.ref t] KX rfl _ _ _ _ ?_))
  refine wpAny_newFunctionEnv_cells S.kind hkind fun env he s1 x => ?_
  subst he
  refine ⟨lim.keeps x.toInCall.keep, codeAny_func ?_⟩
  have e := hb
  show wpAny _ _ (execs (defBody st) _) _ _ _
  rw [e]
  have kp := x.toInCall.keep
  have hm : bindL (envOfC "wide" (defScope st) s.heap.objs.size f cdv).kindOf ((["bow"] : List Str).zip [Value.ref t]) (fun _ => none) "bow" = some (.ref t) := bindL_get (i := 0) (List.nodup_cons.mpr ⟨List.not_mem_nil, List.nodup_nil⟩) rfl rfl hloc
  refine wpAny_execs_cons (wpAny_Return_some (wpAny_BinOp (item_at (k := 1) S.kind hloc x.toInCall.ns hm rfl (ht.keeps kp) h1 (by omega) ?_)))
  refine item_at (s := { s1 with toks := s1.toks + 1 }) (k := 0) S.kind hloc x.toInCall.ns hm rfl (ht.keeps kp) h0 (by omega) ?_
  refine sub_int ?_
  obtain ⟨h', tk, rfl, hk⟩ := x.done
  exact ⟨h', _, rfl, hk, .int _ _⟩
end
/-- the key def, as the top has left it -/
structure WideOk (K : PySem.W.Frag) (mg : Str → Option Value) : Prop where
  ex : ∃ f fd st, Fun K "wide" "wide" st f fd ∧ FnScope ["bow"] ["bow"] (defScope st) ∧ (∃ p1 p2 p3 p4 p5 p6 p7 p8 j1 j2, defBody st = [.Return (some (.BinOp (.Subscript (.Name "bow" p1) (.Constant (.int 1) j1 p2) p3) .Sub (.Subscript (.Name "bow" p4) (.Constant (.int 0) j2 p5) p6) p7)) p8]) ∧
    (defScope st).names.lookup ("bow" : Str) = some .local ∧ mg "wide" = some (.ref f) ∧ Binds K fd ["bow"] []
section
variable {X : Cx}
def bowJ (b : Int × Int) : D := .tup [.int b.1, .int b.2]
theorem mapM_bowOf : ∀ {ds : List D} {bs : List (Int × Int)}, ds.mapM bowOf = some bs → ds = bs.map bowJ
  | [], bs, h => by
    simp at h
    subst h
    rfl
  | d :: ds, bs, h => by
    rw [List.mapM_cons] at h
    cases e : bowOf d with
    | none => rw [e] at h; simp at h
    | some b =>
      rw [e] at h
      cases e2 : ds.mapM bowOf with
      | none => rw [e2] at h; simp at h
      | some ms =>
        rw [e2] at h
        simp at h
        subst h
        have : d = bowJ b := by
          unfold bowOf at e
          split at e
          · cases e
            rfl
          · cases e
        rw [this, mapM_bowOf e2]
        rfl
theorem bowJ_rep {H : Hp} {w : Wd} {v : V} {b : Int × Int} (hs : Same w.F H) (r : Rep X.K w v (bowJ b)) : ∃ t, v = .ref t ∧ H t = some (.tup [.int b.1, .int b.2]) := by
  cases r with
  | @tup a vs _ hv rs =>
    obtain ⟨x, y, rfl, rx, ry⟩ := rs.two
    cases rx; cases ry
    exact ⟨a, rfl, hs _ _ hv⟩
def rSortW (X : Cx) (w : Wd) (f : Addr) (bs : List (Int × Int)) : List V → List V → Hp → VK → Prop := fun xs zs H Q => ∃ (a : Addr) (vs : List V), xs = [.ref a] ∧ zs = [.ref f] ∧ SqL X.K H a vs ∧ Reps X.K w vs (bs.map bowJ) ∧ bs.length ≤ 10000 ∧ Same w.F H ∧
  ∀ p us, H p = none → Reps X.K w us ((bs.mergeSort leW).map bowJ) → Q (.ref p) (upd H p (.lst us))
theorem call_sortW {k : Nat} (hr : Room k X.A) {w : Wd} {f : Addr} {fd : FuncData} {st : Stmt} {bs : List (Int × Int)} {p1 p2 p3 p4 p5 p6 p7 p8 : Pos} {j1 j2 : Nat} (F : Fun X.K "wide" "wide" st f fd) (S : FnScope ["bow"] ["bow"] (defScope st))
    (hb : defBody st = [.Return (some (.BinOp (.Subscript (.Name "bow" p1) (.Constant (.int 1) j1 p2) p3) .Sub (.Subscript (.Name "bow" p4) (.Constant (.int 0) j2 p5) p6) p7)) p8]) (hloc : (defScope st).names.lookup ("bow" : Str) = some .local) (bnd : Binds X.K fd ["bow"] []) :
    CallRK X (.builtin "sorted") [Str.ofString "key"] (rSortW X w f bs) := by
  intro pins s σ H xs zs us ws Q I r r2 h
  obtain ⟨a, vs, rfl, rfl, hs, hr', hl, hsame, q⟩ := h
  obtain ⟨u, rfl, ru⟩ := vals1 r
  cases ru
  obtain ⟨fv, rfl, rf⟩ := vals1 r2
  cases rf
  obtain ⟨its, rv, pl, hz⟩ := I.list hs
  have hE := each_of bowJ hr' rv
  refine PySem.W.sorted_key_data (R := fun u b => ∃ v, RelV v u ∧ Rep X.K w v (bowJ b)) (b := false) (fun b : Int × Int => .int (b.2 - b.1)) pl.isList hE (PySem.W.AllAlike.of fun _ _ => by simp [PySem.W.alike]) (PySem.W.Sortable.others fun _ => ⟨(fun z => nomatch z), fun _ z => nomatch z⟩) (le_line hl) (fun b _ => ?_) (PyProof.Rows.ksk_s1 _ _) (fun _ => PyProof.Rows.ksk_l1 _ _) (fun _ => PyProof.Rows.ksk_t1 _ _) (fun v b hv _ h' tk kp => ?_) fun out c h' tk kp _ he' hlen hout => ?_
  · have := hr.units
    simp only [PyData.depth]
    omega
  · obtain ⟨z, hz1, hz2⟩ := hv
    obtain ⟨t, rfl, ht⟩ := bowJ_rep hsame hz2
    cases hz1
    obtain ⟨its2, rv2, ht2, _⟩ := I.tuple (SqT.of ht)
    obtain ⟨u1, u2, rfl⟩ : ∃ u1 u2, its2 = [u1, u2] := by
      cases rv2 with
      | cons _ r => cases r with
        | cons _ r => cases r; exact ⟨_, _, rfl⟩
    cases rv2 with
    | cons a1 r =>
      cases r with
      | cons a2 r =>
        obtain ⟨t1, rfl⟩ := a1
        obtain ⟨t2, rfl⟩ := a2
        exact wide_key (s := { s with heap := h', toks := tk }) F S hb (fun b o e => kp b o (I.kIn b o e)) (I.nolimit.keeps kp) hr.depth bnd hloc (ht2.keeps kp) rfl rfl
  · rw [PySem.W.dataLe_int (β := Int × Int) (fun b => b.2 - b.1)] at hout
    obtain ⟨zs, r1, r2⟩ := of_each bowJ hout
    refine ⟨.ref _, upd H (s.heap.objs.size + 1) (.lst zs), I.laid (t' := tk) kp (Nat.le_succ _) ⟨?_, out, c, r1, he'⟩, rfl, q _ zs (I.hok.fresh (Nat.le_succ _)) r2⟩
    rw [r1.length, hlen]
    exact le_line hl
theorem pde_sortW {k : Nat} (d : WideOk X.K X.mg) (hr : Room k X.A) (hm : X.mg "sorted" = none) {e : Expr} {f : M D} {p p2 p3 pos : Pos} (he : PDE X e f) (hg : Gl X "sorted" := by rfl) (hg2 : Gl X "wide" := by rfl)
    (hs : backTo pos (starEach [e] X.env) = (false, eval e X.env) :: backTo pos (starEach [] X.env) := by rfl) (hs0 : starEach [e] X.env = (false, eval e X.env) :: starEach [] X.env := by rfl) (hpl : (backTo pos (starEach [e] X.env)).any (·.1) = false := by rfl)
    (hall : (backToKw pos (keywordEach [⟨some "key", .Name "wide" p2, p3⟩] X.env)).all (·.1.isSome) = true := by rfl) (hnone : (backToKw pos (keywordEach [⟨some "key", .Name "wide" p2, p3⟩] X.env)).any (·.1.isNone) = false := by rfl)
    (hks : (backToKw pos (keywordEach [⟨some "key", .Name "wide" p2, p3⟩] X.env)).filterMap (·.1) = [Str.ofString "key"] := by rfl) :
    PDE X (.Call (.Name "sorted" p) [e] [⟨some "key", .Name "wide" p2, p3⟩] pos) (eUn opSortW f) := fun W tk => by
  obtain ⟨fa, fd, st, F, S, ⟨p1, p2, p3, p4, p5, p6, p7, p8, j1, j2, hb⟩, hloc, hmw, bnd⟩ := d.ex
  have hc : CallRK X (.builtin "sorted") [Str.ofString "key"] (fun xs zs H Q => ∃ w bs, rSortW X w fa bs xs zs H Q) := fun pins s σ H xs zs us ws Q I r r2 ⟨w, bs, h⟩ => call_sortW hr F S hb hloc bnd pins s σ H xs zs us ws Q I r r2 h
  refine (pe_callBK hc hg hm (by decide +kernel) (pa_cons (he W tk) pa_nil hs0) (pk_cons (pe_glob (v := .ref fa) hg2 hmw rfl) pk_nil) (by decide) (by decide) hs hpl hall hnone hks).imp fun σ H Q ⟨B, w, env, L, S0, R, h⟩ => ?_
  refine tE_bnd S0 R h fun w1 v H1 d L1 l1 S1 r1 h1 => ?_
  unfold opSortW at h1
  split at h1
  · rename_i ds e
    split at h1
    · rename_i bs e2
      split at h1
      · rename_i hl
        have ed := mapM_bowOf e2
        subst ed
        obtain ⟨a, vs, rfl, h2, rs⟩ := S1.look r1 e
        exact ⟨w1, bs, a, vs, rfl, rfl, SqL.of h2, rs, hl, S1.sub, fun p us hp ru => new_list S1 ru h1 p hp⟩
      · exact h1.elim
    · exact h1.elim
  · exact h1.elim
end
end Rg
namespace Rg
open PySem PySem.Spec L2
open PyProof.Rows hiding St
/-! ### try, except -/
theorem exm_sub {K : PySem.W.Frag} {S : Addr} {cls : Value} {b : Bool} (h1 : PySem.W.subIn K (.ref S) (.type "BaseException") = some true) (h2 : PySem.W.isClsIn K S = true) (h3 : PySem.W.typeIn K (.ref S) = some (.type "type")) (h4 : PySem.W.subIn K cls (.ref S) = some b) : PySem.W.exmOne K cls (.ref S) = some b := by
  have e1 : (PySem.W.subIn K (.ref S) (.type "BaseException") == some true) = true := by rw [h1] <;> rfl
  have e2 : ((PySem.W.clsIn K S).isSome && PySem.W.typeIn K (.ref S) == some (.type "type")) = true := by
    have h2' : (PySem.W.clsIn K S).isSome = true := h2
    rw [h2', h3] <;> rfl
  show (if (PySem.W.subIn K (.ref S) (.type "BaseException") == some true) = true then (if ((PySem.W.clsIn K S).isSome && PySem.W.typeIn K (.ref S) == some (.type "type")) = true then PySem.W.subIn K cls (.ref S) else none) else none) = some b
  rw [if_pos e1, if_pos e2]
  exact h4
/-- what an own class in an except clause takes: the classes that may come, whether they are of it -/
structure HExc (K : PySem.W.Frag) (mg : Str → Option Value) (cs : String) (tab : List (String × Bool)) : Prop where
  ex : ∃ C, mg (Str.ofString cs) = some (.ref C) ∧ ∀ p ∈ tab, ∀ C1, mg (Str.ofString p.1) = some (.ref C1) → PySem.W.exmOne K (.ref C1) (.ref C) = some p.2
section
variable {X : Cx}
inductive PDHs (X : Cx) : List ExceptHandler → (Ex → Option Sm) → Prop
  | nil : PDHs X [] hEnd
  | cons {x : Str} {cs : String} {tab : List (String × Bool)} {b₀ : Stmt} {suite : List Stmt} {g : Sm} {np pos' : Pos} {hds : List ExceptHandler} {h : Ex → Option Sm} (d : HExc X.K X.mg cs tab)
      (hsu : ∀ (a : Addr) (oe : Obj) (pn : List (Addr × Obj)), PDSs (X.suite a ((a, oe) :: pn)) (b₀ :: suite) g) (r : PDHs X hds h) (hx : x = Str.ofString cs := by rfl) (hg : Gl X x := by rfl) (hdb : (x == ("__debug__" : Str)) = false := by decide) :
      PDHs X (.ExceptHandler (some (.Name x np)) none (b₀ :: suite) pos' :: hds) (hCls tab g h)
theorem lookup_mem : ∀ {tab : List (String × Bool)} {c : String} {b : Bool}, tab.lookup c = some b → (c, b) ∈ tab
  | [], _, _, h => by cases h
  | (k, v) :: tab, c, b, h => by
    rw [List.lookup_cons] at h
    by_cases e : (c == k) = true
    · rw [e] at h
      cases h
      rw [eq_of_beq e]
      exact List.mem_cons_self
    · have e' : (c == k) = false := by simpa using e
      rw [e'] at h
      exact List.mem_cons_of_mem _ (lookup_mem h)
theorem PDHs.many {hds : List ExceptHandler} {h : Ex → Option Sm} (ph : PDHs X hds h) : ∃ l, L2N.HdsOk X hds l ∧ ∀ (B : Bs) (w : Wd) (W : WX) (D : Ends) (cls : Value) (dd : Option Addr) (σ : L2.St) (H : Hp) (e : Ex) (env : Env) (L : Hh), StR X.K X.mg B w H L → EnvR X.K w env σ → ExR X.K X.mg w H cls dd e →
    PostS X.K X.mg B w W (match h e with
      | some s => match s env L with
        | some (.ex _, _, _) => none
        | r => r
      | none => none) D → wMany X.K W D l cls dd σ H := by
  induction ph with
  | nil => exact ⟨[], .nil, fun B w W D cls dd σ H e env L S R x h => h.elim⟩
  | @cons x cs tab b₀ suite g np pos' hds h d hsu r hx hg hdb ih =>
    obtain ⟨l, hl, ih⟩ := ih
    obtain ⟨C, hC, ht⟩ := d.ex
    subst hx
    refine ⟨(.ref C, fun _ _ _ => tS1 X.K X.mg noW g) :: l, .cons ⟨hg, hdb, .inl hC⟩ (fun a oe cls d pn _ _ => hsu a oe pn noW takes_no) hl, fun B w W D cls dd σ H e env L S R x q => ?_⟩
    obtain ⟨C1, h1, rfl, _⟩ := id x
    unfold hCls at q
    cases ht1 : tab.lookup e.c with
    | none => rw [ht1] at q; exact q.elim
    | some b =>
      rw [ht1] at q
      have hm := ht _ (lookup_mem ht1) C1 h1
      refine ⟨b, hm, fun hb a ha => ?_, fun hb => ?_⟩
      · subst hb
        refine ⟨B, w, env, L, S, R, ?_⟩
        dsimp only at q
        revert q
        cases g env L with
        | none => exact fun q => q
        | some p =>
          obtain ⟨o, env1, L1⟩ := p
          cases o with
          | ex e => exact fun q => q.elim
          | nx => exact fun q => q
          | rt d => exact fun q => q
          | bk => exact fun q => q
          | ct => exact fun q => q
      · subst hb
        exact ih B w W D _ dd σ H e env L S R x q
theorem pds_try {body : List Stmt} {h₀ : ExceptHandler} {hds : List ExceptHandler} {pos : Pos} {b : Sm} {hs : Ex → Option Sm} (hb : ∀ (pn : List (Addr × Obj)) (xe : Value → Shared → Prop), PassesOwn (model X.prog X.w) X.A X.env xe → PDSs (X.tr pn xe) body b) (hh : PDHs X (h₀ :: hds) hs)
    (hst : X.stack = X.env :: X.outer := by rfl) (hf : X.env.frame = some X.env.locals := by rfl) : PDS X (.Try body (h₀ :: hds) [] [] pos) (sTry b hs) := fun W tk => by
  obtain ⟨l, hl, hm⟩ := hh.many
  refine (L2N.ps_try_many (tb := fun W => tS1 X.K X.mg W b) hst hf tk (fun W' pn xe tk' hp => hb pn xe hp W' tk') hl).imp fun D σ H ⟨B, w, env, L, S, R, h⟩ => ?_
  refine ⟨B, w, env, L, S, R, ?_⟩
  unfold sTry at h
  revert h
  cases b env L with
  | none => exact fun h => h
  | some p =>
    obtain ⟨o, env1, L1⟩ := p
    cases o with
    | ex e => exact fun h w1 σ1 H1 cls dd l1 S1 R1 x => hm B w1 W D cls dd σ1 H1 e env1 L1 S1 R1 x (h.le l1)
    | nx => exact fun h => h
    | rt d => exact fun h => h
    | bk => exact fun h => h
    | ct => exact fun h => h
end
end Rg
namespace Rg
open PySem PySem.Spec L2
open PyProof.Rows hiding St
/-! ### extend, get, a text times a number -/
section
variable {X : Cx}
theorem mtd_extend : MtD X "list.extend" mExtend := fun B w σ W H L x xs dx ds Q S rx rs q => by
  unfold mExtend at q
  split at q
  · rename_i n y
    split at q
    · rename_i ys hy
      split at q
      · rename_i zs hz
        split at q
        · rename_i hl
          obtain ⟨a, vs, rfl, ha, h2, r2⟩ := S.lcell rx hy
          obtain ⟨v, rfl, rv⟩ := rs.one
          obtain ⟨b, us, rfl, h3, r3⟩ := S.look rv hz
          refine ⟨_, mtR_of mt_extend, a, b, vs, us, rfl, rfl, h2, h3, le_line (m := 10000) (by rw [r2.length, r3.length]; exact hl), ?_⟩
          exact q w _ _ (Wd.le.refl _) (S.store ha (CellR.lst (r2.append r3))) .non
        · exact q.elim
      · exact q.elim
    · exact q.elim
  · exact q.elim
theorem isD_of {B : Bs} {w : Wd} {H : Hp} {L : Hh} {v : V} {d : D} (S : StR X.K X.mg B w H L) (r : Rep X.K w v d) (h : isDk L d = true) : ∃ a, v = .ref a ∧ IsD H a := by
  unfold isDk at h
  split at h
  · rename_i n
    split at h
    · rename_i kvs e
      obtain ⟨a, o, rfl, _, h2, c⟩ := S.dcell r e
      cases c
      exact ⟨a, rfl, .inl ⟨_, .inl h2⟩⟩
    · rename_i kvs e
      obtain ⟨a, o, rfl, _, h2, c⟩ := S.dcell r e
      cases c
      exact ⟨a, rfl, .inr ⟨_, .inl h2⟩⟩
    · cases h
  · cases h
theorem pde_dget2 {o e f : Expr} {fo fe ff : M D} {apos cpos : Pos} (hu : X.A.units + 1 < cLine) (ho : PDE X o fo) (he : PDE X e fe) (hf : PDE X f ff) (m : M2 X o "get" apos e f cpos := by exact ⟨rfl, rfl, rfl, rfl⟩) :
    PDE X (.Call (.Attribute o "get" apos) [e, f] [] cpos) (eDGet2 fo fe ff) := fun W tk =>
  (pe_dget2 hu (ho W tk) (he W tk) (hf W tk) m).imp fun σ H Q ⟨B, w, env, L, S, R, h⟩ => by
    refine tE_bnd S R h fun w1 v H1 d L1 l1 S1 r1 h1 => ?_
    split at h1
    · rename_i hd
      obtain ⟨a, rfl, hi⟩ := isD_of S1 r1 hd
      refine ⟨a, rfl, hi, ?_⟩
      refine tE_bnd S1 (R.mono l1) h1 fun w2 u H2 e2 L2 l2 S2 r2 h2 => ?_
      refine tE_bnd S2 ((R.mono l1).mono l2) h2 fun w3 z H3 e3 L3 l3 S3 r3 h3 => ?_
      split at h3
      · rename_i r er
        obtain ⟨a', r', ea, g, hn, hs⟩ := dget_ok S3 ((r1.mono l2).mono l3) (r2.mono l3) er
        cases ea
        refine ⟨r', g, ?_⟩
        cases r with
        | none =>
          rw [hn rfl]
          exact post_rep S3 r3 h3
        | some d =>
          obtain ⟨v, rfl, rv⟩ := hs d rfl
          exact post_rep S3 rv h3
      · exact h3.elim
    · exact h1.elim
theorem pde_dget1 {o e : Expr} {fo fe : M D} {apos cpos : Pos} (hu : X.A.units + 1 < cLine) (ho : PDE X o fo) (he : PDE X e fe) (m : M1 X o "get" apos e cpos := by exact ⟨rfl, rfl, rfl, rfl⟩) :
    PDE X (.Call (.Attribute o "get" apos) [e] [] cpos) (eDGet1 fo fe) := fun W tk =>
  (pe_dget1 hu (ho W tk) (he W tk) m).imp fun σ H Q ⟨B, w, env, L, S, R, h⟩ => by
    refine tE_bnd S R h fun w1 v H1 d L1 l1 S1 r1 h1 => ?_
    split at h1
    · rename_i hd
      obtain ⟨a, rfl, hi⟩ := isD_of S1 r1 hd
      refine ⟨a, rfl, hi, ?_⟩
      refine tE_bnd S1 (R.mono l1) h1 fun w2 u H2 e2 L2 l2 S2 r2 h2 => ?_
      split at h2
      · rename_i r er
        obtain ⟨a', r', ea, g, hn, hs⟩ := dget_ok S2 (r1.mono l2) r2 er
        cases ea
        refine ⟨r', g, ?_⟩
        cases r with
        | none =>
          rw [hn rfl]
          exact post_rep S2 .non h2
        | some d =>
          obtain ⟨v, rfl, rv⟩ := hs d rfl
          exact post_rep S2 rv h2
      · exact h2.elim
    · exact h1.elim
theorem foldl_reps {α : Type} (xs : List α) : ∀ (m : Nat) (acc : List α), (List.replicate m xs.toArray).foldl (fun x y => x ++ y) acc.toArray = (acc ++ (List.replicate m xs).flatten).toArray
  | 0, acc => by simp
  | m + 1, acc => by
    rw [List.replicate_succ, List.foldl_cons, List.replicate_succ, List.flatten_cons, ← List.append_assoc, ← foldl_reps xs m (acc ++ xs)]
    congr 1
    simp
def rMulS : R2 := fun x y H Q => ∃ (s : Tx) (k : Int), x = .str (tx s) ∧ y = .int k ∧ 2 ≤ k ∧ s.length ≠ 0 ∧ k ≤ 100000 ∧ s.length * k.toNat ≤ 100000 ∧ Q (.str (tx (List.replicate k.toNat s).flatten)) H
theorem op_mulS : OpR X (binaryOp .Mult) rMulS := by
  intro pins s σ H x y v u Q I rx ry h
  obtain ⟨a, k, rfl, rfl, h1, h2, h3, h4, q⟩ := h
  obtain ⟨t, rfl⟩ := rx
  obtain ⟨t', rfl⟩ := ry
  have n1 : ¬ k < 1 := by omega
  have n2 : (k == 1 || (tx a).length == 0) = false := by
    rw [tx_len]
    rw [Bool.or_eq_false_iff, beq_eq_false_iff_ne, beq_eq_false_iff_ne]
    exact ⟨by omega, h2⟩
  have hz : (tx a).length * k.toNat ≤ sizeLine := by
    rw [tx_len]
    exact le_line h4
  refine P.mul_str (by rw [decide_eq_false (by omega), decide_eq_false (by omega)]; rfl) (fun _ _ => ?_) (fun _ _ => (show decide ((tx a).length * k.toNat > sizeLine) = false from decide_eq_false (Nat.not_lt.mpr hz))) ?_
  · rw [tx_len]
    have e1 : (a.length : Int) * k ≤ 100000 := by
      have : ((a.length * k.toNat : Nat) : Int) ≤ (100000 : Nat) := Int.ofNat_le.mpr h4
      rw [Int.natCast_mul, Int.toNat_of_nonneg (by omega)] at this
      exact this
    have e2 : (a.length : Int) ≤ (2 ^ 63 - 1) / k := (Int.le_ediv_iff_mul_le (by omega)).mpr (by omega)
    omega
  · rw [if_neg n1, if_neg (by rw [n2]; exact Bool.false_ne_true)]
    have e := foldl_reps a k.toNat []
    have e3 : (⟨(List.replicate k.toNat (tx a).cps).foldl (· ++ ·) #[]⟩ : Str) = tx (List.replicate k.toNat a).flatten := by
      unfold tx
      rw [show ((#[] : Array Nat)) = ([] : List Nat).toArray from rfl]
      show (⟨_⟩ : Str) = ⟨_⟩
      rw [e, List.nil_append]
    rw [e3]
    refine ⟨?_, ⟨.str (tx (List.replicate k.toNat a).flatten), H, I.tok _, ⟨_, rfl⟩, q⟩⟩
    rw [tx_len, PyProof.Rows.lm_len_rep_flat, Nat.mul_comm]
    exact le_line h4
theorem opd_mulS : OpD X (binaryOp .Mult) opMulS := fun B w σ W H L x y dx dy Q S rx ry q => by
  unfold opMulS at q
  split at q
  · rename_i s k
    split at q
    · rename_i h
      cases rx with
      | str hs =>
        cases ry
        refine ⟨_, op_mulS, _, _, rfl, rfl, h.1, h.2.1, h.2.2.1, h.2.2.2, post_rep S (.str ?_) q⟩
        refine okT_sub hs fun c hc => ?_
        obtain ⟨l, hl, hc⟩ := List.mem_flatten.mp hc
        rw [(List.mem_replicate.mp hl).2] at hc
        exact hc
    · exact q.elim
  · exact q.elim
end
end Rg
namespace Rg
open PySem PySem.Spec L2
open PyProof.Rows hiding St
/-! ### classes -/
/-- a class's statement: its j-th -/
def clsStmt (s : Stmt) (j : Nat) : Stmt := match s with
  | .ClassDef _ _ _ body _ _ _ _ _ _ _ => body.getD j (.Pass ⟨0, 0, 0, 0⟩)
  | _ => .Pass ⟨0, 0, 0, 0⟩
structure ClsOk (K : PySem.W.Frag) (mg : Str → Option Value) (cs : String) (fs : List String) : Prop where
  ex : ∃ C, mg (Str.ofString cs) = some (.ref C) ∧ Cls K C ∧ PySem.W.makesIn K C = true ∧ PySem.W.keepIn K (.ref C) = true ∧ ∀ f ∈ fs, NoAttr K C (Str.ofString f)
structure MethOk (P : Program) (w : World) (K : PySem.W.Frag) (mg : Str → Option Value) (base : Heap) (cs m : String) (k n : Nat) (ps : List Str) (fm : Fn) : Prop where
  ex : ∃ C f fd, mg (Str.ofString cs) = some (.ref C) ∧ Meth K C (Str.ofString m) f ∧ FnOk P w K mg base (L2N.CX P w) k f fd ps (spG K mg n fm) ∧ Binds K fd ps []
theorem fnOk_none {P : Program} {w : World} {K : PySem.W.Frag} {mg : Str → Option Value} {base : Heap} {k : Nat} {f : Addr} {fd : FuncData} {ps : List Str} : FnOk P w K mg base (L2N.CX P w) k f fd ps (spG K mg ps.length fun _ _ => none) where
  len vs H Q E h := h.1
  run A outer s H args us vs Q E hr e0 hb r h := by
    obtain ⟨_, _, _, _, _, _, z⟩ := h
    exact z.elim
theorem ofStr_inj {a b : String} (h : Str.ofString a = Str.ofString b) : a = b := by
  rw [Str.ofString_eq_toList, Str.ofString_eq_toList] at h
  have h1 : a.toList.map Char.toNat = b.toList.map Char.toNat := by
    have := congrArg (fun s => s.cps.toList) h
    simpa using this
  have h2 : ∀ x y : Char, x.toNat = y.toNat → x = y := fun x y e => Char.ext (UInt32.toNat_inj.mp e)
  have h3 : ∀ l m : List Char, l.map Char.toNat = m.map Char.toNat → l = m := by
    intro l
    induction l with
    | nil =>
      intro m e
      cases m with
      | nil => rfl
      | cons c m => simp at e
    | cons c l ih =>
      intro m e
      cases m with
      | nil => simp at e
      | cons c' m =>
        simp only [List.map_cons, List.cons.injEq] at e
        rw [h2 _ _ e.1, ih _ e.2]
  exact String.toList_inj.mp (h3 _ _ h1)
theorem fs_lookup {K : PySem.W.Frag} {w : Wd} {f : String} : ∀ {fs : List (Str × V)} {ds : List (String × D)}, RepF K w fs ds → (∀ d, ds.lookup f = some d → ∃ v, fs.lookup (Str.ofString f) = some v ∧ Rep K w v d) ∧ (ds.lookup f = none → fs.lookup (Str.ofString f) = none)
  | _, _, .nil => ⟨fun d h => by simp at h, fun _ => rfl⟩
  | (g, v) :: fs, (g', d') :: ds, .cons r t => by
    obtain ⟨e, rv⟩ := r
    dsimp only at e rv
    subst e
    obtain ⟨i1, i2⟩ := fs_lookup (f := f) t
    rw [List.lookup_cons, List.lookup_cons]
    by_cases e : f = g'
    · subst e
      refine ⟨fun d h => ?_, fun h => ?_⟩
      · simp at h
        subst h
        exact ⟨v, by simp, rv⟩
      · simp at h
    · have e2 : ¬ Str.ofString f = Str.ofString g' := fun q => e (ofStr_inj q)
      rw [show (f == g') = false from beq_eq_false_iff_ne.mpr e, show (Str.ofString f == Str.ofString g') = false from beq_eq_false_iff_ne.mpr e2]
      exact ⟨i1, i2⟩
theorem fs_put {K : PySem.W.Frag} {w : Wd} {f : String} {v : V} {d : D} (rv : Rep K w v d) : ∀ {fs : List (Str × V)} {ds : List (String × D)}, RepF K w fs ds → RepF K w (putF (Str.ofString f) v fs) (putS f d ds)
  | _, _, .nil => .cons ⟨rfl, rv⟩ .nil
  | (g, u) :: fs, (g', d') :: ds, .cons r t => by
    obtain ⟨e, ru⟩ := r
    dsimp only at e ru
    subst e
    rw [putF, putS]
    by_cases e : g' = f
    · subst e
      rw [if_pos rfl, if_pos rfl]
      exact .cons ⟨rfl, rv⟩ t
    · have e2 : ¬ Str.ofString g' = Str.ofString f := fun q => e (ofStr_inj q)
      rw [if_neg e, if_neg e2]
      exact .cons ⟨rfl, ru⟩ (fs_put rv t)
section
variable {X : Cx}
theorem ins_at {B : Bs} {w : Wd} {H : Hp} {L : Hh} {v : V} {n : Nat} {cs : String} {ds : List (String × D)} (S : StR X.K X.mg B w H L) (r : Rep X.K w v (.ref n)) (e : L[n]? = some (.ins cs ds)) : ∃ a C dx fs, v = .ref a ∧ w.io[n]? = some a ∧ X.mg (Str.ofString cs) = some (.ref C) ∧ H a = some (.ins C dx fs) ∧ RepF X.K w fs ds := by
  obtain ⟨a, o, rfl, hi, h2, c⟩ := S.dcell r e
  cases c with
  | ins hm rf => exact ⟨a, _, _, _, rfl, hi, hm, h2, rf⟩
theorem pde_attr {o : Expr} {fo : M D} {f : Str} {pos : Pos} {cs fn : String} {fns : List String} (k : ClsOk X.K X.mg cs fns) (ho : PDE X o fo) (hf : fn ∈ fns) (hx : f = Str.ofString fn := by rfl) (hb : attributeBase o f X.env (eval o X.env) = eval o X.env := by rfl) : PDE X (.Attribute o f pos) (eAttr cs fn fo) := fun W tk =>
  (pe_fld (ho W tk) hb).imp fun σ H Q ⟨B, w, env, L, S, R, h⟩ => by
    obtain ⟨C, hC, hc, _, _, hn⟩ := k.ex
    refine tE_bnd S R h fun w1 v H1 d L1 l1 S1 r1 h1 => ?_
    split at h1
    · split at h1
      · rename_i n c ds e
        split at h1
        · rename_i ec
          subst ec
          split at h1
          · rename_i d el
            obtain ⟨a, C1, dx, fs, rfl, _, hm, h2, rf⟩ := ins_at S1 r1 e
            rw [hC] at hm
            cases hm
            obtain ⟨v, hv, rv⟩ := (fs_lookup (f := fn) rf).1 d el
            subst hx
            exact ⟨a, _, dx, fs, v, rfl, h2, hc, hn fn hf, hv, post_rep S1 rv h1⟩
          · exact h1.elim
        · exact h1.elim
      · exact h1.elim
    · exact h1.elim
theorem pds_attr {o value : Expr} {fo fv : M D} {f : Str} {pos pos' : Pos} {cs fn : String} {fns : List String} (k : ClsOk X.K X.mg cs fns) (ho : PDE X o fo) (hv : PDE X value fv) (hf : fn ∈ fns) (hx : f = Str.ofString fn := by rfl) (hs : swapsWith value (some (.Attribute o f pos')) pos.line X.env = pure false := by rfl) :
    PDS X (.Assign [.Attribute o f pos'] value pos) (sAttr cs fn fo fv) := fun W tk =>
  (ps_fld (ho W tk) (hv W tk) hs).imp fun Dn σ H ⟨B, w, env, L, S, R, h⟩ => by
    obtain ⟨C, hC, hc, _, _, hn⟩ := k.ex
    refine tE_sb S R h fun w1 v H1 d L1 l1 S1 r1 h1 => ?_
    refine tE_sb S1 (R.mono l1) h1 fun w2 u H2 x L2 l2 S2 r2 h2 => ?_
    split at h2
    · split at h2
      · rename_i n c ds e
        split at h2
        · rename_i ec
          obtain ⟨ec, hl⟩ := ec
          subst ec
          obtain ⟨a, C1, dx, fs, rfl, hi, hm, h3, rf⟩ := ins_at S2 r2 e
          rw [hC] at hm
          cases hm
          subst hx
          refine ⟨a, _, dx, fs, rfl, h3, hc, hn fn hf, by rw [Paired.length rf]; exact hl, ?_⟩
          exact h2 w2 _ _ (Wd.le.refl _) (S2.store hi (CellR.ins hC (fs_put (r1.mono l2) rf))) ((R.mono l1).mono l2)
        · exact h2.elim
      · exact h2.elim
    · exact h2.elim
/-- o.m(e, ..) -/
theorem pe_methS {CX : CXT} {k : Nat} {f C : Addr} {fd : FuncData} {ps : List Str} {sp : Sp} {E : L2.St → XK} {m : Str} {pos apos : Pos} {e o : Expr} {es : List Expr} {ta : TE} {t : TA} {pl : Sem Bool} (he : PE X o ta) (c : Cls X.K C) (hm : Meth X.K C m f)
    (F : FnOk X.prog X.w X.K X.mg X.base CX k f fd ps sp) (hr : Room k X.A) (hb : Binds X.K fd ps []) (hx : ∀ σ, PassesAt CX X σ (E σ)) (ha : PA X (e :: es) t)
    (hst : starEach (e :: es) X.env = (false, eval e X.env) :: starEach es X.env) (hpl : (backTo pos (starEach es X.env)).any (·.1) = false)
    (ht : eval (.Call (.Attribute o m apos) (e :: es) [] pos) X.env = (do
      let ov ← eval o X.env
      standAt apos.atName
      let (f, first) ← holding [ov] (getMethod ov m pl)
      callWith pos f first (backTo pos (starEach (e :: es) X.env)) (backToKw pos (keywordEach [] X.env)))) :
    PE X (.Call (.Attribute o m apos) (e :: es) [] pos) (fun σ H Q => ta σ H fun x H1 => ∃ a dx fs, x = .ref a ∧ H1 a = some (.ins C dx fs) ∧ fs.lookup m = none ∧ t σ H1 fun vs H2 => sp (x :: vs) H2 Q (E σ)) := by
  refine ⟨fun pins s σ H Q I h => ?_⟩
  refine PySem.W.methodCall_KW (pl := pl) (thn (he.run pins s σ H _ I h) fun u s1 ⟨x, H1, I1, rx, a, dx, fs, ex, ea, l, q⟩ => ?_) ht
  subst ex
  obtain rfl : u = Value.ref a := rx
  refine getmeth_ok I1 ea c hm l ?_
  refine PySem.W.callWith_K (first := [.ref a]) (h₀ := X.base) I.ok.mod.kin hm.kp (thn (ha.run pos pins s1 σ H1 _ I1 q) fun us s2 ⟨vs, H2, I2, r, q2⟩ => ⟨I2.kIn, ?_⟩) hst hpl
  exact run_fnS (us := .ref a :: us) (vs := .ref a :: vs) F hr hb (hx σ) I2 (.cons rfl r) q2
theorem pde_meth {k n : Nat} {ps : List Str} {fm : Fn} {cs mn : String} {fns : List String} {m : Str} {pos apos : Pos} {e o : Expr} {es : List Expr} {fo : M D} {fa : M (List D)} {pl : Sem Bool} (kc : ClsOk X.K X.mg cs fns) (d : MethOk X.prog X.w X.K X.mg X.base cs mn k n ps fm) (hr : Room k X.A) (ho : PDE X o fo) (ha : PDA X (e :: es) fa)
    (hx : m = Str.ofString mn := by rfl) (hst : starEach (e :: es) X.env = (false, eval e X.env) :: starEach es X.env := by rfl) (hpl : (backTo pos (starEach es X.env)).any (·.1) = false := by rfl)
    (ht : eval (.Call (.Attribute o m apos) (e :: es) [] pos) X.env = (do
      let ov ← eval o X.env
      standAt apos.atName
      let (f, first) ← holding [ov] (getMethod ov m pl)
      callWith pos f first (backTo pos (starEach (e :: es) X.env)) (backToKw pos (keywordEach [] X.env))) := by rfl) :
    PDE X (.Call (.Attribute o m apos) (e :: es) [] pos) (eMeth cs mn n fm fo fa) := fun W tk => by
  obtain ⟨C, hC, hc, _, _, _⟩ := kc.ex
  obtain ⟨C', f, fd, hC', hm, F, hb⟩ := d.ex
  rw [hC] at hC'
  cases hC'
  subst hx
  refine (pe_methS (ho W tk) hc hm F hr hb (fun σ => passAt tk σ) (ha W tk) hst hpl ht).imp fun σ H Q ⟨B, w, env, L, S, R, h⟩ => ?_
  refine tE_bnd S R h fun w1 v H1 d L1 l1 S1 r1 h1 => ?_
  split at h1
  · rename_i i
    split at h1
    · rename_i oc c ds ei
      split at h1
      · rename_i ec
        obtain ⟨ec, el⟩ := ec
        subst ec
        obtain ⟨a, C1, dx, fs, rfl, hi, hm1, h3, rf⟩ := ins_at S1 r1 ei
        rw [hC] at hm1
        cases hm1
        refine ⟨a, dx, fs, rfl, h3, (fs_lookup (f := mn) rf).2 el, ?_⟩
        refine tA_bnd S1 (R.mono l1) h1 fun w2 us H2 ds2 L2 l2 S2 r2 h2 => ?_
        split at h2
        · rename_i hn
          refine ⟨by rw [List.length_cons, r2.length, hn], w2, L2, _, S2.base, .cons (r1.mono l2) r2, ?_⟩
          revert h2
          cases fm (.ref i :: ds2) L2 with
          | none => exact fun h => h
          | some p =>
            obtain ⟨r, L3⟩ := p
            cases r with
            | ok d => exact fun h w3 v H3 l3 S3 rv => h w3 v H3 l3 (S2.comp S3) rv
            | ex e => exact fun h w3 H3 cls dd l3 S3 x => h w3 H3 cls dd l3 (S2.comp S3) x
        · exact h2.elim
      · exact h1.elim
    · exact h1.elim
  · exact h1.elim
theorem pde_make0 {k : Nat} {ps : List Str} {fm : Fn} {cs : String} {fns : List String} {x : Str} {p pos : Pos} (kc : ClsOk X.K X.mg cs fns) (d : MethOk X.prog X.w X.K X.mg X.base cs "__init__" k 1 ps fm) (hr : Room (k + 1) X.A)
    (hx : x = Str.ofString cs := by rfl) (hg : Gl X x := by rfl) (hdb : (x == ("__debug__" : Str)) = false := by decide) : PDE X (.Call (.Name x p) [] [] pos) (eMake0 cs fm) := fun W tk => by
  obtain ⟨C, hC, hc, hmk, hkp, _⟩ := kc.ex
  obtain ⟨C', f, fd, hC', hm, F, hb⟩ := d.ex
  rw [hC] at hC'
  cases hC'
  subst hx
  refine (pe_make0 ⟨hmk, hm.at_, hm.fn, hkp⟩ F hr hg hC hb .nil (E := fun _ _ _ => False) (fun pins σ H s e s' I c => False.elim (cx_none c)) hdb).imp fun σ H Q ⟨B, w, env, L, S, R, h⟩ => ?_
  show ∀ x dx, H x = none → H dx = none → dx ≠ x → _
  intro x dx hx hdx hne
  obtain ⟨l1, S1⟩ := S.laid hdx (.own x)
  obtain ⟨l2, S2⟩ := S1.alloc (p := x) (by rw [upd_ne (Ne.symm hne)]; exact hx) (CellR.ins (dx := dx) (c := cs) (fs := []) (ds := []) hC .nil)
  refine ⟨rfl, _, L ++ [.ins cs []], [.ref L.length], S2.base, .cons (.ref (by rw [← S.len]; simp)) .nil, ?_⟩
  unfold eMake0 at h
  revert h
  cases fm [.ref L.length] (L ++ [.ins cs []]) with
  | none => exact fun h => h.elim
  | some p =>
    obtain ⟨r, L3⟩ := p
    cases r with
    | ex e => exact fun h => h.elim
    | ok d =>
      cases d with
      | non =>
        intro h w3 v H3 l3 S3 rv
        cases rv
        refine ⟨rfl, h w3 _ H3 ((l1.trans l2).trans l3) (S2.comp S3) (.ref (l3.io ?_))⟩
        show (w.io ++ [x])[L.length]? = some x
        rw [← S.len]
        simp
      | _ => exact fun h => h.elim
end
end Rg
namespace Rg
open PySem PySem.Spec L2
open PyProof.Rows hiding St
/-! ### exceptions with a field: C(words, x), whose __init__ says B.__init__(self, words) and self.f = x -/
section
variable {X : Cx} {e : Expr} {es : List Expr} {ta : TA} {p1 p2 pos : Pos}
/-- B.__init__(self, ..), B an own class that takes ValueError's -/
theorem pe_binit {pl : Sem Bool} {b : Str} {Db : Addr} {mc : Value} (hg : Gl X b) (hm : X.mg b = some (.ref Db)) (hdb : (b == ("__debug__" : Str)) = false) (rd : PySem.W.readsIn X.K Db mc = true) (ga : PySem.W.specialIn X.K (.ref Db) "__getattribute__" = some (some (.builtin "type.__getattribute__")))
    (vV : PySem.W.findCls X.K (.ref Db) mc "__init__" = some (.val (.builtin "ValueError.__init__"))) (ha : PA X (e :: es) ta)
    (hc : eval (.Call (.Attribute (.Name b p1) "__init__" p2) (e :: es) [] pos) X.env = (do
      let ov ← eval (.Name b p1) X.env
      standAt p2.atName
      let (f, first) ← holding [ov] (getMethod ov "__init__" pl)
      callWith pos f first (backTo pos (starEach (e :: es) X.env)) (backToKw pos (keywordEach [] X.env))) := by rfl)
    (he : starEach (e :: es) X.env = (false, eval e X.env) :: starEach es X.env := by rfl) (hpl : (backTo pos (starEach es X.env)).any (·.1) = false := by rfl) :
    PE X (.Call (.Attribute (.Name b p1) "__init__" p2) (e :: es) [] pos) (tVeI X.K ta) := by
  refine ⟨fun pins s σ H Q I h => ?_⟩
  refine PySem.W.methodCall_KW (ld_glob I hg hm ?_ hdb) hc
  refine PySem.W.method_cls I.kIn ga (PySem.W.cls_value I.kIn rd vV (by decide +kernel) ?_)
  show wpAny _ _ (callWith pos (Value.builtin "ValueError.__init__") [] (backTo pos (starEach (e :: es) X.env)) []) _ _ _
  refine PyProof.Rows.callWith_method1 (thn (ha.run pos pins _ σ H _ (I.tok _) h) fun us s1 ⟨vs, H1, I1, r1, a, C, ws, ev, hl, T, ea, q⟩ => ?_) he hpl
  subst ev
  cases r1 with
  | @cons _ u0 _ ur ra rw' =>
    obtain rfl : u0 = Value.ref a := ra
    have hlen : ur.length ≤ sizeLine := by
      rw [← Paired.length rw', sizeLine_eq]
      omega
    exact oinit_ok T I1 ea hlen fun s' J => ⟨.non, H1, J, rfl, q⟩
/-- C(e, ..), C an own class with an own __init__: its context is None -/
theorem pmk_oexN {CX : CXT} {x : Str} {C fI : Addr} {k : Nat} {fd : FuncData} {ps : List Str} {sp : Sp} (T : OexC X.K C) (iC : PySem.W.findIn X.K (.ref C) "__init__" = some (some (.ref fI))) (tI : PySem.W.typeIn X.K (.ref fI) = some (.type "function"))
    (F1 : FnOk X.prog X.w X.K X.mg X.base CX k fI fd ps sp) (hr : Room (k + 1) X.A) (hb : Binds X.K fd ps []) (hx : Passes CX X (fun _ _ _ => False)) (hg : Gl X x) (hm : X.mg x = some (.ref C)) (ha : PA X (e :: es) ta)
    (hdb : (x == ("__debug__" : Str)) = false := by decide) (he : starEach (e :: es) X.env = (false, eval e X.env) :: starEach es X.env := by rfl) (hpl : (backTo pos (starEach es X.env)).any (·.1) = false := by rfl) :
    L2N.PMk X (.Call (.Name x p1) (e :: es) [] pos) (tMkO C sp [] ta) := by
  intro pins s σ H Q I h
  obtain ⟨nm, q, N, bs, bm, sn, sub, ab, col, dd, k0, k1, k2, k3, k5, hC, hbm⟩ := T.cls
  refine wpAny_Call_Name_kw (ld_glob I hg hm ?_ hdb)
  refine PySem.W.callWith_K (h₀ := X.base) I.ok.mod.kin T.kC (thn (ha.run pos pins s σ H _ I h) fun us s1 ⟨vs, H1, I1, r1, hz, q1⟩ => ⟨I1.kIn, ?_⟩) he hpl
  show wpAny _ _ (call (.ref C) us) _ _ _
  obtain ⟨hp, g, dr, tk, os⟩ := s1
  generalize ea : hp.objs.size + 1 = a at q1
  have hsz : hp.objs.size ≤ a := by omega
  have hq := q1 a (I1.hok.fresh hsz)
  rw [List.append_nil] at hq
  have kk : ∀ b o, hp.get? b = some o → ((hp.push (PySem.W.kdv_tup us)).push (PySem.HandSPX.excO C hp.objs.size)).get? b = some o := fun b o e => Heap.get?_push_of_some _ (Heap.get?_push_of_some _ e)
  have hget : ((hp.push (PySem.W.kdv_tup us)).push (PySem.HandSPX.excO C hp.objs.size)).get? a = some (PySem.HandSPX.excO C hp.objs.size) := by
    subst ea
    heap_get
  have I2 := I1.laid (t' := tk) (a := a) (o := exo a C none) (h' := (hp.push (PySem.W.kdv_tup us)).push (PySem.HandSPX.excO C hp.objs.size)) kk hsz (exo_ok hget)
  have r2 : Vals (V.ref a :: vs) (Value.ref a :: us) := .cons rfl r1
  have hl : (Value.ref a :: us ++ []).length = ps.length := by
    rw [List.append_nil, ← F1.len _ _ _ _ hq]
    exact r2.length.symm
  have hus : us.length ≤ sizeLine := by
    rw [← Paired.length r1, sizeLine_eq]
    omega
  have b2 := hb _ (Value.ref a :: us) I2.kIn hl
  rw [List.append_nil] at b2
  have run := F1.run _ X.stack _ _ ⟨Value.ref a :: us, []⟩ (Value.ref a :: us) _ _ (fun _ _ _ => False) (hr.make C us []) (I2.env0.make C us []) b2 r2 hq
  subst ea
  refine wpAny_call (PySem.HandSPX.call_own F.excBase_ValueError (fun Y => PySem.HandSPX.refsVE_contains Y bm hbm) (I1.kIn _ _ hC) (PySem.W.looks_findIn I1.kIn iC) (fun self => PySem.W.bind_fn I1.kIn self tI) hus (codeAny_mono run fun r s' hq' => ?_))
  cases r with
  | error er => exact hx pins σ _ _ er s' I2 hq'
  | ok fl =>
    cases fl with
    | ret u =>
      obtain ⟨v, H2, os2, bare2, un2, hok2, rv, ev, d, fs, ea, ed, hd1, q2⟩ := hq'
      subst ev
      obtain ⟨h2, g2, d2, t2, os'⟩ := s'
      obtain ⟨t0, G, J, kG, ge, hoe, na⟩ := mk_end0 (d2 := d2) (t2 := t2) I1 hsz kk un2 hok2 os2 bare2 ea ed hd1
      exact ⟨rv, hp.objs.size + 1, _, _, ⟨G, g2, d2, t2, os'⟩, _, .ref C, some d, rfl, J, kG, ge, hoe, ⟨rfl, rfl, fun vs hv => by
        cases hv
        rfl⟩, rfl, rfl, na, rfl, bare2, raises_own T.exC T.tyC, q2⟩
    | next => exact False.elim hq'
    | brk => exact False.elim hq'
    | cont => exact False.elim hq'
end
/-- what such an __init__ promises -/
def spI (C : Addr) (fn : Str) : Sp := fun vs H Q _ => ∃ (a : Addr) (y0 y : V), vs = [.ref a, y0, y] ∧ H a = some (exo a C none) ∧ ∀ dx, H dx = none → dx ≠ a → Q .non (upd (upd H dx (exd dx [(fn, y)])) a (exo a C (some dx)))
/-- such a class -/
structure ExcFOk (P : Program) (w : World) (K : PySem.W.Frag) (mg : Str → Option Value) (base : Heap) (cs fn : String) (k : Nat) : Prop where
  ex : ∃ (C fI : Addr) (fd : FuncData) (ps : List Str), mg (Str.ofString cs) = some (.ref C) ∧ OexC K C ∧ PySem.W.findIn K (.ref C) "__init__" = some (some (.ref fI)) ∧ PySem.W.typeIn K (.ref fI) = some (.type "function") ∧ FnOk P w K mg base (L2N.CX P w) k fI fd ps (spI C (Str.ofString fn)) ∧ Binds K fd ps []
section
variable {X : Cx}
theorem xd_upd {H : Hp} {a dx : Addr} {o1 o2 o3 u : HO} (ha : H a = none) (hne : dx ≠ a) : upd (del (upd (upd (upd H a o1) dx o2) a o3) a) dx u = upd H dx u := by
  funext b
  by_cases h1 : b = dx
  · subst h1
    rw [upd_same, upd_same]
  · rw [upd_ne h1, upd_ne h1]
    by_cases h2 : b = a
    · subst h2
      rw [del_same, ha]
    · rw [del_ne h2, upd_ne h2, upd_ne h1, upd_ne h2]
theorem pds_raiseF {c m : Str} {cs fn : String} {j k : Nat} {e : Expr} {f : M D} {p p2 pos pos2 : Pos} (d : ExcFOk X.prog X.w X.K X.mg X.base cs fn k) (hr : Room (k + 1) X.A) (he : PDE X e f)
    (hc : c = Str.ofString cs := by rfl) (hcalm : X.calm = true := by rfl) (hg : Gl X c := by rfl) (hdb : (c == ("__debug__" : Str)) = false := by decide)
    (hs : starEach [.Constant (.str m) j p2, e] X.env = (false, eval (.Constant (.str m) j p2) X.env) :: starEach [e] X.env := by rfl) (hs1 : starEach [e] X.env = (false, eval e X.env) :: starEach [] X.env := by rfl) (hpl : (backTo pos (starEach [e] X.env)).any (·.1) = false := by rfl) :
    PDS X (.Raise (some (.Call (.Name c p) [.Constant (.str m) j p2, e] [] pos)) none pos2) (sRaiseF cs fn f) := fun W tk => by
  obtain ⟨C, fI, fd, ps, gC, T, iC, tI, F, hb⟩ := d.ex
  subst hc
  refine PS.imp (L2N.ps_raise hcalm tk (pmk_oexN T iC tI F hr hb (fun pins σ H s e s' I c => False.elim (cx_none c)) hg gC (pa_cons pe_str (pa_cons (he W tk) pa_nil hs1) hs) hdb hs hpl)) fun E σ H ⟨B, w, env, L, S, R, h⟩ => ?_
  unfold sRaiseF at h
  refine tE_sb S R h fun w1 v H1 d L1 l1 S1 r1 h1 => ?_
  refine ⟨by show 2 ≤ 1000; decide, fun a ha => ⟨a, .str m, v, rfl, upd_same, fun dx hdx hne => ⟨rfl, dx, [(Str.ofString fn, v)], upd_same, ?_, ?_, ?_⟩⟩⟩
  · rw [upd_ne hne, upd_same]
  · rw [upd_ne hne] at hdx
    exact hdx
  · rw [upd_ne hne] at hdx
    rw [xd_upd ha hne]
    obtain ⟨l2, S2⟩ := S1.laid hdx (.xd [(Str.ofString fn, v)])
    exact h1 _ _ _ (.ref C) (some dx) l2 S2 (R.mono (l1.trans l2)) ⟨C, gC, rfl, .inr ⟨dx, _, by simp, rfl, upd_same, .cons ⟨rfl, r1.mono l2⟩ .nil⟩⟩
end
end Rg
namespace Rg
open PySem PySem.Spec L2
open PyProof.Rows hiding St
/-! ### max(x, default=y) -/
theorem reads_ints {h : Heap} : ∀ {ns : List Int} {us : List Value}, Vals (ns.map V.int) us → ReadsAll h us (ns.map .int) []
  | [], _, .nil => .nil
  | n :: ns, _, .cons r t => by
    obtain ⟨tk, rfl⟩ := r
    exact .cons (as := []) (bs := []) (.int n tk) (reads_ints t)
theorem alike_all (ns : List Int) : PySem.W.AlikeAll (ns.map .int) := by
  refine ⟨fun x hx y hy => ?_, fun x hx => ?_⟩
  · obtain ⟨i, _, rfl⟩ := List.mem_map.mp hx
    obtain ⟨j, _, rfl⟩ := List.mem_map.mp hy
    rfl
  · obtain ⟨i, _, rfl⟩ := List.mem_map.mp hx
    exact fun z => by cases z
def maxOr (k : Int) : List Int → Int
  | [] => k
  | n :: ns => ns.foldl max n
section
variable {X : Cx}
def rMaxDf (K : PySem.W.Frag) : List V → List V → Hp → VK → Prop := fun xs zs H Q => ∃ (a : Addr) (ns : List Int) (k : Int), xs = [.ref a] ∧ zs = [.int k] ∧ SqL K H a (ns.map V.int) ∧ Q (.int (maxOr k ns)) H
theorem call_maxDf (hc : X.calm = true) (hu : X.A.units + 1 + 1 < cLine) : CallRK X (.builtin "max") [Str.ofString "default"] (rMaxDf X.K) := by
  intro pins s σ H xs zs us ws Q I r rz h
  obtain ⟨a, ns, k, rfl, rfl, hs, q⟩ := h
  obtain ⟨its, rv, hl, _⟩ := I.list hs
  rw [Vals.ref1 r]
  cases rz with
  | cons rk rn =>
    cases rn
    obtain ⟨tk0, rfl⟩ := rk
    refine PySem.W.max_list_default (I.ok.hd hc) hl.isList (xs := ns.map .int) (as := []) ?_ (alike_all ns) ?_ ?_ ?_
    · exact reads_ints rv
    · rw [depth_ints]
      omega
    · intro e h' tk hk
      have : ns = [] := by simpa using e
      subst this
      exact ⟨.int k, H, I.kept hk, ⟨_, rfl⟩, q⟩
    · intro y ys i v h' tk bs e hv hr hk
      cases ns with
      | nil => simp at e
      | cons n ns =>
        simp only [List.map_cons, List.cons.injEq] at e
        obtain ⟨rfl, rfl⟩ := e
        rw [PySem.W.maxD_ints] at hr
        obtain ⟨t, rfl, _⟩ := reads_int_inv hr
        exact ⟨.int _, H, I.kept hk, ⟨_, rfl⟩, q⟩
theorem pde_maxD {k : Nat} (hr : Room k X.A) (hm : X.mg "max" = none) {e e2 : Expr} {f g : M D} {p p3 pos : Pos} (he : PDE X e f) (he2 : PDE X e2 g) (hc : X.calm = true := by rfl) (hg : Gl X "max" := by rfl)
    (hs : backTo pos (starEach [e] X.env) = (false, eval e X.env) :: backTo pos (starEach [] X.env) := by rfl) (hs0 : starEach [e] X.env = (false, eval e X.env) :: starEach [] X.env := by rfl) (hpl : (backTo pos (starEach [e] X.env)).any (·.1) = false := by rfl)
    (hall : (backToKw pos (keywordEach [⟨some "default", e2, p3⟩] X.env)).all (·.1.isSome) = true := by rfl) (hnone : (backToKw pos (keywordEach [⟨some "default", e2, p3⟩] X.env)).any (·.1.isNone) = false := by rfl)
    (hks : (backToKw pos (keywordEach [⟨some "default", e2, p3⟩] X.env)).filterMap (·.1) = [Str.ofString "default"] := by rfl) :
    PDE X (.Call (.Name "max" p) [e] [⟨some "default", e2, p3⟩] pos) (eBin opMaxD f g) := fun W tk => by
  have hu : X.A.units + 1 + 1 < cLine := by
    have := hr.un
    omega
  refine (pe_callBK (call_maxDf hc hu) hg hm (by decide +kernel) (pa_cons (he W tk) pa_nil hs0) (pk_cons (he2 W tk) pk_nil) (by decide) (by decide) hs hpl hall hnone hks).imp fun σ H Q ⟨B, w, env, L, S0, R, h⟩ => ?_
  refine tE_bnd S0 R h fun w1 v H1 d L1 l1 S1 r1 h1 => ?_
  refine tE_bnd S1 (R.mono l1) h1 fun w2 u H2 d2 L2 l2 S2 r2 h2 => ?_
  unfold opMaxD at h2
  split at h2
  · rename_i ds kk e3
    cases r2
    obtain ⟨a, vs, rfl, h3, rs⟩ := S2.look (r1.mono l2) e3
    split at h2
    · rename_i e4
      have ed := mapM_keyI e4
      subst ed
      have ev := Reps.ints_of rs
      subst ev
      exact ⟨a, [], kk, rfl, rfl, SqL.of h3, post_int S2 h2⟩
    · rename_i n ns e4
      have ed := mapM_keyI e4
      subst ed
      have ev := Reps.ints_of rs
      subst ev
      exact ⟨a, n :: ns, kk, rfl, rfl, SqL.of h3, post_int S2 h2⟩
    · exact h2.elim
  · exact h2.elim
end
end Rg
namespace Rg
open PySem PySem.Spec L2
open PyProof.Rows hiding St
/-! ### range(a, b, 2) -/
section
variable {X : Cx}
theorem src_rangeT {B : Bs} {w : Wd} {lo : Int} {n : Nat} : SrcR X.K X.mg B w (Itc lo 2 n) (.items (rangeT lo n)) := fun w2 H2 L2 l2 S2 _ i => by
  refine ⟨fun hi => ?_, fun hi => ?_⟩
  · have hi' : i < n := by simpa [Src.xs, rangeT] using hi
    refine ⟨hi', fun v H' y => ?_⟩
    obtain ⟨rfl, rfl⟩ := y
    exact ⟨w2, .int (lo + (i : Nat) * 2), Wd.le.refl _, S2, by simp [Src.xs, rangeT, hi'], .int _⟩
  · show n ≤ i
    simpa [Src.xs, rangeT] using hi
theorem size_two (a b : Int) : Builtin.Range.rangeSize a b 2 = if a < b then (b - a - 1) / 2 + 1 else 0 := by
  unfold Builtin.Range.rangeSize
  rw [if_pos (show (2 : Int) > 0 by decide)]
theorem small_two {a b : Int} (ha : -(2 ^ 62) ≤ a) (ha' : a < 2 ^ 62) (hb : -(2 ^ 62) ≤ b) (hb' : b < 2 ^ 62) : Builtin.Range.small a b 2 = true := by
  unfold Builtin.Range.small
  rw [size_two]
  simp only [Builtin.Range.rangeFitsLong, Bool.and_eq_true, Bool.or_eq_true, decide_eq_true_eq, beq_iff_eq, show (2 : Int) > 0 by decide, if_true]
  split <;> omega
theorem pdi_rangeT {tg a b : Expr} {f g : M D} {j : Nat} {p p2 pos : Pos} (hm : X.mg "range" = none) (ha : PDE X a f) (hb : PDE X b g) (hg : Gl X "range" := by rfl)
    (hs : starEach [a, b, .Constant (.int 2) j p2] X.env = (false, eval a X.env) :: starEach [b, .Constant (.int 2) j p2] X.env := by rfl) (hs2 : starEach [b, .Constant (.int 2) j p2] X.env = (false, eval b X.env) :: starEach [.Constant (.int 2) j p2] X.env := by rfl) (hs3 : starEach [.Constant (.int 2) j p2] X.env = (false, eval (.Constant (.int 2) j p2) X.env) :: starEach [] X.env := by rfl)
    (hpl : (backTo pos (starEach [b, .Constant (.int 2) j p2] X.env)).any (·.1) = false := by rfl) : PDI X tg (.Call (.Name "range" p) [a, b, .Constant (.int 2) j p2] [] pos) (iRangeT f g) := fun W tk =>
  PI.imp (pi_range3 hg hm (pda_cons ha (pda_cons hb (pda_cons pde_int pda_nil hs3) hs2) hs W tk) hs hpl) fun σ H Q ⟨B, w, env, L, S, R, h⟩ => by
    refine ⟨B, w, env, L, S, R, ?_⟩
    simp only [iRangeT] at h
    simp only [aCons, aNil]
    cases hf : f env L with
    | none =>
      rw [hf] at h
      exact h
    | some p =>
      obtain ⟨r, L'⟩ := p
      rw [hf] at h
      cases r with
      | ex e => exact h
      | ok d =>
        simp only [bnd_ok] at h ⊢
        cases hf2 : g env L' with
        | none =>
          rw [hf2] at h
          exact h
        | some p =>
          obtain ⟨r, L2⟩ := p
          rw [hf2] at h
          cases r with
          | ex e => exact h
          | ok d2 =>
            simp only [bnd_ok] at h ⊢
            intro w1 vs H1 l1 S1 r1
            cases r1 with
            | cons rv r1 =>
              cases r1 with
              | cons ru r1 =>
                cases r1 with
                | cons rc r1 =>
                  cases r1
                  split at h
                  · rename_i i j
                    cases rv; cases ru; cases rc
                    split at h
                    · rename_i hb
                      have h1 := big_ok hb.1
                      have h2 := big_ok hb.2
                      refine ⟨i, j, 2, (if i < j then (j - i - 1) / 2 + 1 else 0).toNat, rfl, ⟨by decide, by decide, small_two h1.1 h1.2 h2.1 h2.2, ?_⟩, h w1 _ H1 l1 S1 src_rangeT⟩
                      rw [size_two]
                      split <;> omega
                    · exact h.elim
                  · exact h.elim
end
end Rg
/-! Sn23: where an exception is handled: lists walked, comprehensions, for over range. -/
namespace Rg
open PySem PySem.Spec L2
open PyProof.Rows hiding St
open HotX L2H
/-- the end of a list's walk, StopIteration's context the handled exception -/
theorem list_end_hot {prog : Program} {w : World} {A : Around} {E : Value → Shared → Prop} {s : Shared} {it l x1 : Addr} {i : Nat} {items : Array Value} {Q : Option Value → Shared → Prop} (hot : HotAt A x1 s.heap) (hit : s.heap.IsListIter it l i) (hl : s.heap.IsList l items) (hx : items[i]? = none)
    (hne : x1 ≠ it) (hQ : ∀ h', (∀ b o, b ≠ it → s.heap.get? b = some o → h'.get? b = some o) → Q none { s with heap := h' }) : wpAny (model prog w) A (pyNext (.ref it)) Q E s := by
  obtain ⟨o, ho, hc, hd⟩ := id hit
  obtain ⟨ol, hol, _, nl, hdl⟩ := hl
  obtain ⟨hh, o1, vs1, h1, d1, c1⟩ := hot
  unfold pyNext
  refine wpAny_bind (wpAny_attempt (wpAny_callSpecial?_slot (name := Str.ofString "__next__") hit.typeIs slot_listiter_next
    (wpAny_call_entry slot_listiter_next hit.typeIs entry_listiter_next ?_ (args_listiter_next _))))
  show wpAny _ _ (field (.ref it) 0 >>= _) _ _ s
  refine wpAny_bind (wpAny_field ho hd (x := .ref l) rfl ?_)
  show wpAny _ _ (if (Value.ref l == Value.none) = true then _ else _) _ _ s
  rw [if_neg (show ¬ ((Value.ref l == Value.none) = true) from Bool.false_ne_true)]
  show wpAny _ _ (field (.ref it) 1 >>= _) _ _ s
  refine wpAny_bind (wpAny_field ho hd (x := .int i 0) rfl ?_)
  show wpAny _ _ (seqItems? (.ref l) >>= _) _ _ s
  refine wpAny_bind (wpAny_seqItems hol hdl ?_)
  simp only [Int.toNat_natCast, hx]
  refine wpAny_bind (wpAny_rule (wpAny_bind (wpAny_setField ho hd (by simp) ?_)))
  have h2 := (Heap.get?_update_other s.heap (Obj.mapFields (·.setIfInBounds 0 Value.none)) (Ne.symm hne)).trans h1
  refine wpAny_bind ?_
  simp only [newExc, newTuple]
  refine wpAny_bind (wpAny_newObj_type ?_ (by size_fits))
  refine wpAny_bind (m := firstArgMember _ _) (wpAny_of_eq (a := Value.none) (by first | rfl | (simp only [firstArgMember]; rfl)) ?_)
  refine wpAny_newObj_type ?_ (by size_fits)
  refine raiseNew_hot ⟨hh, o1, vs1, Heap.get?_push_of_some _ (Heap.get?_push_of_some _ h2), d1, c1⟩ (Nat.ne_of_lt (Heap.lt_size (Heap.get?_push_of_some _ h2))) (Heap.get?_push_size _ rfl) rfl (by first | (simp; done) | (simp; omega) | (simp only [Array.size_append]; simp; omega)) ?_
  refine wpAny_bind (wpAny_isInstance (T := "StopIteration") (b := true) ⟨_, Heap.get?_update_self _ (Heap.get?_push_size _ rfl) rfl, rfl⟩ isSubtype_stop ?_)
  refine wpAny_pure (hQ _ fun b o hb e => ?_)
  have e2 := (Heap.get?_update_other s.heap (Obj.mapFields (·.setIfInBounds 0 Value.none)) (Ne.symm hb)).trans e
  rw [Heap.get?_update_other _ _ (Nat.ne_of_gt (Heap.lt_size (Heap.get?_push_of_some _ e2)))]
  exact Heap.get?_push_of_some _ (Heap.get?_push_of_some _ e2)
theorem turn_listH {P : Program} {w : World} {K : PySem.W.Frag} {tg : Expr} (a it : Addr) : TurnH P w K tg (Itl K a) [it] it (fun i h => h.IsListIter it a i) where
  mem := (turn_list (P := P) (w := w) (K := K) (tg := tg) a it).mem
  obj := (turn_list (P := P) (w := w) (K := K) (tg := tg) a it).obj
  keep := (turn_list (P := P) (w := w) (K := K) (tg := tg) a it).keep
  item := by
    intro X hP hw hK hc i pins s σ H E I hf st hg
    subst hP hw hK
    obtain ⟨xs, x, hq, hx⟩ := hg
    obtain ⟨its, rv, p, hz⟩ := I.list hq
    obtain ⟨u, hu, ru⟩ := rv.get hx
    obtain ⟨f0, f1, f2, f3, f4, f5⟩ := hf it (by simp)
    refine wpAny_pyNext_list_item st p.isList (x := u) (by simpa using hu) fun h' st' sb => ?_
    have I1 : Inv X pins σ H { s with heap := h' } := I.turned (t' := s.toks) (fun b o hb e => (sb.2 b hb).trans e) f0 f1 f3 f4 f5
    obtain ⟨o, e, c, d⟩ := id st'
    exact ⟨u, rfl, go_of (s := { s with heap := h' }) e c d (by decide) ⟨x, H, I1, ru, ⟨rfl, fun ys hy => by rw [I.list_inj hy hq]; exact hx⟩, st', fun b hb => (hf b hb).1⟩⟩
  done := by
    intro X hP hw hK hc i pins s σ H E I hf st hg
    subst hP hw hK
    obtain ⟨xs, hq, hx⟩ := hg
    obtain ⟨its, rv, p, hz⟩ := I.list hq
    obtain ⟨f0, f1, f2, f3, f4, f5⟩ := hf it (by simp)
    have hl := rv.length
    obtain ⟨pp, ⟨hh, v1, e1, c1⟩, hp⟩ := hc
    have hP1 := (I.pin pp (List.mem_append_left _ hp)).1
    exact list_end_hot (x1 := pp.1) ⟨hh, pp.2, v1, hP1, e1, c1⟩ st p.isList (by simp; omega) (f5 pp (List.mem_append_left _ hp)) fun h' eb => ⟨rfl, I.turned (t' := s.toks) (fun b o hb e => eb b o hb e) f0 f1 f3 f4 f5⟩
  self := fun _ _ _ _ _ st h => wpAny_pyIter_listiter st h
theorem pi_listH {X : Cx} {tg l : Expr} {tl : TE} (hl : PE X l tl) : PIH X tg l (iList X.K tl) := by
  refine ⟨fun pins s σ H R I h => ?_⟩
  refine thn (hl.run pins s σ H _ I h) fun v s1 ⟨x, H1, I1, r1, q1⟩ => ?_
  obtain ⟨a, e, ⟨xs, hq⟩, q⟩ := q1
  subst e
  cases r1
  obtain ⟨its, rv, p, hz⟩ := I1.list hq
  refine wpAny_pyIter_list p.isList ?_
  refine ⟨s1.heap.objs.size, [s1.heap.objs.size], _, _, H1, rfl, I1.kept (t' := s1.toks) fun b o e => Heap.get?_push_of_some _ e, turn_listH a _, ⟨_, Heap.get?_push_size _ rfl, rfl, rfl⟩, fun b hb => ?_, q⟩
  have e : b = s1.heap.objs.size := by simpa using hb
  subst e
  exact I1.fpOk (Nat.le_refl _) (I1.hok.fresh (Nat.le_refl _))
/-! ### comprehensions there -/
/-- the block's context, what is pinned kept -/
abbrev blkH (X : Cx) (s : Shared) (H : Hp) (scope : Scope) (cenv : PySem.Env) (fp : List Addr) : Cx := { X.blk s H scope cenv fp with pn := X.pn }
theorem inv_blkH {X : Cx} {s : Shared} {H : Hp} {scope : Scope} {cenv : PySem.Env} {fp : List Addr} {σ : L2.St} {H' : Hp} {s' : Shared} (I : Inv (X.blk s H scope cenv fp) [] σ H' s')
    (hp : ∀ p ∈ X.pn, s'.heap.get? p.1 = some p.2 ∧ H' p.1 = none ∧ p.1 ≠ cenv.locals ∧ p.1 ∉ frs X.stack ∧ ∀ v, p.2.data ≠ .cell v) : Inv (blkH X s H scope cenv fp) [] σ H' s' :=
  ⟨⟨I.ok.mod, I.ok.kind, I.ok.glob, I.ok.blt, I.ok.above, I.ok.inj, I.ok.has, I.ok.cab, I.ok.hd, I.ok.frames, I.ok.stk, I.ok.exf, I.ok.bs, I.ok.bsz, I.ok.noex, I.ok.exfs, I.ok.funs, I.ok.frf⟩, I.os, I.bare, I.base, I.loc, I.cell, I.free, I.freeC, fun p q => hp p (by simpa using q), I.hok, I.len⟩
section
variable {X : Cx}
theorem lc_coreH {pins : List (Addr × Obj)} {s : Shared} {σ : L2.St} {H : Hp} {Q : VK} {elt tg iter : Expr} {ifs : List Expr} {scope : Scope} {own : List (Str × Nat)} {pos pos' : Pos} {wi : TI} {g : TG} {tt : TT} {te : TE} {use : Option (Value → Sem Unit)} {Qf : Value → Shared → Prop}
    (hc : HotC X) (hN : X.N.Nodup) (I : Inv X pins σ H s) (hi : PIH X tg iter wi) (ok : BlkOk X.N X.env.scope scope own)
    (hg : ∀ (s : Shared) (H : Hp) (C : Addr) (cl : List (Str × Addr)) (fp : List Addr), PG (blkH X s H scope (compEnvC scope cl C X.env) fp) tg g) (ht : ∀ (s : Shared) (H : Hp) (C : Addr) (cl : List (Str × Addr)) (fp : List Addr), PTs (blkH X s H scope (compEnvC scope cl C X.env) fp) ifs tt)
    (he : ∀ (s : Shared) (H : Hp) (C : Addr) (cl : List (Str × Addr)) (fp : List Addr), PE (blkH X s H scope (compEnvC scope cl C X.env) fp) elt te) (hs : ∀ x, foldedSetIterable iter X.env x = pure x)
    (h : tLc wi g tt te (own.map (·.2)) σ H Q)
    (hRR : ∀ D C s' m H', Inv X pins σ H' s' → Q (.ref D) H' → s'.heap.Ns C m → FpOk X pins H' C → compPost (model X.prog X.w) X.A X.xe use Qf (.ref D) C (.ok .next) s') :
    wpAny (model X.prog X.w) X.A (comprehension (.ListComp elt [⟨tg, iter, ifs, 0⟩] scope pos) scope X.env pos' (newList []) false (eval iter X.env) use) Qf X.xe s := by
  have hfree : ∀ y ∈ scope.names, y.2 = .free → ∃ c, X.env.cells.lookup y.1 = some c := fun y hy e => by
    rcases ok.free y hy e with k | k
    · exact I.ok.has _ (.inl k)
    · exact I.ok.has _ (.inr k)
  refine wpAny_comprehension_free (use := use) rfl hs (closure_ok hfree) ok.kind (fun y hy e => by rw [ok.uniq y hy, e])
    (thn (hi.run pins s σ H _ I h) fun xv s1 hx => thn hx fun itv s2 h2 => ?_)
  obtain ⟨it, fp, tn, J, H2, e, I2, T, st2, f2, q⟩ := h2
  subst e
  refine wpAny_newObj_type (newEnv_comp ?_) (by show 0 ≤ sizeLine; decide)
  generalize hD : s2.heap.objs.size = D
  have hDn : H2 D = none := I2.hok.fresh (Nat.le_of_eq hD)
  obtain ⟨W, ⟨m0, w0⟩, turn⟩ := q D hDn
  generalize hs3 : ({ s2 with heap := s2.heap.push { cls := .type "list", data := .seq ([] : List Value).toArray } } : Shared) = s3
  have I3 : Inv X pins σ (upd H2 D (.lst [])) s3 := by
    rw [← hs3]
    refine I2.laid (t' := s2.toks) (fun b o e => Heap.get?_push_of_some _ e) (Nat.le_of_eq hD) ⟨Nat.zero_le _, [], 0, .nil, ?_⟩
    rw [← hD]
    exact Heap.get?_push_size _ rfl
  have h3 : s3.heap = s2.heap.push { cls := .type "list", data := .seq ([] : List Value).toArray } := by rw [← hs3]
  have sz : ∀ b ∈ fp, b < s2.heap.objs.size := fun b hb => by
    obtain ⟨o, e, _⟩ := T.obj _ _ st2 b hb
    exact Heap.lt_size e
  have f3 : ∀ b ∈ fp, FpOk X pins (upd H2 D (.lst [])) b ∧ b < s3.heap.objs.size := fun b hb => by
    have hlt := sz b hb
    refine ⟨⟨?_, (f2 b hb).2⟩, by rw [h3, Heap.size_push]; exact Nat.lt_succ_of_lt hlt⟩
    rw [upd_ne (by rw [← hD]; exact Nat.ne_of_lt hlt)]
    exact (f2 b hb).1
  have st3 : tn 0 s3.heap := T.keep _ _ _ st2 fun b _ o e => by rw [h3]; exact Heap.get?_push_of_some _ e
  have I4' := block_start I3 ok hN f3
  have pg := hg s3 (upd H2 D (.lst [])) s3.heap.objs.size (cellsFrom (s3.heap.objs.size + 1) scope.names (cloFrom X.env.cells scope.names [])) fp
  have pt := ht s3 (upd H2 D (.lst [])) s3.heap.objs.size (cellsFrom (s3.heap.objs.size + 1) scope.names (cloFrom X.env.cells scope.names [])) fp
  have pe := he s3 (upd H2 D (.lst [])) s3.heap.objs.size (cellsFrom (s3.heap.objs.size + 1) scope.names (cloFrom X.env.cells scope.names [])) fp
  show codeAny _ _ (.compStart (.ListComp elt [⟨tg, iter, ifs, 0⟩] scope pos) 0 (.ref it) (.ref D) (compEnvC scope (cellsFrom (s3.heap.objs.size + 1) scope.names (cloFrom X.env.cells scope.names [])) s3.heap.objs.size X.env)) (compPost (model X.prog X.w) X.A X.xe use Qf (.ref D) s3.heap.objs.size) { s3 with heap := pushCells (s3.heap.push { cls := .type "dict", data := .dict #[] }) scope.names }
  have nfp : ∀ b ∈ fp, (upd H2 D (.lst [])) b = none := fun b hb => (f3 b hb).1.1
  generalize hce : compEnvC scope (cellsFrom (s3.heap.objs.size + 1) scope.names (cloFrom X.env.cells scope.names [])) s3.heap.objs.size X.env = ce at I4' pg pt pe ⊢
  have cL : ce.locals = s3.heap.objs.size := by subst hce; rfl
  generalize hH3 : upd H2 D (.lst []) = H3 at I3 I4' pg pt pe w0 nfp f3
  have I4 := inv_blkH I4' fun p hp => by
    have P := I3.pin p (List.mem_append_left _ hp)
    exact ⟨pushCells_keeps _ _ _ _ (Heap.get?_push_of_some _ P.1), P.2.1, by rw [cL]; exact Nat.ne_of_lt (Heap.lt_size P.1), fun hm => (List.mem_cons.mp (I3.stkSub p.1 hm)).elim P.2.2.1 P.2.2.2.1, P.2.2.2.2⟩
  generalize hs4 : ({ s3 with heap := pushCells (s3.heap.push { cls := .type "dict", data := .dict #[] }) scope.names } : Shared) = s4 at I4 ⊢
  have st4 : tn 0 s4.heap := T.keep _ _ _ st3 fun b _ o e => by rw [← hs4]; exact pushCells_keeps _ _ _ _ (Heap.get?_push_of_some _ e)
  have stat : ∀ {σ' : L2.St} {H' : Hp} {s' : Shared}, Inv (blkH X s3 H3 scope ce fp) [] σ' H' s' → (∀ b ∈ fp, H' b = none) → ∀ b ∈ fp, FpOk (blkH X s3 H3 scope ce fp) [] H' b := fun {σ' H' s'} I' hn b hb =>
    ⟨hn b hb, (I'.ok.exf b hb).1, I'.ok.exfs b hb, .inl hb, fun x c e => (I'.ok.exf b hb).2 x c e, fun p hp => (f3 b hb).1.2.2.2.2.2 p (List.mem_append_left _ (by simpa using hp))⟩
  have loop : codeAny (model X.prog X.w) X.A (.compLoop (.ListComp elt [⟨tg, iter, ifs, 0⟩] scope pos) 0 (.ref it) (.ref D) ce) (compPost (model X.prog X.w) X.A X.xe use Qf (.ref D) s3.heap.objs.size) s4 := by
    refine compLoop_any (fun n s' => ∃ i H', Inv (blkH X s3 H3 scope ce fp) [] (L2.wipe σ (own.map (·.2))) H' s' ∧ tn i s'.heap ∧ (∀ b ∈ fp, H' b = none) ∧ W i n H') ?_ m0 ⟨0, H3, I4, st4, nfp, w0⟩
    rintro n s5 ⟨i, H5, I5, st5, n5, w5⟩
    rcases turn i n H5 w5 with ⟨stop, qq⟩ | ⟨go, Nx, hNx, step⟩
    · have td := T.done (blkH X s3 H3 scope ce fp) rfl rfl rfl hc i [] s5 _ H5 (fun _ _ => False) I5 (stat I5 n5) st5 stop
      refine thnF td fun r s6 ⟨hr, I6⟩ => ?_
      subst hr
      have I7 : Inv X pins σ H5 s6 := I3.call' (ch := fp) I6.os I6.base I6.hok I6.bare fun b hb => ⟨(f3 b hb).1.2.2.2.1, (f3 b hb).1.2.1, (f3 b hb).1.2.2.2.2.1, (f3 b hb).1.2.2.2.2.2⟩
      have nC : H5 s3.heap.objs.size = none := by
        have z : H5 ce.locals = none := I6.free
        rw [cL] at z
        exact z
      obtain ⟨m, hn, _⟩ := I6.loc
      have hn : s6.heap.Ns ce.locals m := hn
      rw [cL] at hn
      exact hRR D s3.heap.objs.size s6 m H5 I7 qq hn (I3.fpOk (Nat.le_refl _) nC)
    · have ti := T.item (blkH X s3 H3 scope ce fp) rfl rfl rfl hc i [] s5 _ H5 (fun _ _ => False) I5 (stat I5 n5) st5 go
      refine thnF ti fun r s6 ⟨u, hr, h6⟩ => ?_
      subst hr
      refine thnF h6 fun _ s7 ⟨x, H7, I7, r7, y7, st7, n7⟩ => ?_
      have I7' := I7.pinned (stat I7 n7) (T.obj _ _ st7)
      refine thnF (pg.run _ s7 _ H7 x u _ I7' r7 (step x H7 y7)) fun _ s8 ⟨σ8, H8, I8, hw8, q8⟩ => ?_
      refine thnF (pt.run _ s8 σ8 H8 _ I8 q8) fun b s9 ⟨H9, I9, q9⟩ => ?_
      have fin : ∀ {s' : Shared} {H' : Hp}, Inv (blkH X s3 H3 scope ce fp) ([] ++ pinsAt fp s7.heap) σ8 H' s' → Nx H' → ∃ m, m < n ∧ ∃ i H', Inv (blkH X s3 H3 scope ce fp) [] (L2.wipe σ (own.map (·.2))) H' s' ∧ tn i s'.heap ∧ (∀ b ∈ fp, H' b = none) ∧ W i m H' := fun {s' H'} I' nx => by
        obtain ⟨m', hm, w'⟩ := hNx H' nx
        have pin' : ∀ b ∈ fp, ∀ o, s7.heap.get? b = some o → s'.heap.get? b = some o ∧ H' b = none := fun b hb o e =>
          let z := I'.pin (b, o) (List.mem_append_right _ (List.mem_append_right _ (mem_pinsAt hb e)))
          ⟨z.1, z.2.1⟩
        have hl : (L2.wipe σ (own.map (·.2))).length = σ8.length := by rw [← hw8, wipe_length]
        refine ⟨m', hm, i + 1, H', (I'.unpinned (pins := [])).weak hl (fun j v e => ?_), T.keep _ _ _ st7 fun b hb o e => (pin' b hb o e).1, fun b hb => ?_, w'⟩
        · rw [← hw8] at e
          exact (wipe_some e).1
        · obtain ⟨o, e, _⟩ := T.obj _ _ st7 b hb
          exact (pin' b hb o e).2
      cases b with
      | false =>
        simp only [Bool.false_eq_true, if_false] at q9 ⊢
        exact fin I9 q9
      | true =>
        simp only [if_true] at q9 ⊢
        refine thnF (pe.run _ s9 σ8 H9 _ I9 q9) fun z s10 ⟨yv, H10, I10, r10, acc, hD10, hz10, nx⟩ => ?_
        exact app_ok (X := blkH X s3 H3 scope ce fp) I10 hD10 hz10 r10 fun s11 I11 => fin I11 nx
  exact codeAny_compStart_list loop (T.self X.A 0 _ _ _ st4 loop)
theorem pe_lcH {elt tg iter : Expr} {ifs : List Expr} {scope : Scope} {own : List (Str × Nat)} {pos : Pos} {wi : TI} {g : TG} {tt : TT} {te : TE} (hc : HotC X) (hN : X.N.Nodup) (hi : PIH X tg iter wi) (ok : BlkOk X.N X.env.scope scope own)
    (hg : ∀ (s : Shared) (H : Hp) (C : Addr) (cl : List (Str × Addr)) (fp : List Addr), PG (blkH X s H scope (compEnvC scope cl C X.env) fp) tg g) (ht : ∀ (s : Shared) (H : Hp) (C : Addr) (cl : List (Str × Addr)) (fp : List Addr), PTs (blkH X s H scope (compEnvC scope cl C X.env) fp) ifs tt)
    (he : ∀ (s : Shared) (H : Hp) (C : Addr) (cl : List (Str × Addr)) (fp : List Addr), PE (blkH X s H scope (compEnvC scope cl C X.env) fp) elt te) (hs : ∀ x, foldedSetIterable iter X.env x = pure x := by intro _; rfl) :
    PE X (.ListComp elt [⟨tg, iter, ifs, 0⟩] scope pos) (tLc wi g tt te (own.map (·.2))) := by
  refine ⟨fun pins s σ H Q I h => ?_⟩
  rw [eval_ListComp]
  refine lc_coreH hc hN I hi ok hg ht he hs h fun D C s' m H' I' q hn f => ⟨m, hn, fun h'' sb => ?_⟩
  obtain ⟨f0, f1, f2, f3, f4, f5⟩ := f
  exact ⟨.ref D, H', I'.turned (t' := s'.toks) (fun b o hb e => (sb.2 b hb).trans e) f0 f1 f3 f4 f5, rfl, q⟩
/-! ### the data's rules -/
def PDIH (X : Cx) (tg e : Expr) (f : Ms) : Prop := ∀ W, Takes X W → PIH X tg e (tI1 X.K X.mg W f)
theorem _root_.L2H.PIH.imp {tg e : Expr} {t t' : TI} (h : PIH X tg e t) (hi : ∀ σ H Q, t' σ H Q → t σ H Q) : PIH X tg e t' := ⟨fun pins s σ H Q I q => h.run pins s σ H Q I (hi σ H Q q)⟩
theorem pdih_range1 {tg a : Expr} {f : M D} {p pos : Pos} (hm : X.mg "range" = none) (ha : PDE X a f) (hg : Gl X "range" := by rfl) (hs : starEach [a] X.env = [(false, eval a X.env)] := by rfl) : PDIH X tg (.Call (.Name "range" p) [a] [] pos) (iRange1 f) := fun W tk =>
  PIH.imp (pi_range1H hg hm (pda_cons ha pda_nil hs W tk) hs) fun σ H Q ⟨B, w, env, L, S, R, h⟩ => by
    refine ⟨B, w, env, L, S, R, ?_⟩
    simp only [iRange1] at h
    simp only [aCons, aNil]
    cases hf : f env L with
    | none =>
      rw [hf] at h
      exact h
    | some p =>
      obtain ⟨r, L'⟩ := p
      rw [hf] at h
      cases r with
      | ex e => exact h
      | ok d =>
        simp only [bnd_ok] at h ⊢
        intro w1 vs H1 l1 S1 r1
        obtain ⟨v, rfl, rv⟩ := r1.one
        split at h
        · rename_i j
          cases rv
          split at h
          · rename_i hb
            have := big_ok hb
            exact ⟨j, rfl, this.1, this.2, h w1 _ H1 l1 S1 src_range⟩
          · exact h.elim
        · exact h.elim
theorem pdih_list {tg e : Expr} {f : M D} (he : PDE X e f) : PDIH X tg e (iLs f) := fun W tk => PIH.imp (pi_listH (he W tk)) fun σ H Q ⟨B, w, env, L, S, R, h⟩ => by
  refine ⟨B, w, env, L, S, R, ?_⟩
  simp only [iLs] at h
  cases hf : f env L with
  | none =>
    rw [hf] at h
    exact h.elim
  | some p =>
    obtain ⟨r, L'⟩ := p
    rw [hf] at h
    cases r with
    | ex e => exact h
    | ok d =>
      simp only [bnd_ok] at h
      split at h
      · split at h
        · rename_i xs hx
          intro w1 v H1 l1 S1 r1
          obtain ⟨a, vs, rfl, h2, sr⟩ := src_list S1 r1 hx
          exact ⟨a, rfl, ⟨vs, h2⟩, h w1 _ H1 l1 S1 sr⟩
        · exact h.elim
      · exact h.elim
theorem pde_lcH {elt tg iter : Expr} {ifs : List Expr} {scope : Scope} (own : List (Str × Nat)) {pos : Pos} {it : Ms} {g : Tg} {t : M Bool} {e : M D} (hot : HotC X) (hN : X.N.Nodup) (ok : BlkOk X.N X.env.scope scope own) (hi : PDIH X tg iter it)
    (hg : ∀ (s : Shared) (H : Hp) (C : Addr) (cl : List (Str × Addr)) (fp : List Addr), PDG2 (blkH X s H scope (compEnvC scope cl C X.env) fp) (own.map (·.2)) tg g) (ht : ∀ (s : Shared) (H : Hp) (C : Addr) (cl : List (Str × Addr)) (fp : List Addr), PDTs (blkH X s H scope (compEnvC scope cl C X.env) fp) ifs t)
    (he : ∀ (s : Shared) (H : Hp) (C : Addr) (cl : List (Str × Addr)) (fp : List Addr), PDE (blkH X s H scope (compEnvC scope cl C X.env) fp) elt e) (hs : ∀ x, foldedSetIterable iter X.env x = pure x := by intro _; rfl) :
    PDE X (.ListComp elt [⟨tg, iter, ifs, 0⟩] scope pos) (eLc (own.map (·.2)) it g t e) := fun W tk =>
  (pe_lcH (g := tG2 X.K X.mg (own.map (fun p : Str × Nat => p.2)) g) (tt := tB1 X.K X.mg noW t) (te := tE X.K X.mg noW e) hot hN (hi W tk) ok hg (fun s H C cl fp => ht s H C cl fp noW takes_no) (fun s H C cl fp => he s H C cl fp noW takes_no) hs).imp lc_imp
theorem pds_forH {tg iter : Expr} {body : List Stmt} {it : Ms} {g : Tg} {b : Sm} {pos : Pos} (hot : HotC X) (hp : PassesOwn (model X.prog X.w) X.A X.env X.xe) (hi : PDIH X tg iter it) (hg : PDG X tg g) (hb : PDSs X body b)
    (hs : ∀ x, foldedSetIterable iter X.env x = pure x := by intro _; rfl) : PDS X (.For tg iter body [] pos) (sFor it g b) := fun W tk => PS.imp (ps_forH hp hot (hi W tk) hg (hb W tk) hs) for_imp
end
end Rg
/-! Sn24: the caught exception: isinstance, defs called with it, try .. except X as e. -/
namespace Rg
open PySem PySem.Spec L2
open PyProof.Rows hiding St
open HotX L2H
/-- p is the caught exception, of class c, with its dict at z -/
structure PinX (K : PySem.W.Frag) (mg : Str → Option Value) (p : Addr × Obj) (c : String) (z : Option Nat) : Prop where
  ex : ∃ C, mg (Str.ofString c) = some (.ref C) ∧ L2N.Zn (.ref C) z p.2 ∧ ∃ vs, p.2.data = .fields vs
theorem PinX.hot {K : PySem.W.Frag} {mg : Str → Option Value} {p : Addr × Obj} {c : String} {z : Option Nat} (h : PinX K mg p c z) {A : Around} (hh : A.handled = some (.ref p.1)) : Hot1 A p := by
  obtain ⟨C, _, z, vs, hv⟩ := h.ex
  exact ⟨hh, vs, hv, z.2.2 vs hv⟩
theorem kit_self {K : PySem.W.Frag} {C : Addr} : PySem.W.kitOne K (.ref C) (.ref C) = some true := if_pos (beq_self_eq_true _)
theorem kit_ref {K : PySem.W.Frag} {C1 C : Addr} {b : Bool} (hn : C1 ≠ C) (h2 : PySem.W.isClsIn K C = true) (h3 : PySem.W.typeIn K (.ref C) = some (.type "type")) (h : PySem.W.subIn K (.ref C1) (.ref C) = some b) : PySem.W.kitOne K (.ref C1) (.ref C) = some b := by
  have e0 : ¬ ((Value.ref C1 == Value.ref C) = true) := fun e => hn (Value.ref.inj (eq_of_beq e))
  have e2 : ((PySem.W.clsIn K C).isSome && PySem.W.typeIn K (.ref C) == some (.type "type")) = true := by
    have h2' : (PySem.W.clsIn K C).isSome = true := h2
    rw [h2', h3] <;> rfl
  unfold PySem.W.kitOne
  rw [if_neg e0]
  show (if ((PySem.W.clsIn K C).isSome && PySem.W.typeIn K (.ref C) == some (.type "type")) = true then PySem.W.subIn K (.ref C1) (.ref C) else none) = some b
  rw [if_pos e2]
  exact h
theorem kit_type {K : PySem.W.Frag} {C1 : Addr} {T : String} {b : Bool} (hT : PySem.W.kitMeta T = true) (h : PySem.W.subIn K (.ref C1) (.type T) = some b) : PySem.W.kitOne K (.ref C1) (.type T) = some b := by
  unfold PySem.W.kitOne
  rw [if_neg (by exact Bool.false_ne_true)]
  show (if PySem.W.kitMeta T = true then PySem.W.subIn K (.ref C1) (.type T) else none) = some b
  rw [if_pos hT]
  exact h
/-- what isinstance(e, x) tells of the classes of tab -/
structure IsX (K : PySem.W.Frag) (mg : Str → Option Value) (cv : Value) (tab : List (String × Bool)) : Prop where
  all : ∀ q ∈ tab, ∀ C, mg (Str.ofString q.1) = some (.ref C) → ExcC K C ∧ PySem.W.kitOne K (.ref C) cv = some q.2
section
variable {X : Cx}
/-- isinstance(e, cv), e the exception at a, its dict at z -/
def rIsD (K : PySem.W.Frag) (D a : Addr) (z : Option Nat) : List V → Hp → VK → Prop := fun xs H Q => ∃ (c : V) (cv : Value) (b : Bool), xs = [.ref a, c] ∧ (∀ u, RelV c u → u = cv) ∧ PySem.W.kitOne K (.ref D) cv = some b ∧ (∀ dx, z = some dx → ∃ fs, H dx = some (.xd fs)) ∧ Q (.bl b) H
theorem inst_pin {pins : List (Addr × Obj)} {σ : L2.St} {H : Hp} {s : Shared} {a D : Addr} {oe : Obj} {z : Option Nat} (I : Inv X pins σ H s) (hget : s.heap.get? a = some oe) (hz : Zc (.ref D) z oe) (hf : ∃ vs, oe.data = .fields vs) (hd : ∀ dx, z = some dx → ∃ fs, H dx = some (.xd fs)) : ∃ od, PySem.W.InstAt s.heap a oe D od := by
  obtain ⟨vs, hv⟩ := hf
  cases z with
  | none =>
    refine ⟨none, ?_⟩
    obtain ⟨oc, od, oda, osl⟩ := oe
    obtain ⟨h1, h2⟩ := hz
    dsimp only at h1 h2 hv
    subst h1 h2 hv
    exact ⟨hget, rfl, rfl, trivial⟩
  | some dx =>
    obtain ⟨fs, hx⟩ := hd dx rfl
    have hx : ObjOk X.prog X.w H s.heap dx (.xd fs) := I.hok dx _ hx
    obtain ⟨mA, hns, hr⟩ := hx
    obtain ⟨od, ho, hl⟩ := lookIn_ns hns
    exact ⟨some od, ⟨hget, hz.1, by unfold PySem.W.notCls; rw [hv] <;> rfl, by rw [hz.2]; exact ho⟩⟩
theorem excC_cls {K : PySem.W.Frag} {D : Addr} (C : ExcC K D) : (PySem.W.clsIn K D).isSome = true := by
  obtain ⟨cd, hc, _⟩ := PySem.W.any_some C.hd
  rw [hc]
  rfl
theorem call_isP {p : Addr × Obj} {D : Addr} {z : Option Nat} (hp : p ∈ X.pn) (C : ExcC X.K D) (hz : Zc (.ref D) z p.2) (hf : ∃ vs, p.2.data = .fields vs) : CallR X (.builtin "isinstance") (rIsD X.K D p.1 z) := by
  intro pins s σ H xs us Q I r h
  obtain ⟨c, cv, b, rfl, hcv, e, hd, q⟩ := h
  cases r with
  | cons rx rr =>
    cases rr with
    | cons rt rr =>
      cases rr
      cases rx
      have ec := hcv _ rt
      subst ec
      have hget := (I.pin p (List.mem_append_left _ hp)).1
      obtain ⟨a, oe⟩ := p
      obtain ⟨od, J⟩ := inst_pin I hget hz hf hd
      exact PySem.W.kia_one (PySem.W.kitx_exc (excC_cls C) C.hg C.hk C.hs C.ha C.hn C.ht C.hm) I.kIn J e (fun z => nomatch z) fun tk => ⟨.bl b, H, I.kept (t' := tk) fun _ _ z => z, rfl, q⟩
theorem opIsP_some {c : String} {a : Nat} {z : Option Nat} {tab : List (String × Bool)} {d : D} {L : Hh} {r : Rs D × Hh} (h : opIsP c a z tab d L = some r) : ∃ fs b, d = .exn c (.int (a : Nat) :: fs) ∧ fldOk z fs = true ∧ tab.lookup c = some b ∧ r = (.ok (.bl b), L) := by
  unfold opIsP at h
  split at h
  · rename_i c' i fs
    split at h
    · rename_i hc
      obtain ⟨rfl, rfl, hz⟩ := hc
      split at h
      · rename_i b hb
        cases h
        exact ⟨fs, b, rfl, hz, hb, rfl⟩
      · cases h
    · cases h
  · cases h
theorem rep_exn {K : PySem.W.Frag} {w : Wd} {v : V} {c : String} {a : Nat} {fs : List D} (h : Rep K w v (.exn c (.int (a : Nat) :: fs))) : v = .ref a := by
  generalize hi : ((a : Nat) : Int) = i at h
  cases h with
  | exn =>
    have : a = _ := Int.ofNat.inj hi
    rw [this]
  | exf _ _ _ _ =>
    have : a = _ := Int.ofNat.inj hi
    rw [this]
/-- its dict lies there -/
theorem fld_dict {B : Bs} {w : Wd} {H : Hp} {L : Hh} {v : V} {c : String} {a : Nat} {z : Option Nat} {fs : List D} (S : StR X.K X.mg B w H L) (h : Rep X.K w v (.exn c (.int (a : Nat) :: fs))) (hz : fldOk z fs = true) (dx : Nat) (e : z = some dx) : ∃ fs, H dx = some (.xd fs) := by
  subst e
  generalize hi : ((a : Nat) : Int) = i at h
  cases h with
  | exn => simp [fldOk] at hz
  | exf h1 h2 _ _ =>
    simp [fldOk] at hz
    have hz2 := Int.ofNat.inj hz
    subst hz2
    exact ⟨_, S.sub _ _ h1⟩
theorem pde_isV {v : V} {cv : Value} {tab : List (String × Bool)} {p : Addr × Obj} {c : String} {z : Option Nat} (hp : p ∈ X.pn) (px : PinX X.K X.mg p c z) (ic : IsX X.K X.mg cv tab) (rv : ∀ u, RelV v u → u = cv) {x : Str} {e : Expr} {f : M D} {p1 p2 pos : Pos} (hx : PE X (.Name x p2) (tC v)) (hm : X.mg "isinstance" = none) (ha : PDE X e f) (hn : ∀ env L e' L', f env L ≠ some (.ex e', L')) (hg : Gl X "isinstance" := by rfl)
    (he : starEach [e, .Name x p2] X.env = (false, eval e X.env) :: starEach [.Name x p2] X.env := by rfl) (he2 : starEach [.Name x p2] X.env = (false, eval (.Name x p2) X.env) :: starEach [] X.env := by rfl) (hpl : (backTo pos (starEach [.Name x p2] X.env)).any (·.1) = false := by rfl) :
    PDE X (.Call (.Name "isinstance" p1) [e, .Name x p2] [] pos) (eUn (opIsP c p.1 z tab) f) := fun W tk => by
  obtain ⟨C, h1, hzn, hf⟩ := px.ex
  by_cases hb : ∃ b, tab.lookup c = some b
  · obtain ⟨b, hb⟩ := hb
    obtain ⟨xc, hk⟩ := ic.all _ (lookup_mem hb) C h1
    refine (pe_callB (call_isP hp xc hzn.zc hf) hg hm (by decide +kernel) (pa_cons (ha W tk) (pa_cons hx pa_nil he2) he) (by decide) (by decide) he hpl).imp fun σ H Q ⟨B, w, env, L, S, R, h⟩ => ?_
    refine tE_bnd S R h fun w1 u H1 d L1 l1 S1 r1 h1 => ?_
    cases ho : opIsP c p.1 z tab d L1 with
    | none => rw [ho] at h1; exact h1.elim
    | some r =>
      obtain ⟨fs, b', rfl, hzf, e2, rfl⟩ := opIsP_some ho
      rw [hb] at e2
      cases e2
      rw [ho] at h1
      have hdict := fun dx e => fld_dict S1 r1 hzf dx e
      have := rep_exn r1
      subst this
      exact ⟨v, cv, b, rfl, rv, hk, hdict, post_bl S1 h1⟩
  · refine PE.imp (t := fun _ _ _ => False) ⟨fun _ _ _ _ _ _ h => h.elim⟩ fun σ H Q ⟨B, w, env, L, S, R, h⟩ => ?_
    simp only [eUn] at h
    cases hf2 : f env L with
    | none => rw [hf2] at h; exact h
    | some r =>
      obtain ⟨r, L'⟩ := r
      cases r with
      | ex e => exact absurd hf2 (hn _ _ _ _)
      | ok d =>
        rw [hf2] at h
        simp only [bnd_ok] at h
        cases ho : opIsP c p.1 z tab d L' with
        | none => rw [ho] at h; exact h
        | some r =>
          obtain ⟨fs, b', _, _, e2, _⟩ := opIsP_some ho
          exact absurd ⟨b', e2⟩ hb
theorem var_noex {i : Nat} (env : Env) (L : Hh) (e' : Ex) (L' : Hh) : eVar i env L ≠ some (.ex e', L') := by
  unfold eVar
  split <;> exact fun h => nomatch h
/-- isinstance(e, C), C an own class -/
theorem pde_isP {tab : List (String × Bool)} {p : Addr × Obj} {c : String} {z : Option Nat} {D : Addr} (hp : p ∈ X.pn) (px : PinX X.K X.mg p c z) {x : Str} {e : Expr} {i : Nat} {p1 p2 pos : Pos} (gD : X.mg x = some (.ref D)) (ic : IsX X.K X.mg (.ref D) tab) (hm : X.mg "isinstance" = none) (ha : PDE X e (eVar i)) (hgx : Gl X x := by rfl) (hdb : (x == ("__debug__" : Str)) = false := by decide) (hg : Gl X "isinstance" := by rfl)
    (he : starEach [e, .Name x p2] X.env = (false, eval e X.env) :: starEach [.Name x p2] X.env := by rfl) (he2 : starEach [.Name x p2] X.env = (false, eval (.Name x p2) X.env) :: starEach [] X.env := by rfl) (hpl : (backTo pos (starEach [.Name x p2] X.env)).any (·.1) = false := by rfl) :
    PDE X (.Call (.Name "isinstance" p1) [e, .Name x p2] [] pos) (eUn (opIsP c p.1 z tab) (eVar i)) :=
  pde_isV (v := .ref D) hp px ic (fun u r => r) (pe_glob hgx gD rfl hdb) hm ha var_noex hg he he2 hpl
/-- isinstance(e, ValueError) -/
theorem pde_isPB {tab : List (String × Bool)} {p : Addr × Obj} {c T : String} {z : Option Nat} (hp : p ∈ X.pn) (px : PinX X.K X.mg p c z) {x : Str} {e : Expr} {i : Nat} {p1 p2 pos : Pos} (hmx : X.mg x = none) (ic : IsX X.K X.mg (.type T) tab) (hm : X.mg "isinstance" = none) (ha : PDE X e (eVar i)) (hx : bootBuiltins x = some (.type T) := by decide +kernel) (hgx : Gl X x := by rfl) (hn : x ≠ "__name__" := by decide) (hdb : (x == ("__debug__" : Str)) = false := by decide) (hg : Gl X "isinstance" := by rfl)
    (he : starEach [e, .Name x p2] X.env = (false, eval e X.env) :: starEach [.Name x p2] X.env := by rfl) (he2 : starEach [.Name x p2] X.env = (false, eval (.Name x p2) X.env) :: starEach [] X.env := by rfl) (hpl : (backTo pos (starEach [.Name x p2] X.env)).any (·.1) = false := by rfl) :
    PDE X (.Call (.Name "isinstance" p1) [e, .Name x p2] [] pos) (eUn (opIsP c p.1 z tab) (eVar i)) :=
  pde_isV (v := .ty T) hp px ic (fun u r => r) (pe_bltn hgx hmx hx rfl hn hdb) hm ha var_noex hg he he2 hpl
end
/-- .. by the name of an own class -/
structure IsN (K : PySem.W.Frag) (mg : Str → Option Value) (cs : String) (tab : List (String × Bool)) : Prop where
  ex : ∃ D, mg (Str.ofString cs) = some (.ref D) ∧ IsX K mg (.ref D) tab
section
variable {X : Cx}
theorem pde_isN {cs : String} {tab : List (String × Bool)} {p : Addr × Obj} {c : String} {z : Option Nat} (hp : p ∈ X.pn) (px : PinX X.K X.mg p c z) {x : Str} {e : Expr} {i : Nat} {p1 p2 pos : Pos} (ic : IsN X.K X.mg cs tab) (hm : X.mg "isinstance" = none) (ha : PDE X e (eVar i)) (hx : x = Str.ofString cs := by rfl) (hgx : Gl X x := by rfl) (hdb : (x == ("__debug__" : Str)) = false := by decide) (hg : Gl X "isinstance" := by rfl)
    (he : starEach [e, .Name x p2] X.env = (false, eval e X.env) :: starEach [.Name x p2] X.env := by rfl) (he2 : starEach [.Name x p2] X.env = (false, eval (.Name x p2) X.env) :: starEach [] X.env := by rfl) (hpl : (backTo pos (starEach [.Name x p2] X.env)).any (·.1) = false := by rfl) :
    PDE X (.Call (.Name "isinstance" p1) [e, .Name x p2] [] pos) (eUn (opIsP c p.1 z tab) (eVar i)) := by
  obtain ⟨D, gD, ix⟩ := ic.ex
  subst hx
  exact pde_isP hp px gD ix hm ha hgx hdb hg he he2 hpl
end
theorem roomH_suite {k : Nat} {A : Around} (r : Room k A) (h : Option Value) : RoomH k (A.mark h) := ⟨r.dp, r.un⟩
theorem _root_.L2H.RoomH.units {k : Nat} {A : Around} (r : RoomH k A) : A.units + 64 < cLine := by
  have := r.un
  omega
theorem un65H {k : Nat} {A : Around} (r : RoomH k A) : A.units + 65 < cLine := by
  have := r.un
  omega
theorem un1H {k : Nat} {A : Around} (r : RoomH k A) : A.units + 1 < cLine := by
  have := r.un
  omega
/-! ### defs that are called with it -/
/-- what such a def promises: sp knows the exception's object -/
structure FnE (P : Program) (w : World) (K : PySem.W.Frag) (mg : Str → Option Value) (base : Heap) (CX : CXT) (k : Nat) (f : Addr) (fd : FuncData) (ps : List Str) (sp : Addr × Obj → Sp) : Prop where
  len : ∀ p vs H Q E, sp p vs H Q E → vs.length = ps.length
  run : ∀ (A : Around) (outer : List PySem.Env) (s : Shared) (H : Hp) (args : Args) (us : List Value) (vs : List V) (Q : VK) (E : XK) (p : Addr × Obj), RoomH k A → Hot1 A p → PinOk outer H s p → Env0 P w K mg base A outer s H → BindsTo s fd args (ps.zip us) → Vals vs us → sp p vs H Q E →
    codeAny (model P w) A (.call (.ref f) args) (CR CX outer P w H s Q E) s
/-- .. by data: m takes the class and the address -/
def spE (K : PySem.W.Frag) (mg : Str → Option Value) (n : Nat) (m : String → Nat → Option Nat → Fn) (p : Addr × Obj) : Sp := fun vs H Q E => vs.length = n ∧ ∃ c z, PinX K mg p c z ∧ spG K mg n (m c p.1 z) vs H Q E
theorem fnE_of {CX : CXT} {P : Program} {w : World} {K : PySem.W.Frag} {mg : Str → Option Value} {base : Heap} {k : Nat} {f : Addr} {name qual : Str} {params : Arguments} {body : List Stmt} {scope : Scope} {dV kV doc pm cdv ct oc : Value} {an od : Option Addr}
    {osl : Array (Option Value)} {N ps : List Str} {sp : Addr × Obj → Sp} (lk : K.lookup f = some ⟨oc, od, .func (PySem.W.fnOf name qual params body scope dV kV doc pm an cdv ct), osl⟩) (hcd : PySem.W.codeIn K cdv qual = true) (S : FnScope N ps scope)
    (len : ∀ p vs H Q E, sp p vs H Q E → vs.length = ps.length)
    (hbody : ∀ (A : Around) (outer : List PySem.Env) (s : Shared) (H : Hp) (vs : List V) (Q : VK) (E : XK) (p : Addr × Obj), Hot1 A p → RoomH k (A.deeper (envOfC qual scope s.heap.objs.size f cdv)) → sp p vs H Q E →
      ∃ t, PSs (cxH CX P w K mg base N qual scope f cdv A outer s H E p) body t ∧ t { nx := fun _ H' => Q .non H', rt := Q } (L2.start N vs) H) :
    FnE P w K mg base CX (k + 1) f (PySem.W.fnOf name qual params body scope dV kV doc pm an cdv ct) ps sp := by
  refine ⟨len, fun A outer s H args us vs Q E p hr hot hpin e0 hb r hsp => ?_⟩
  have hl := len _ _ _ _ _ hsp
  have KX : K.In s.heap := e0.mod.kin.keeps fun b o e => (e0.bs b o e).1
  have lim : s.heap.NoLimit := e0.mod.nolimit.keeps fun b o e => (e0.bs b o e).1
  have hkind : ∀ y ∈ ps.zip us, scope.names.lookup y.1 = some .local ∨ (scope.names.lookup y.1 = some .cell ∧ ((cellsFrom (s.heap.objs.size + 1) scope.names []).lookup y.1).isSome = true) := fun ⟨n, v⟩ hy =>
    (S.par n (List.of_mem_zip hy).1).imp id fun q => ⟨q, PySem.W.cellsFrom_some _ _ _ (.inl q)⟩
  refine codeAny_call_function hr.depth (KX _ _ lk) rfl S.co S.gen rfl (PySem.W.codeRec_of KX hcd) (hb _ _ _ _ ?_)
  refine wpAny_newFunctionEnv_cells S.kind hkind fun env he s1 x => ?_
  subst he
  refine ⟨lim.keeps x.toInCall.keep, codeAny_func ?_⟩
  obtain ⟨t, ht, hq⟩ := hbody A outer s H vs Q E p hot (hr.deeper _) hsp
  have I : Inv (cxH CX P w K mg base N qual scope f cdv A outer s H E p) [] (L2.start N vs) H s1 := inv_startH S hpin e0 hl r x
  refine wpAny_mono (ht.run [] s1 (L2.start N vs) H _ I hq) (fun fl s' hs => ?_) fun e s' hs => hs
  cases fl with
  | ret u =>
    obtain ⟨v, σ', H', J, rv, q⟩ := hs
    exact ⟨v, H', J.os, J.bare, J.base, J.hok, rv, q⟩
  | next =>
    obtain ⟨σ', H', J, q⟩ := hs
    exact ⟨.non, H', J.os, J.bare, J.base, J.hok, rfl, q⟩
  | brk =>
    obtain ⟨_, _, _, q⟩ := hs
    exact False.elim q
  | cont =>
    obtain ⟨_, _, _, q⟩ := hs
    exact False.elim q
theorem fnE_ok {P : Program} {w : World} {K : PySem.W.Frag} {mg : Str → Option Value} {base : Heap} {x qual : Str} {st : Stmt} {f : Addr} {fd : FuncData} {N ps : List Str} {k : Nat} {body : String → Nat → Option Nat → Sm} (slots : Nat) (F : Fun K x qual st f fd) (S : FnScope N ps (defScope st)) (hn : N.length = slots)
    (hb : ∀ (cdv : Value) (A : Around) (outer : List PySem.Env) (s : Shared) (H : Hp) (E : XK) (p : Addr × Obj) (c : String) (z : Option Nat), Hot1 A p → PinX K mg p c z → RoomH k (A.deeper (envOfC qual (defScope st) s.heap.objs.size f cdv)) → PDSs (cxH (L2N.CX P w) P w K mg base N qual (defScope st) f cdv A outer s H E p) (defBody st) (body c p.1 z)) :
    FnE P w K mg base (L2N.CX P w) (k + 1) f fd ps (spE K mg ps.length fun c a z => run slots (body c a z)) := by
  obtain ⟨oc, od, kV, doc, pm, an, cdv, ct, osl, rfl, lk, hcd⟩ := F.ex
  refine fnE_of lk hcd S (fun p vs H Q E h => h.1) fun A outer s H vs Q E p hot hr hsp => ?_
  obtain ⟨hl, c, z, px, _, w0, L, ds, S0, rs, h⟩ := hsp
  refine ⟨_, hb cdv A outer s H E p c z hot px hr (fun cls d _ H => E cls d H) (L2N.takes_of rfl rfl rfl rfl), ⟨w0, H⟩, w0, _, L, S0, envR_start rs hn, ?_⟩
  simp only [run] at h
  revert h
  cases body c p.1 z (ds.map some ++ List.replicate (slots - ds.length) none) L with
  | none => exact fun h => h
  | some q =>
    obtain ⟨o, env1, L1⟩ := q
    have hL : w0.io.length = L.length := S0.len
    cases o with
    | nx =>
      intro h w' σ' H' l S' R'
      obtain ⟨w2, l2, S2, r2⟩ := gc_ok S' (d := .non) .non
      rw [hL] at S2 r2
      exact h w2 _ H' l2 S2 r2
    | rt d =>
      intro h w' v H' l S' r
      obtain ⟨w2, l2, S2, r2⟩ := gc_ok S' r
      rw [hL] at S2 r2
      exact h w2 v H' l2 S2 r2
    | bk => exact fun h => h.elim
    | ct => exact fun h => h.elim
    | ex e => exact fun h w' σ' H' cls dd l S' R' x => h w' H' cls dd l S' x
section
variable {X : Cx} {CX : CXT} {k : Nat} {f : Addr} {fd : FuncData} {ps : List Str} {E : L2.St → XK} {x : Str} {q pos : Pos} {e : Expr} {es : List Expr} {t : TA}
theorem pe_callE {sp : Addr × Obj → Sp} {p : Addr × Obj} (F : FnE X.prog X.w X.K X.mg X.base CX k f fd ps sp) (hr : RoomH k X.A) (hot : Hot1 X.A p) (hp : p ∈ X.pn) (hg : Gl X x) (hm : X.mg x = some (.ref f)) (hk : PySem.W.keepIn X.K (.ref f) = true) (hb : Binds X.K fd ps []) (hx : ∀ σ, PassesAt CX X σ (E σ))
    (ha : PA X (e :: es) t) (hdb : (x == ("__debug__" : Str)) = false := by decide) (he : starEach (e :: es) X.env = (false, eval e X.env) :: starEach es X.env := by rfl) (hpl : (backTo pos (starEach es X.env)).any (·.1) = false := by rfl) :
    PE X (.Call (.Name x q) (e :: es) [] pos) (tCallS (sp p) E t) := by
  refine ⟨fun pins s σ H Q I h => ?_⟩
  refine wpAny_Call_Name_kw (ld_glob I hg hm ?_ hdb)
  refine PySem.W.callWith_K (h₀ := X.base) I.ok.mod.kin hk (thn (ha.run pos pins s σ H _ I h) fun us s1 ⟨vs, H1, I1, r, hs⟩ => ⟨I1.kIn, ?_⟩) he hpl
  have hl : us.length = ps.length := by rw [← r.length]; exact F.len _ _ _ _ _ hs
  have b := hb s1 us I1.kIn (by rw [List.append_nil]; exact hl)
  rw [List.append_nil] at b
  have P1 := I1.pin p (List.mem_append_left _ hp)
  have hpin : PinOk X.stack H1 s1 p := ⟨P1.1, P1.2.1, fun hm => (List.mem_cons.mp (I1.stkSub p.1 hm)).elim P1.2.2.1 P1.2.2.2.1, P1.2.2.2.2⟩
  refine wpAny_call (codeAny_mono (F.run X.A X.stack s1 H1 ⟨us, []⟩ us vs Q (E σ) p hr hot hpin I1.env0 b r hs) fun r s' hq => ?_)
  cases r with
  | error e => exact hx σ pins H1 s1 e s' I1 hq
  | ok fl =>
    cases fl with
    | ret u => exact I1.after hq
    | next => exact False.elim hq
    | brk => exact False.elim hq
    | cont => exact False.elim hq
end
/-- such a def by its name -/
structure DefE (P : Program) (w : World) (K : PySem.W.Frag) (mg : Str → Option Value) (base : Heap) (x : Str) (k n : Nat) (ps : List Str) (m : String → Nat → Option Nat → Fn) : Prop where
  ex : ∃ f fd, FnE P w K mg base (L2N.CX P w) k f fd ps (spE K mg n m) ∧ mg x = some (.ref f) ∧ PySem.W.keepIn K (.ref f) = true ∧ Binds K fd ps []
section
variable {X : Cx} {k n : Nat} {ps : List Str} {fm : String → Nat → Option Nat → Fn} {x : Str} {e : Expr} {es : List Expr} {fa : M (List D)} {p1 pos : Pos}
theorem pde_callE {p : Addr × Obj} {c : String} {z : Option Nat} (d : DefE X.prog X.w X.K X.mg X.base x k n ps fm) (hr : RoomH k X.A) (hot : Hot1 X.A p) (hp : p ∈ X.pn) (px : PinX X.K X.mg p c z) (ha : PDA X (e :: es) fa)
    (hg : Gl X x := by rfl) (hdb : (x == ("__debug__" : Str)) = false := by decide) (he : starEach (e :: es) X.env = (false, eval e X.env) :: starEach es X.env := by rfl) (hpl : (backTo pos (starEach es X.env)).any (·.1) = false := by rfl) :
    PDE X (.Call (.Name x p1) (e :: es) [] pos) (eCall n (fm c p.1 z) fa) := fun W tk => by
  obtain ⟨f, fd, F, hm, hk, hb⟩ := d.ex
  refine (pe_callE F hr hot hp hg hm hk hb (fun σ => passAt tk σ) (ha W tk) hdb he hpl).imp fun σ H Q ⟨B, w, env, L, S, R, h⟩ => ?_
  refine tA_bnd S R h fun w1 vs H1 ds L1 l1 S1 r1 h1 => ?_
  split at h1
  · rename_i hn
    have hzz := callI_ok S1 r1 hn h1
    exact ⟨hzz.1, c, z, px, hzz⟩
  · exact h1.elim
end
end Rg
/-! Sn25: try .. except X as e. -/
namespace Rg
open PySem PySem.Spec L2
open PyProof.Rows hiding St
open HotX L2H
theorem EnvR.unset {K : PySem.W.Frag} {w : Wd} {env : Env} {σ : L2.St} (h : EnvR K w env σ) (i : Nat) : EnvR K w (env.set i none) (σ.set i none) := by
  refine ⟨by rw [List.length_set, List.length_set]; exact h.1, fun j e he => ?_⟩
  by_cases hj : i = j
  · subst hj
    by_cases hl : i < env.length
    · rw [List.getElem?_set_self hl] at he
      cases he
    · rw [List.getElem?_eq_none (by rw [List.length_set]; omega)] at he
      cases he
  · rw [List.getElem?_set_ne hj] at he
    rw [List.getElem?_set_ne hj]
    exact h.2 j e he
section
variable {X : Cx}
theorem repF_one {K : PySem.W.Frag} {w : Wd} {fs : List (Str × V)} {fn : String} {d : D} (h : RepF K w fs [(fn, d)]) : ∃ v, fs = [(Str.ofString fn, v)] ∧ Rep K w v d := by
  cases h with
  | cons h t =>
    cases t
    rename_i x
    obtain ⟨k, v⟩ := x
    obtain ⟨h1, h2⟩ := h
    dsimp only at h1 h2
    subst h1
    exact ⟨v, rfl, h2⟩
theorem pds_tryAs {body suite : List Stmt} {b₀ : Stmt} {x n : Str} {cs : String} {tab : List (String × Bool)} {np pos pos' : Pos} {b : Sm} {g : String → Nat → Option Nat → Sm} (i : Nat) (d : HExc X.K X.mg cs tab) (hb : ∀ (pn : List (Addr × Obj)) (xe : Value → Shared → Prop), PassesOwn (model X.prog X.w) X.A X.env xe → PDSs (X.tr pn xe) body b)
    (hsu : ∀ (a : Addr) (oe : Obj) (pn : List (Addr × Obj)) (c : String) (z : Option Nat), PinX X.K X.mg (a, oe) c z → PDSs (X.suite a ((a, oe) :: pn)) (b₀ :: suite) (g c a z)) (hN : X.N.Nodup)
    (hi : X.N[i]? = some n := by rfl) (hln : X.env.kindOf n = some .local := by rfl) (hx : x = Str.ofString cs := by rfl) (hg : Gl X x := by rfl) (hdb : (x == ("__debug__" : Str)) = false := by decide)
    (hst : X.stack = X.env :: X.outer := by rfl) (hf : X.env.frame = some X.env.locals := by rfl) : PDS X (.Try body [.ExceptHandler (some (.Name x np)) (some n) (b₀ :: suite) pos'] [] [] pos) (sTryAs b tab i g) := fun W tk => by
  obtain ⟨C, hC, ht⟩ := d.ex
  subst hx
  refine (L2N.ps_try_as (tb := fun W => tS1 X.K X.mg W b) (ts := fun a cls dd D σ H => ∃ c C1, cls = .ref C1 ∧ X.mg (Str.ofString c) = some (.ref C1) ∧ tS1 X.K X.mg noW (g c a dd) D σ H) hst hf hN hi hln ⟨hg, hdb, .inl hC⟩ tk (fun W' pn xe tk' hp => hb pn xe hp W' tk')
    (fun a oe cls dd pn hz hf => ⟨fun pins s σ H D I h => ?_⟩)).imp fun D σ H ⟨B, w, env, L, S, R, h⟩ => ?_
  · obtain ⟨c, C1, rfl, hm, h⟩ := h
    exact (hsu a oe pn c dd ⟨C1, hm, hz, hf⟩ noW takes_no).run pins s σ H D I h
  · refine ⟨B, w, env, L, S, R, ?_⟩
    unfold sTryAs at h
    revert h
    cases b env L with
    | none => exact fun h => h
    | some p =>
      obtain ⟨o, env1, L1⟩ := p
      cases o with
      | nx => exact fun h => h
      | rt d => exact fun h => h
      | bk => exact fun h => h
      | ct => exact fun h => h
      | ex e =>
        intro h w1 σ1 H1 cls dd l1 S1 R1 x
        obtain ⟨C1, h1, rfl, hfs⟩ := id x
        dsimp only at h
        cases ht1 : tab.lookup e.c with
        | none => rw [ht1] at h; exact h.elim
        | some bb =>
          rw [ht1] at h
          refine ⟨bb, ht _ (lookup_mem ht1) C1 h1, fun hb a ha => ?_, fun hb => ?_⟩
          · subst hb
            dsimp only at h
            rcases hfs with ⟨e1, rfl⟩ | ⟨p, fs, e1, rfl, hxp, hrf⟩
            · rw [e1] at h
              dsimp only at h
              have hne : hotS (suiteS g i e.c none [] env1 L1) ≠ none := fun z => by rw [z] at h; exact h
              rw [← hotS_ne (a := a) hne] at h
              refine ⟨e.c, C1, rfl, h1, B, w1, env1.set i (some (.exn e.c [.int (a : Nat)])), L1, S1, R1.set i .exn, ?_⟩
              unfold suiteS at h
              revert h
              cases g e.c a none (env1.set i (some (.exn e.c [.int (a : Nat)]))) L1 with
              | none => exact fun h => h
              | some q =>
                obtain ⟨o2, env2, L2⟩ := q
                cases o2 with
                | ex e => exact fun h => h.elim
                | nx => exact fun h w2 σ2 H2 l2 S2 R2 => h w2 _ H2 (l1.trans l2) S2 (R2.unset i)
                | rt d => exact fun h w2 v2 H2 l2 S2 r2 => h w2 v2 H2 (l1.trans l2) S2 r2
                | bk => exact fun h w2 σ2 H2 l2 S2 R2 => h w2 _ H2 (l1.trans l2) S2 (R2.unset i)
                | ct => exact fun h w2 σ2 H2 l2 S2 R2 => h w2 _ H2 (l1.trans l2) S2 (R2.unset i)
            · revert h
              cases hh : e.fs with
              | nil => exact absurd hh e1
              | cons q r =>
                obtain ⟨fn, d⟩ := q
                cases r with
                | cons _ _ => exact fun h => h.elim
                | nil =>
                  intro h
                  dsimp only at h
                  split at h
                  · rename_i hpn
                    rw [hh] at hrf
                    obtain ⟨v, rfl, rv⟩ := repF_one hrf
                    obtain ⟨l2, S2⟩ := S1.know [p] (fun b hb => by have e := List.mem_singleton.mp hb; subst e; exact ⟨_, hxp, .inr ⟨_, rfl⟩⟩)
                    have hne : hotS (fun dx => hotS (suiteS g i e.c (some dx) [.exn fn [.int (dx : Nat), d]] env1 L1)) ≠ none := fun z => by rw [z] at h; exact h
                    have hne2 : hotS (suiteS g i e.c (some p) [.exn fn [.int (p : Nat), d]] env1 L1) ≠ none := fun z => hne (by rw [← hotS_ne (a := p) hne]; exact z)
                    rw [← hotS_ne (a := p) hne, ← hotS_ne (a := a) hne2] at h
                    refine ⟨e.c, C1, rfl, h1, B, _, env1.set i (some (.exn e.c [.int (a : Nat), .exn fn [.int (p : Nat), d]])), L1, S2, (R1.mono l2).set i (.exf (fn := fn) (v := v) ?_ (rv.mono l2) hpn.1 hpn.2), ?_⟩
                    · show (if p ∈ [p] then H1 p else w1.F p) = _
                      rw [if_pos List.mem_cons_self]
                      exact hxp
                    · have l3 := l1.trans l2
                      unfold suiteS at h
                      revert h
                      cases g e.c a (some p) (env1.set i (some (.exn e.c [.int (a : Nat), .exn fn [.int (p : Nat), d]]))) L1 with
                      | none => exact fun h => h
                      | some q =>
                        obtain ⟨o2, env2, L2⟩ := q
                        cases o2 with
                        | ex e => exact fun h => h.elim
                        | nx => exact fun h w2 σ2 H2 l2 S2 R2 => h w2 _ H2 (l3.trans l2) S2 (R2.unset i)
                        | rt d => exact fun h w2 v2 H2 l2 S2 r2 => h w2 v2 H2 (l3.trans l2) S2 r2
                        | bk => exact fun h w2 σ2 H2 l2 S2 R2 => h w2 _ H2 (l3.trans l2) S2 (R2.unset i)
                        | ct => exact fun h w2 σ2 H2 l2 S2 R2 => h w2 _ H2 (l3.trans l2) S2 (R2.unset i)
                  · exact h.elim
          · subst hb
            exact h w1 σ1 H1 _ dd l1 S1 R1 x
end
end Rg
/-! Sn26: isinstance(e, (A, B, ..)) of the caught exception. -/
namespace Rg
open PySem PySem.Spec L2
open PyProof.Rows hiding St
open HotX L2H
section
variable {X : Cx}
/-- names of own classes in a row -/
inductive IsNs (X : Cx) : List Expr → List (List (String × Bool)) → Prop
  | nil : IsNs X [] []
  | cons {x : Str} {cs : String} {tab : List (String × Bool)} {p2 : Pos} {es : List Expr} {tabs : List (List (String × Bool))} (ic : IsN X.K X.mg cs tab) (r : IsNs X es tabs) (hx : x = Str.ofString cs := by rfl) (hgx : Gl X x := by rfl) (hdb : (x == ("__debug__" : Str)) = false := by decide)
      (he : starEach (.Name x p2 :: es) X.env = (false, eval (.Name x p2) X.env) :: starEach es X.env := by rfl) : IsNs X (.Name x p2 :: es) (tab :: tabs)
theorem IsNs.pa {es : List Expr} {tabs : List (List (String × Bool))} (h : IsNs X es tabs) : ∃ ds : List Addr, ds.length = tabs.length ∧ PA X es (fun _ H Q => Q (ds.map V.ref) H) ∧ ∀ c C b, X.mg (Str.ofString c) = some (.ref C) → anyTab c tabs = some b → PySem.W.kitAny X.K (.ref C) (ds.map Value.ref) = some b := by
  induction h with
  | nil => exact ⟨[], rfl, pa_nil, fun c C b _ h => h⟩
  | @cons x cs tab p2 es tabs ic r hx hgx hdb he ih =>
    obtain ⟨ds, hl0, hp, hk⟩ := ih
    obtain ⟨D, gD, ix⟩ := ic.ex
    subst hx
    refine ⟨D :: ds, by rw [List.length_cons, List.length_cons, hl0], pa_cons (pe_glob (v := V.ref D) hgx gD rfl hdb) hp he, fun c C b hc hb => ?_⟩
    unfold anyTab at hb
    cases hl : tab.lookup c with
    | none => rw [hl] at hb; cases hb
    | some b1 =>
      rw [hl] at hb
      have h1 := (ix.all _ (lookup_mem hl) C hc).2
      dsimp only at h1
      rw [List.map_cons]
      unfold PySem.W.kitAny
      rw [h1]
      cases b1 with
      | true => exact hb
      | false => exact hk c C b hc hb
theorem vals_refs : ∀ {ds : List Addr} {us : List Value}, Vals (ds.map V.ref) us → us = ds.map Value.ref
  | [], [], _ => rfl
  | d :: ds, u :: us, .cons h r => by
    have h' : u = Value.ref d := h
    rw [h', vals_refs r]
    rfl
theorem call_isT {p : Addr × Obj} {C : Addr} {ds : List Addr} {b : Bool} (hp : p ∈ X.pn) (xc : ExcC X.K C) {z : Option Nat} (hz : Zc (.ref C) z p.2) (hf : ∃ vs, p.2.data = .fields vs) (hk : PySem.W.kitAny X.K (.ref C) (ds.map Value.ref) = some b) : CallR X (.builtin "isinstance") (fun xs H Q => ∃ tp, xs = [.ref p.1, .ref tp] ∧ H tp = some (.tup (ds.map V.ref)) ∧ (∀ dx, z = some dx → ∃ fs, H dx = some (.xd fs)) ∧ Q (.bl b) H) := by
  intro pins s σ H xs us Q I r h
  obtain ⟨tp, rfl, htp, hd, q⟩ := h
  cases r with
  | cons rx rr =>
    cases rr with
    | cons rt rr =>
      cases rr
      cases rx
      cases rt
      have hget := (I.pin p (List.mem_append_left _ hp)).1
      obtain ⟨its, rv, ht, _⟩ := I.tuple (SqT.of htp)
      have := vals_refs rv
      subst this
      obtain ⟨⟨tc, td, tda, tsl⟩, h1, h2, n, h3⟩ := (show s.heap.IsTuple tp (ds.map Value.ref).toArray from ht)
      dsimp only at h2 h3
      subst h2 h3
      obtain ⟨a, oe⟩ := p
      obtain ⟨od, J⟩ := inst_pin I hget hz hf hd
      exact PySem.W.kia_tup (PySem.W.kitx_exc (excC_cls xc) xc.hg xc.hk xc.hs xc.ha xc.hn xc.ht xc.hm) I.kIn J h1 hk (fun z => nomatch z) fun tk => ⟨.bl b, H, I.kept (t' := tk) fun _ _ z => z, rfl, q⟩
theorem opIsT_some {c : String} {a : Nat} {z : Option Nat} {tabs : List (List (String × Bool))} {d : D} {L : Hh} {r : Rs D × Hh} (h : opIsT c a z tabs d L = some r) : ∃ fs b, d = .exn c (.int (a : Nat) :: fs) ∧ fldOk z fs = true ∧ anyTab c tabs = some b ∧ r = (.ok (.bl b), L) := by
  unfold opIsT at h
  split at h
  · rename_i c' i fs
    split at h
    · rename_i hc
      obtain ⟨rfl, rfl, hz⟩ := hc
      split at h
      · rename_i b hb
        cases h
        exact ⟨fs, b, rfl, hz, hb, rfl⟩
      · cases h
    · cases h
  · cases h
/-- isinstance(e, (A, B, ..)); ec: the class itself -/
theorem pde_isT {tab0 : List (String × Bool)} {cv0 : Value} {tabs : List (List (String × Bool))} {p : Addr × Obj} {c : String} {z : Option Nat} (hp : p ∈ X.pn) (px : PinX X.K X.mg p c z) (i0 : IsX X.K X.mg cv0 tab0) {e : Expr} {es : List Expr} {i k : Nat} {p1 p2 pos : Pos} (hs : IsNs X es tabs) (hm : X.mg "isinstance" = none) (ha : PDE X e (eVar i)) (h0 : tabs.all (fun t => t.all fun q => (tab0.lookup q.1).isSome) = true) (hne : tabs ≠ []) (hle : tabs.length ≤ 1000) (hg : Gl X "isinstance" := by rfl)
    (he : starEach [e, .Tuple es k p2] X.env = (false, eval e X.env) :: starEach [.Tuple es k p2] X.env := by rfl) (he2 : starEach [.Tuple es k p2] X.env = (false, eval (.Tuple es k p2) X.env) :: starEach [] X.env := by rfl) (hpl : (backTo pos (starEach [.Tuple es k p2] X.env)).any (·.1) = false := by rfl) :
    PDE X (.Call (.Name "isinstance" p1) [e, .Tuple es k p2] [] pos) (eUn (opIsT c p.1 z tabs) (eVar i)) := fun W tk => by
  obtain ⟨C, h1, hzn, hf⟩ := px.ex
  obtain ⟨ds, hdl, hpa, hka⟩ := hs.pa
  by_cases hb : ∃ b, anyTab c tabs = some b
  · obtain ⟨b, hb⟩ := hb
    have hc0 : ∃ b0, tab0.lookup c = some b0 := by
      cases tabs with
      | nil => exact absurd rfl hne
      | cons t r =>
        unfold anyTab at hb
        cases hl : t.lookup c with
        | none => rw [hl] at hb; cases hb
        | some b1 =>
          have h2 := List.all_eq_true.mp (List.all_eq_true.mp h0 t List.mem_cons_self) _ (lookup_mem hl)
          exact Option.isSome_iff_exists.mp h2
    obtain ⟨b0, hc0⟩ := hc0
    have xc := (i0.all _ (lookup_mem hc0) C h1).1
    refine (pe_callB (call_isT hp xc hzn.zc hf (hka c C b h1 hb)) hg hm (by decide +kernel) (pa_cons (ha W tk) (pa_cons (pe_tup hpa) pa_nil he2) he) (by decide) (by decide) he hpl).imp fun σ H Q ⟨B, w, env, L, S, R, h⟩ => ?_
    refine tE_bnd S R h fun w1 u H1 d L1 l1 S1 r1 h1 => ?_
    cases ho : opIsT c p.1 z tabs d L1 with
    | none => rw [ho] at h1; exact h1.elim
    | some r =>
      obtain ⟨fs, b', rfl, hzf, e2, rfl⟩ := opIsT_some ho
      rw [hb] at e2
      cases e2
      rw [ho] at h1
      have hdict := fun dx e => fld_dict S1 r1 hzf dx e
      have := rep_exn r1
      subst this
      refine ⟨?_, fun tp htp => ⟨tp, rfl, upd_same, fun dx e => ?_, ?_⟩⟩
      · exact le_line (m := 1000) (by rw [List.length_map, hdl]; exact hle)
      · obtain ⟨fs, hx⟩ := hdict dx e
        refine ⟨fs, ?_⟩
        rw [upd_ne (fun q => by subst q; rw [htp] at hx; cases hx)]
        exact hx
      · obtain ⟨l2, S2⟩ := S1.laid htp (.tup (ds.map V.ref))
        exact h1 _ _ _ l2 S2 (.bl b)
  · refine PE.imp (t := fun _ _ _ => False) ⟨fun _ _ _ _ _ _ h => h.elim⟩ fun σ H Q ⟨B, w, env, L, S, R, h⟩ => ?_
    simp only [eUn] at h
    cases hf2 : eVar i env L with
    | none => rw [hf2] at h; exact h
    | some r =>
      obtain ⟨r, L'⟩ := r
      cases r with
      | ex e => exact absurd hf2 (var_noex _ _ _ _)
      | ok d =>
        rw [hf2] at h
        simp only [bnd_ok] at h
        cases ho : opIsT c p.1 z tabs d L' with
        | none => rw [ho] at h; exact h
        | some r =>
          obtain ⟨fs, b', _, _, e2, _⟩ := opIsT_some ho
          exact absurd ⟨b', e2⟩ hb
end
end Rg
/-! Sn27: e.f of the caught exception. -/
namespace Rg
open PySem PySem.Spec L2
open PyProof.Rows hiding St
/-- the classes cs let their instances' field fn be read -/
structure FldC (K : PySem.W.Frag) (mg : Str → Option Value) (cs : List String) (fn : String) : Prop where
  all : ∀ c ∈ cs, ∀ C, mg (Str.ofString c) = some (.ref C) → XfC K C ∧ PySem.W.findIn K (.ref C) (Str.ofString fn) = some none
theorem opFld_some {c fn : String} {a : Nat} {z : Option Nat} {cs : List String} {d : D} {L : Hh} {r : Rs D × Hh} (h : opFld c a z cs fn d L = some r) : ∃ dx d', d = .exn c [.int (a : Nat), .exn fn [.int (dx : Nat), d']] ∧ z = some dx ∧ c ∈ cs ∧ r = (.ok d', L) := by
  unfold opFld at h
  split at h
  · rename_i c' i f dx d'
    split at h
    · rename_i hc
      obtain ⟨rfl, rfl, rfl, hm, hz⟩ := hc
      cases h
      obtain ⟨n, rfl, rfl⟩ := Option.map_eq_some_iff.mp hz
      exact ⟨n, d', rfl, rfl, hm, rfl⟩
    · cases h
  · cases h
theorem rep_exf {K : PySem.W.Frag} {w : Wd} {v : V} {c fn : String} {a dx : Nat} {d : D} (h : Rep K w v (.exn c [.int (a : Nat), .exn fn [.int (dx : Nat), d]])) : v = .ref a ∧ ∃ u, w.F dx = some (.xd [(Str.ofString fn, u)]) ∧ Rep K w u d := by
  generalize hi : ((a : Nat) : Int) = i at h
  generalize hj : ((dx : Nat) : Int) = j at h
  cases h with
  | exf h1 h2 _ _ =>
    have e1 := Int.ofNat.inj hi
    have e2 := Int.ofNat.inj hj
    subst e1 e2
    exact ⟨rfl, _, h1, h2⟩
section
variable {X : Cx}
theorem mtd_clear : MtD X "list.clear" mClear := fun B w σ W H L x xs dx ds Q S rx rs q => by
  unfold mClear at q
  split at q
  · rename_i n
    split at q
    · rename_i ys hy
      obtain ⟨a, vs, rfl, ha, h2, r2⟩ := S.lcell rx hy
      cases rs
      exact ⟨_, mtR_of mt_clear, a, vs, rfl, rfl, h2, q w _ _ (Wd.le.refl _) (S.store ha (CellR.lst .nil)) .non⟩
    · exact q.elim
  · exact q.elim
theorem mtd_index : MtD X "list.index" mIndexL := fun B w σ W H L x xs dx ds Q S rx rs q => by
  unfold mIndexL at q
  split at q
  · rename_i i
    split at q
    · rename_i ys hy
      split at q
      · rename_i ns hk
        split at q
        · rename_i j hj
          have ed := mapM_keyI hk
          subst ed
          obtain ⟨a, vs, rfl, h2, r2⟩ := S.look rx hy
          have ev := Reps.ints_of r2
          subst ev
          obtain ⟨v, rfl, rv⟩ := rs.one
          cases rv
          obtain ⟨h3, h4, h5⟩ := List.findIdx?_eq_some_iff_getElem.mp hj
          refine ⟨_, mt_index, a, _, .int i, j, .int ns[j], rfl, rfl, SqL.of h2, rfl, ?_, ?_, ?_, fun m z' hm hz => ?_, post_int S q⟩
          · rw [List.all_eq_true]
            intro v hv
            obtain ⟨n, _, rfl⟩ := List.mem_map.mp hv
            rfl
          · rw [List.getElem?_map, List.getElem?_eq_getElem h3]
            rfl
          · have e : ns[j] = i := by simpa using h4
            rw [e]
            simp [eqV]
          · have hml : m < ns.length := by omega
            rw [List.getElem?_map, List.getElem?_eq_getElem hml] at hz
            cases hz
            have e : ns[m] ≠ i := by simpa using h5 m hm
            simp [eqV, e]
        · exact q.elim
      · exact q.elim
    · exact q.elim
  · exact q.elim
theorem callD_abs : Call1 X (.builtin "abs") opAbs := fun B w σ W H L x d Q S rx q => by
  unfold opAbs at q
  split at q
  · cases rx
    exact ⟨_, call_abs, _, rfl, post_int S q⟩
  · exact q.elim
def rMulT : R2 := fun x y H Q => ∃ (s : Tx) (k : Int), x = .str (tx s) ∧ y = .int k ∧ -100000 ≤ k ∧ k ≤ 100000 ∧ s.length * k.toNat ≤ 100000 ∧ Q (.str (tx (List.replicate k.toNat s).flatten)) H
theorem op_mulT : OpR X (binaryOp .Mult) rMulT := by
  intro pins s σ H x y v u Q I rx ry h
  obtain ⟨a, k, rfl, rfl, h0, h3, h4, q⟩ := h
  obtain ⟨t, rfl⟩ := rx
  obtain ⟨t', rfl⟩ := ry
  have hz : (tx a).length * k.toNat ≤ sizeLine := by
    rw [tx_len]
    exact le_line h4
  refine P.mul_str (by rw [decide_eq_false (by omega), decide_eq_false (by omega)]; rfl) (fun n1 _ => ?_) (fun _ _ => (show decide ((tx a).length * k.toNat > sizeLine) = false from decide_eq_false (Nat.not_lt.mpr hz))) ?_
  · rw [tx_len]
    have e1 : (a.length : Int) * k ≤ 100000 := by
      have : ((a.length * k.toNat : Nat) : Int) ≤ (100000 : Nat) := Int.ofNat_le.mpr h4
      rw [Int.natCast_mul, Int.toNat_of_nonneg (by omega)] at this
      exact this
    have e2 : (a.length : Int) ≤ (2 ^ 63 - 1) / k := (Int.le_ediv_iff_mul_le (by omega)).mpr (by omega)
    omega
  · by_cases n1 : k < 1
    · rw [if_pos n1]
      have e0 : k.toNat = 0 := by omega
      rw [e0] at q
      exact ⟨by decide, ⟨.str (tx []), H, I.tok _, ⟨_, rfl⟩, q⟩⟩
    · rw [if_neg n1]
      by_cases n2 : (k == 1 || (tx a).length == 0) = true
      · rw [if_pos n2]
        have e : (List.replicate k.toNat a).flatten = a := by
          rw [tx_len] at n2
          rcases Bool.or_eq_true_iff.mp n2 with h | h
          · have : k = 1 := by simpa using h
            subst this
            simp
          · have : a = [] := by simpa using h
            subst this
            simp
        rw [e] at q
        exact ⟨.str (tx a), H, I, ⟨_, rfl⟩, q⟩
      · rw [if_neg n2]
        have e := foldl_reps a k.toNat []
        have e3 : (⟨(List.replicate k.toNat (tx a).cps).foldl (· ++ ·) #[]⟩ : Str) = tx (List.replicate k.toNat a).flatten := by
          unfold tx
          rw [show ((#[] : Array Nat)) = ([] : List Nat).toArray from rfl]
          show (⟨_⟩ : Str) = ⟨_⟩
          rw [e, List.nil_append]
        rw [e3]
        refine ⟨?_, ⟨.str (tx (List.replicate k.toNat a).flatten), H, I.tok _, ⟨_, rfl⟩, q⟩⟩
        rw [tx_len, PyProof.Rows.lm_len_rep_flat, Nat.mul_comm]
        exact le_line h4
theorem opd_mulT : OpD X (binaryOp .Mult) opMulT := fun B w σ W H L x y dx dy Q S rx ry q => by
  unfold opMulT at q
  split at q
  · rename_i s k
    split at q
    · rename_i h
      cases rx with
      | str hs =>
        cases ry
        refine ⟨_, op_mulT, _, _, rfl, rfl, h.1, h.2.1, h.2.2, post_rep S (.str ?_) q⟩
        refine okT_sub hs fun c hc => ?_
        obtain ⟨l, hl, hc⟩ := List.mem_flatten.mp hc
        rw [(List.mem_replicate.mp hl).2] at hc
        exact hc
    · exact q.elim
  · exact q.elim
theorem pde_fld {a : Addr} {oe : Obj} {pn : List (Addr × Obj)} {c fn : String} {z : Option Nat} {cs : List String} (px : PinX X.K X.mg (a, oe) c z) (fc : FldC X.K X.mg cs fn) {e : Expr} {i : Nat} {pos : Pos} {n : Str} (ha : PDE (X.suite a ((a, oe) :: pn)) e (eVar i)) (hn : n = Str.ofString fn := by rfl) (hb : attributeBase e n X.env (eval e X.env) = eval e X.env := by rfl) :
    PDE (X.suite a ((a, oe) :: pn)) (.Attribute e n pos) (eUn (opFld c a z cs fn) (eVar i)) := fun W tk => by
  subst hn
  obtain ⟨C, h1, hzn, hf⟩ := px.ex
  by_cases hc : c ∈ cs
  · obtain ⟨T, hno⟩ := fc.all c hc C h1
    refine (pe_xf T hno hzn.zc hf (ha W tk) hb).imp fun σ H Q ⟨B, w, env, L, S, R, h⟩ => ?_
    refine tE_bnd S R h fun w1 u H1 d L1 l1 S1 r1 h1 => ?_
    cases ho : opFld c a z cs fn d L1 with
    | none => rw [ho] at h1; exact h1.elim
    | some r =>
      obtain ⟨dx, d', rfl, rfl, _, rfl⟩ := opFld_some ho
      rw [ho] at h1
      obtain ⟨rfl, v, hx, rv⟩ := rep_exf r1
      refine ⟨rfl, rfl, dx, _, v, rfl, S1.sub _ _ hx, ?_, h1 w1 v H1 (Wd.le.refl _) S1 rv⟩
      simp
  · refine PE.imp (t := fun _ _ _ => False) ⟨fun _ _ _ _ _ _ h => h.elim⟩ fun σ H Q ⟨B, w, env, L, S, R, h⟩ => ?_
    simp only [eUn] at h
    cases hf2 : eVar i env L with
    | none => rw [hf2] at h; exact h
    | some r =>
      obtain ⟨r, L'⟩ := r
      cases r with
      | ex e => exact absurd hf2 (var_noex _ _ _ _)
      | ok d =>
        rw [hf2] at h
        simp only [bnd_ok] at h
        cases ho : opFld c a z cs fn d L' with
        | none => rw [ho] at h; exact h
        | some r =>
          obtain ⟨_, _, _, _, hm, _⟩ := opFld_some ho
          exact absurd hm hc
end
end Rg
/-! Sn28: for over range(a, b, 2) where an exception is handled. -/
namespace Rg
open PySem PySem.Spec L2
open PyProof.Rows hiding St
open HotX L2H
theorem turn_stepH {P : Program} {w : World} {K : PySem.W.Frag} {tg : Expr} (it : Addr) (lo c : Int) (n : Nat) : TurnH P w K tg (Itc lo c n) [it] it (fun i h => IsRangeIter h it (lo + (i : Nat) * c) ((n : Int) - (i : Nat)) c) where
  mem := by simp
  obj := fun i h st b hb => by
    have e : b = it := by simpa using hb
    subst e
    exact ⟨_, st, fun v z => nomatch z⟩
  keep := fun i h h' st k => k it (by simp) _ st
  item := by
    intro X hP hw hK hc i pins s σ H E I hf st hg
    subst hP hw hK
    obtain ⟨f0, f1, f2, f3, f4, f5⟩ := hf it (by simp)
    have hlt : i < n := hg
    refine wpAny_pyNext_range_item st (by omega) fun h' st' sb => ?_
    have st2 : IsRangeIter h' it (lo + ((i + 1 : Nat) : Int) * c) ((n : Int) - ((i + 1 : Nat) : Int)) c := by
      have e1 : lo + ((i : Nat) : Int) * c + c = lo + ((i + 1 : Nat) : Int) * c := by
        rw [Int.natCast_succ, Int.add_mul, Int.one_mul, Int.add_assoc]
      have e2 : (n : Int) - ((i : Nat) : Int) - 1 = (n : Int) - ((i + 1 : Nat) : Int) := by omega
      rw [← e1, ← e2]
      exact st'
    have I1 : Inv X pins σ H { s with heap := h', toks := s.toks + 1 } := I.turned (fun b o hb e => (sb.2 b hb).trans e) f0 f1 f3 f4 f5
    exact ⟨_, rfl, go_of (s := { s with heap := h', toks := s.toks + 1 }) (n := "range_iterator") st2 rfl rfl (by decide) ⟨.int (lo + (i : Nat) * c), H, I1, ⟨s.toks, rfl⟩, ⟨rfl, rfl⟩, st2, fun b hb => (hf b hb).1⟩⟩
  done := by
    intro X hP hw hK hc i pins s σ H E I hf st hg
    subst hP hw hK
    obtain ⟨f0, f1, f2, f3, f4, f5⟩ := hf it (by simp)
    obtain ⟨x1, hot⟩ := hc.at I
    exact pyNext_range_end_hot hot st (by have : n ≤ i := hg; omega) fun h' eb => ⟨rfl, I.turned (t' := s.toks) (fun b o _ e => eb b o e) f0 f1 f3 f4 f5⟩
  self := fun _ _ _ _ _ st h => wpAny_pyIter_rangeiter st h
section
variable {X : Cx}
theorem pi_range3H {tg a b c : Expr} {ta : TA} {p pos : Pos} (hg : Gl X "range") (hm : X.mg "range" = none) (ha : PA X [a, b, c] ta)
    (hs : starEach [a, b, c] X.env = (false, eval a X.env) :: starEach [b, c] X.env := by rfl) (hpl : (backTo pos (starEach [b, c] X.env)).any (·.1) = false := by rfl) :
    PIH X tg (.Call (.Name "range" p) [a, b, c] [] pos) (iRng3 ta) := by
  refine ⟨fun pins s σ H R I h => ?_⟩
  refine Call_ (ld_blt I hg hm boot_range (PyProof.Rows.callWith_type1 (thn (ha.run pos pins s σ H _ I h) fun us s1 ⟨vs, H1, I1, r1, q1⟩ => ?_) hs hpl))
  obtain ⟨i, j, k, n, e, ⟨c0, c1, c2, c3⟩, q⟩ := q1
  subst e
  cases r1 with
  | cons r rr =>
    cases rr with
    | cons r' rr =>
      cases rr with
      | cons r'' rr =>
        cases rr
        obtain ⟨t, rfl⟩ := r
        obtain ⟨t', rfl⟩ := r'
        obtain ⟨t'', rfl⟩ := r''
        refine call_range_3 c0 ?_ (.inl (PyProof.noPylong_small c1))
        refine wpAny_pyIter_range (IsRange.new ..) c2 ?_
        have I2 : Inv X pins σ H1 { s1 with heap := s1.heap.push { cls := .type "range", data := .fields #[.int i t, .int j t', .int k t''] } } := I1.kept (t' := s1.toks) fun b o e => Heap.get?_push_of_some _ e
        refine ⟨_, [_], _, _, H1, rfl, I2.kept (t' := s1.toks) fun b o e => Heap.get?_push_of_some _ e, turn_stepH _ i k n, ?_, fun b hb => ?_, q⟩
        · have e1 : i + ((0 : Nat) : Int) * k = i := by simp
          have e2 : (n : Int) - ((0 : Nat) : Int) = Builtin.Range.rangeSize i j k := by rw [c3]; simp
          show IsRangeIter _ _ (i + ((0 : Nat) : Int) * k) ((n : Int) - ((0 : Nat) : Int)) k
          rw [e1, e2]
          exact Heap.get?_push_size _ rfl
        · have e := List.mem_singleton.mp hb
          subst e
          exact I2.fpOk (Nat.le_refl _) (I2.hok.fresh (Nat.le_refl _))
theorem pdih_rangeT {tg a b : Expr} {f g : M D} {j : Nat} {p p2 pos : Pos} (hm : X.mg "range" = none) (ha : PDE X a f) (hb : PDE X b g) (hg : Gl X "range" := by rfl)
    (hs : starEach [a, b, .Constant (.int 2) j p2] X.env = (false, eval a X.env) :: starEach [b, .Constant (.int 2) j p2] X.env := by rfl) (hs2 : starEach [b, .Constant (.int 2) j p2] X.env = (false, eval b X.env) :: starEach [.Constant (.int 2) j p2] X.env := by rfl) (hs3 : starEach [.Constant (.int 2) j p2] X.env = (false, eval (.Constant (.int 2) j p2) X.env) :: starEach [] X.env := by rfl)
    (hpl : (backTo pos (starEach [b, .Constant (.int 2) j p2] X.env)).any (·.1) = false := by rfl) : PDIH X tg (.Call (.Name "range" p) [a, b, .Constant (.int 2) j p2] [] pos) (iRangeT f g) := fun W tk =>
  PIH.imp (pi_range3H hg hm (pda_cons ha (pda_cons hb (pda_cons pde_int pda_nil hs3) hs2) hs W tk) hs hpl) fun σ H Q ⟨B, w, env, L, S, R, h⟩ => by
    refine ⟨B, w, env, L, S, R, ?_⟩
    simp only [iRangeT] at h
    simp only [aCons, aNil]
    cases hf : f env L with
    | none =>
      rw [hf] at h
      exact h
    | some p =>
      obtain ⟨r, L'⟩ := p
      rw [hf] at h
      cases r with
      | ex e => exact h
      | ok d =>
        simp only [bnd_ok] at h ⊢
        cases hf2 : g env L' with
        | none =>
          rw [hf2] at h
          exact h
        | some p =>
          obtain ⟨r, L2⟩ := p
          rw [hf2] at h
          cases r with
          | ex e => exact h
          | ok d2 =>
            simp only [bnd_ok] at h ⊢
            intro w1 vs H1 l1 S1 r1
            cases r1 with
            | cons rv r1 =>
              cases r1 with
              | cons ru r1 =>
                cases r1 with
                | cons rc r1 =>
                  cases r1
                  split at h
                  · rename_i i j
                    cases rv; cases ru; cases rc
                    split at h
                    · rename_i hb
                      have h1 := big_ok hb.1
                      have h2 := big_ok hb.2
                      refine ⟨i, j, 2, (if i < j then (j - i - 1) / 2 + 1 else 0).toNat, rfl, ⟨by decide, by decide, small_two h1.1 h1.2 h2.1 h2.2, ?_⟩, h w1 _ H1 l1 S1 src_rangeT⟩
                      rw [size_two]
                      split <;> omega
                    · exact h.elim
                  · exact h.elim
end
end Rg
/-! Sn29: max and min of two numbers where an exception is handled. -/
namespace Rg
open PySem PySem.Spec L2
open PyProof.Rows hiding St
open HotX L2H
theorem tuple_end_hot {prog : Program} {w : World} {A : Around} {E : Value → Shared → Prop} {s : Shared} {it t x1 : Addr} {i : Nat} {items : Array Value} {Q : Option Value → Shared → Prop} (hot : HotAt A x1 s.heap) (hit : s.heap.IsTupleIter it t i) (ht : s.heap.IsTuple t items) (hx : items[i]? = none)
    (hne : x1 ≠ it) (hQ : ∀ h', (∀ b o, b ≠ it → s.heap.get? b = some o → h'.get? b = some o) → Q none { s with heap := h' }) : wpAny (model prog w) A (pyNext (.ref it)) Q E s := by
  obtain ⟨o, ho, hc, hd⟩ := id hit
  obtain ⟨ol, hol, _, nl, hdl⟩ := ht
  obtain ⟨hh, o1, vs1, h1, d1, c1⟩ := hot
  unfold pyNext
  refine wpAny_bind (wpAny_attempt (wpAny_callSpecial?_slot (name := Str.ofString "__next__") hit.typeIs F.slot_tuple_iterator_next
    (wpAny_call_entry F.slot_tuple_iterator_next hit.typeIs F.entry_tuple_iterator_next ?_ (F.args_tuple_iterator_next_1 _))))
  show wpAny _ _ (field (.ref it) 0 >>= _) _ _ s
  refine wpAny_bind (wpAny_field ho hd (x := .ref t) rfl ?_)
  show wpAny _ _ (if (Value.ref t == Value.none) = true then _ else _) _ _ s
  rw [if_neg (show ¬ ((Value.ref t == Value.none) = true) from Bool.false_ne_true)]
  show wpAny _ _ (field (.ref it) 1 >>= _) _ _ s
  refine wpAny_bind (wpAny_field ho hd (x := .int i 0) rfl ?_)
  show wpAny _ _ (seqItems? (.ref t) >>= _) _ _ s
  refine wpAny_bind (wpAny_seqItems hol hdl ?_)
  simp only [Int.toNat_natCast, hx]
  refine wpAny_bind (wpAny_rule (wpAny_bind (wpAny_setField ho hd (by simp) ?_)))
  have h2 := (Heap.get?_update_other s.heap (Obj.mapFields (·.setIfInBounds 0 Value.none)) (Ne.symm hne)).trans h1
  refine wpAny_bind ?_
  simp only [newExc, newTuple]
  refine wpAny_bind (wpAny_newObj_type ?_ (by size_fits))
  refine wpAny_bind (m := firstArgMember _ _) (wpAny_of_eq (a := Value.none) (by first | rfl | (simp only [firstArgMember]; rfl)) ?_)
  refine wpAny_newObj_type ?_ (by size_fits)
  refine raiseNew_hot ⟨hh, o1, vs1, Heap.get?_push_of_some _ (Heap.get?_push_of_some _ h2), d1, c1⟩ (Nat.ne_of_lt (Heap.lt_size (Heap.get?_push_of_some _ h2))) (Heap.get?_push_size _ rfl) rfl (by first | (simp; done) | (simp; omega) | (simp only [Array.size_append]; simp; omega)) ?_
  refine wpAny_bind (wpAny_isInstance (T := "StopIteration") (b := true) ⟨_, Heap.get?_update_self _ (Heap.get?_push_size _ rfl) rfl, rfl⟩ isSubtype_stop ?_)
  refine wpAny_pure (hQ _ fun b o hb e => ?_)
  have e2 := (Heap.get?_update_other s.heap (Obj.mapFields (·.setIfInBounds 0 Value.none)) (Ne.symm hb)).trans e
  rw [Heap.get?_update_other _ _ (Nat.ne_of_gt (Heap.lt_size (Heap.get?_push_of_some _ e2)))]
  exact Heap.get?_push_of_some _ (Heap.get?_push_of_some _ e2)
theorem walks_tupleH {prog : Program} {w : World} {A : Around} {x1 : Addr} {o1 : Obj} {vs1 : Array Value} (hh : A.handled = some (.ref x1)) (d1 : o1.data = .fields vs1) (c1 : vs1[2]? = some .none) (I ax : Addr) (hne : ax ≠ I) (hn1 : x1 ≠ I) (items : Array Value) :
    Walks prog w A I [I, ax, x1] [I] items.size (fun i v => items[i]? = some v) (fun i h => h.IsTupleIter I ax i ∧ h.IsTuple ax items ∧ h.get? x1 = some o1) where
  sub := fun b hb => by simp at hb; simp [hb]
  frame := fun _ _ _ st hk => ⟨st.1.at fun o e => hk I (by simp) o e, st.2.1.at fun o e => hk ax (by simp) o e, hk x1 (by simp) o1 st.2.2⟩
  item := fun i s Q E hi st hQ => by
    refine wpAny_pyNext_tuple_item st.1 st.2.1 (x := items[i]) (by simp [hi]) fun h' hit' hs' => ?_
    exact hQ _ h' s.toks (by simp [hi]) ⟨hit', st.2.1.extBut hs'.extBut hne, hs'.extBut x1 o1 hn1 st.2.2⟩ fun b o hb e => hs'.extBut b o (fun h => hb (by simp [h])) e
  done := fun s Q E st hQ => tuple_end_hot ⟨hh, o1, vs1, st.2.2, d1, c1⟩ st.1 st.2.1 (by simp) hn1 fun h' he' => hQ h' s.toks fun b o hb e => he' b o (fun h => hb (by simp [h])) e
  self := fun _ _ _ _ st hQ => wpAny_pyIter_tupleiter st.1 hQ
section
variable {prog : Program} {w : World} {A : Around} {E : Value → Shared → Prop} {s : Shared}
theorem max_two_hot {x1 : Addr} {a b : Int} {t u : Tok} {Q : Value → Shared → Prop} (hot : HotAt A x1 s.heap)
    (h : ∀ h' tk, (∀ c o, s.heap.get? c = some o → h'.get? c = some o) → Q (if b > a then .int b u else .int a t) { s with heap := h', toks := tk }) :
    wpAny (model prog w) A (call (.builtin "max") [.int a t, .int b u]) Q E s := by
  obtain ⟨hh, o1, vs1, h1, d1, c1⟩ := hot
  have l1 := Heap.lt_size h1
  have hT : (s.heap.push { cls := .type "tuple", data := .seq #[.int a t, .int b u] }).IsTuple s.heap.objs.size (intItems #[(a, t), (b, u)]) := ⟨_, Heap.get?_push_size _ rfl, rfl, 0, by simp [intItems]⟩
  refine call_max_two (wpAny_pyIter_tuple hT ?_)
  have hsz : (s.heap.push { cls := .type "tuple", data := .seq #[.int a t, .int b u] }).objs.size = s.heap.objs.size + 1 := Heap.size_push ..
  refine ⟨_, [_, s.heap.objs.size, x1], [_], _, _, _, _, rfl, walks_tupleH (A := A.in1) hh d1 c1 _ s.heap.objs.size (by rw [hsz]; exact Nat.ne_of_lt (Nat.lt_succ_self _)) (by rw [hsz]; exact Nat.ne_of_lt (Nat.lt_succ_of_lt l1)) (intItems #[(a, t), (b, u)]),
    ⟨⟨_, Heap.get?_push_size _ rfl, rfl, rfl⟩, hT.push _, Heap.get?_push_of_some _ (Heap.get?_push_of_some _ h1)⟩, fun c hc => ?_, by simp [intItems], CmpOf.ints_gt (numAt #[(a, t), (b, u)]) (fun _ _ => intItems_at), fun v h' tk hP hk => ?_⟩
  · show c < ((s.heap.push _).push _).objs.size
    rw [Heap.size_push, hsz]
    rcases List.mem_cons.mp hc with rfl | hc
    · rw [hsz]; exact Nat.lt_succ_self _
    · rcases List.mem_cons.mp hc with rfl | hc
      · exact Nat.lt_succ_of_lt (Nat.lt_succ_self _)
      · rcases List.mem_cons.mp hc with rfl | hc
        · exact Nat.lt_succ_of_lt (Nat.lt_succ_of_lt l1)
        · cases hc
  · have hold : ∀ c o, s.heap.get? c = some o → h'.get? c = some o := fun c o e => by
      refine hk c o (fun hm => ?_) (Heap.get?_push_of_some _ (Heap.get?_push_of_some _ e))
      rcases List.mem_cons.mp hm with e1 | hm
      · have := Heap.lt_size e; rw [e1, hsz] at this; exact Nat.lt_irrefl _ (Nat.lt_of_succ_lt this)
      · cases hm
    have := h h' tk hold
    have hv : v = if b > a then Value.int b u else Value.int a t := by
      have hP' : (intItems #[(a, t), (b, u)])[argBest (fun i j => decide (numAt #[(a, t), (b, u)] i > numAt #[(a, t), (b, u)] j)) 1]? = some v := by
        have hsz2 : (intItems #[(a, t), (b, u)]).size - 1 = 1 := by simp [intItems]
        rw [← hsz2]; exact hP
      by_cases hba : b > a
      · have e : argBest (fun i j => decide (numAt #[(a, t), (b, u)] i > numAt #[(a, t), (b, u)] j)) 1 = 1 := by simp [argBest, numAt, hba]
        rw [e] at hP'
        simpa [intItems, hba] using hP'.symm
      · have e : argBest (fun i j => decide (numAt #[(a, t), (b, u)] i > numAt #[(a, t), (b, u)] j)) 1 = 0 := by simp [argBest, numAt, hba]
        rw [e] at hP'
        simpa [intItems, hba] using hP'.symm
    rw [hv]; exact this
theorem min_two_hot {x1 : Addr} {a b : Int} {t u : Tok} {Q : Value → Shared → Prop} (hot : HotAt A x1 s.heap)
    (h : ∀ h' tk, (∀ c o, s.heap.get? c = some o → h'.get? c = some o) → Q (if b < a then .int b u else .int a t) { s with heap := h', toks := tk }) :
    wpAny (model prog w) A (call (.builtin "min") [.int a t, .int b u]) Q E s := by
  obtain ⟨hh, o1, vs1, h1, d1, c1⟩ := hot
  have l1 := Heap.lt_size h1
  have hT : (s.heap.push { cls := .type "tuple", data := .seq #[.int a t, .int b u] }).IsTuple s.heap.objs.size (intItems #[(a, t), (b, u)]) := ⟨_, Heap.get?_push_size _ rfl, rfl, 0, by simp [intItems]⟩
  refine call_min_two (wpAny_pyIter_tuple hT ?_)
  have hsz : (s.heap.push { cls := .type "tuple", data := .seq #[.int a t, .int b u] }).objs.size = s.heap.objs.size + 1 := Heap.size_push ..
  refine ⟨_, [_, s.heap.objs.size, x1], [_], _, _, _, _, rfl, walks_tupleH (A := A.in1) hh d1 c1 _ s.heap.objs.size (by rw [hsz]; exact Nat.ne_of_lt (Nat.lt_succ_self _)) (by rw [hsz]; exact Nat.ne_of_lt (Nat.lt_succ_of_lt l1)) (intItems #[(a, t), (b, u)]),
    ⟨⟨_, Heap.get?_push_size _ rfl, rfl, rfl⟩, hT.push _, Heap.get?_push_of_some _ (Heap.get?_push_of_some _ h1)⟩, fun c hc => ?_, by simp [intItems], CmpOf.ints_lt (numAt #[(a, t), (b, u)]) (fun _ _ => intItems_at), fun v h' tk hP hk => ?_⟩
  · show c < ((s.heap.push _).push _).objs.size
    rw [Heap.size_push, hsz]
    rcases List.mem_cons.mp hc with rfl | hc
    · rw [hsz]; exact Nat.lt_succ_self _
    · rcases List.mem_cons.mp hc with rfl | hc
      · exact Nat.lt_succ_of_lt (Nat.lt_succ_self _)
      · rcases List.mem_cons.mp hc with rfl | hc
        · exact Nat.lt_succ_of_lt (Nat.lt_succ_of_lt l1)
        · cases hc
  · have hold : ∀ c o, s.heap.get? c = some o → h'.get? c = some o := fun c o e => by
      refine hk c o (fun hm => ?_) (Heap.get?_push_of_some _ (Heap.get?_push_of_some _ e))
      rcases List.mem_cons.mp hm with e1 | hm
      · have := Heap.lt_size e; rw [e1, hsz] at this; exact Nat.lt_irrefl _ (Nat.lt_of_succ_lt this)
      · cases hm
    have := h h' tk hold
    have hv : v = if b < a then Value.int b u else Value.int a t := by
      have hP' : (intItems #[(a, t), (b, u)])[argBest (fun i j => decide (numAt #[(a, t), (b, u)] i < numAt #[(a, t), (b, u)] j)) 1]? = some v := by
        have hsz2 : (intItems #[(a, t), (b, u)]).size - 1 = 1 := by simp [intItems]
        rw [← hsz2]; exact hP
      by_cases hba : b < a
      · have e : argBest (fun i j => decide (numAt #[(a, t), (b, u)] i < numAt #[(a, t), (b, u)] j)) 1 = 1 := by simp [argBest, numAt, hba]
        rw [e] at hP'
        simpa [intItems, hba] using hP'.symm
      · have e : argBest (fun i j => decide (numAt #[(a, t), (b, u)] i < numAt #[(a, t), (b, u)] j)) 1 = 0 := by simp [argBest, numAt, hba]
        rw [e] at hP'
        simpa [intItems, hba] using hP'.symm
    rw [hv]; exact this
end
section
variable {X : Cx}
theorem call_max2H (hc : HotC X) : CallR X (.builtin "max") (fun xs H Q => ∃ i j, xs = [.int i, .int j] ∧ Q (.int (if j > i then j else i)) H) := by
  intro pins s σ H xs us Q I r h
  obtain ⟨i, j, rfl, q⟩ := h
  obtain ⟨u, w', rfl, ⟨t, rfl⟩, ⟨t', rfl⟩⟩ := vals2 r
  obtain ⟨x1, hot⟩ := hc.at I
  refine max_two_hot hot fun h' tk k => ⟨_, H, I.kept k, ?_, q⟩
  by_cases hj : j > i
  · rw [if_pos hj, if_pos hj]; exact ⟨_, rfl⟩
  · rw [if_neg hj, if_neg hj]; exact ⟨_, rfl⟩
theorem callD_maxH (hc : HotC X) : CallD X (.builtin "max") opMax := fun B w σ W H L xs ds Q S rx q => by
  unfold opMax at q
  split at q
  · obtain ⟨v, u, rfl, r1, r2⟩ := rx.two
    cases r1; cases r2
    exact ⟨_, call_max2H hc, _, _, rfl, post_int S q⟩
  · exact q.elim
theorem call_min2H (hc : HotC X) : CallR X (.builtin "min") (fun xs H Q => ∃ i j, xs = [.int i, .int j] ∧ Q (.int (if j < i then j else i)) H) := by
  intro pins s σ H xs us Q I r h
  obtain ⟨i, j, rfl, q⟩ := h
  obtain ⟨u, w', rfl, ⟨t, rfl⟩, ⟨t', rfl⟩⟩ := vals2 r
  obtain ⟨x1, hot⟩ := hc.at I
  refine min_two_hot hot fun h' tk k => ⟨_, H, I.kept k, ?_, q⟩
  by_cases hj : j < i
  · rw [if_pos hj, if_pos hj]; exact ⟨_, rfl⟩
  · rw [if_neg hj, if_neg hj]; exact ⟨_, rfl⟩
theorem callD_minH (hc : HotC X) : CallD X (.builtin "min") opMin := fun B w σ W H L xs ds Q S rx q => by
  unfold opMin at q
  split at q
  · obtain ⟨v, u, rfl, r1, r2⟩ := rx.two
    cases r1; cases r2
    exact ⟨_, call_min2H hc, _, _, rfl, post_int S q⟩
  · exact q.elim
end
end Rg
/-! Sn30: list(x) where an exception is handled; for over reversed(range(n)). -/
namespace Rg
open PySem PySem.Spec L2
open PyProof.Rows hiding St
section
variable {X : Cx}
theorem callD_listQ : Call1 X (.type "list") opListQ := fun B w σ W H L x d Q S rx q => by
  unfold opListQ at q
  split at q
  · rename_i xs e
    obtain ⟨a, vs, rfl, h2, rs⟩ := S.seqOf rx e
    exact ⟨_, call_list_of, a, vs, rfl, h2.imp SqL.of SqT.of, new_list S rs q⟩
  · exact q.elim
theorem src_rangeD {B : Bs} {w : Wd} {lo : Int} {n : Nat} (e : lo = (n : Nat) - 1) : SrcR X.K X.mg B w (Itc lo (-1) n) (.items (rangeD n)) := fun w2 H2 L2 l2 S2 _ i => by
  subst e
  refine ⟨fun hi => ?_, fun hi => ?_⟩
  · have hi' : i < n := by simpa [Src.xs, rangeD] using hi
    refine ⟨hi', fun v H' y => ?_⟩
    obtain ⟨rfl, rfl⟩ := y
    refine ⟨w2, .int (((n : Nat) - 1 : Int) + (i : Nat) * (-1)), Wd.le.refl _, S2, ?_, .int _⟩
    have e2 : ((n : Nat) - 1 : Int) + (i : Nat) * (-1) = (n : Nat) - 1 - (i : Nat) := by omega
    rw [e2]
    simp [Src.xs, rangeD, hi']
  · show n ≤ i
    simpa [Src.xs, rangeD] using hi
theorem pdi_revR1 {tg a : Expr} {f : M D} {p p2 pos pos2 : Pos} (hm : X.mg "reversed" = none) (hm2 : X.mg "range" = none) (ha : PDE X a f) (hg : Gl X "reversed" := by rfl) (hg2 : Gl X "range" := by rfl) (hs2 : starEach [a] X.env = [(false, eval a X.env)] := by rfl)
    (hs : starEach [.Call (.Name "range" p) [a] [] pos] X.env = (false, eval (.Call (.Name "range" p) [a] [] pos) X.env) :: starEach [] X.env := by rfl) : PDI X tg (.Call (.Name "reversed" p2) [.Call (.Name "range" p) [a] [] pos] [] pos2) (iRevR1 f) := fun W tk =>
  PI.imp (pi_revR hg hm (prg_1 hg2 hm2 (ha W tk) hs2) hs) fun σ H Q ⟨B, w, env, L, S, R, h⟩ => by
    refine ⟨B, w, env, L, S, R, ?_⟩
    simp only [iRevR1] at h
    cases hf : f env L with
    | none =>
      rw [hf] at h
      exact h
    | some p =>
      obtain ⟨r, L'⟩ := p
      rw [hf] at h
      cases r with
      | ex e => exact h
      | ok d =>
        simp only [bnd_ok] at h ⊢
        intro w1 v H1 l1 S1 r1
        split at h
        · rename_i j
          cases r1
          split at h
          · rename_i hb
            have hj := big_ok hb
            refine ⟨_, rfl, by decide, by decide, hj.1, hj.2, ?_⟩
            have e1 : (j - 0).toNat = j.toNat := by rw [Int.sub_zero]
            rw [e1]
            exact h w1 _ H1 l1 S1 (src_rangeD (by omega))
          · exact h.elim
        · exact h.elim
end
end Rg
/-! Sn31: xs.count(x) of whatever is laid out flat. -/
namespace Rg
open PySem PySem.Spec L2
open PyProof.Rows hiding St
theorem count_py : ∀ {zs : List D} {d : D}, D.pures zs = true → D.pure d = true → ((pys zs).countP fun z => PyData.eqv z (py d)) = zs.countP fun z => D.eqv z d
  | [], _, _, _ => by simp [pys]
  | z :: zs, d, h1, h2 => by
    simp only [D.pures, Bool.and_eq_true] at h1
    simp only [pys, List.countP_cons]
    rw [eqv_py z d h1.1 h2, count_py h1.2 h2]
def rCountD (K : PySem.W.Frag) : V → List V → Hp → VK → Prop := fun x xs H Q => ∃ (a : Addr) (y : V) (d : PyData) (ds : List PyData), x = V.ref a ∧ xs = [y] ∧ Dp K H (V.ref a) (.list ds) ∧ Dp K H y d ∧
  SeqAt.shaped (.list ds) = true ∧ SeqAt.shaped d = true ∧ Q (.int (ds.countP fun z => PyData.eqv z d : Nat)) H
section
variable {X : Cx}
theorem mt_countD (hu : X.A.units + 65 < cLine) : MtR X "list.count" (rCountD X.K) := by
  intro pins s σ H x xs v us Q I rx rxs h
  obtain ⟨a, y, d, ds, rfl, rfl, hl, hy, sl, sd, q⟩ := h
  cases rx
  cases rxs with
  | cons ry rt =>
    rename_i uy ut
    cases rt
    obtain ⟨bs, r1⟩ := Dp.reads I d y uy hy ry
    have hxs : PyData.canLayAll0 ds = true := SeqAt.canLay_of_shaped sl
    have hroom : X.A.units + 1 + min (PyData.depthAll ds) d.depth < cLine := room_in_shaped sd hu
    cases hl with
    | lst hs ha =>
      obtain ⟨its, rv, ⟨⟨cls, dd, data, sls⟩, n, ho, hc, hdn, hdt⟩, hlen⟩ := I.list hs
      simp only at hc hdt
      subst hc hdt
      obtain ⟨as, h4⟩ := Dp.readsAll I ds _ its ha rv
      have hmap : its.map (SeqAt.readOf s.heap) = ds := SeqAt.readsAll_map ds its as hxs h4
      refine call_meets PySem.F.slot_list_count ⟨_, ho, rfl⟩ PySem.F.entry_list_count (PySem.F.args_list_count_2 _ _)
        (SeqAt.list_countAt a its.toArray n dd sls uy (fun u => PyData.eqv (SeqAt.readOf s.heap u) d)) ⟨ho, SeqAt.items_eqAt (vs := its.toArray) (show ReadsAll s.heap its.toArray.toList ds as from h4) r1 hxs (SeqAt.canLay_of_shaped sd) hroom, ?_⟩
      have ec : its.toArray.toList.countP (fun u => PyData.eqv (SeqAt.readOf s.heap u) d) = ds.countP fun z => PyData.eqv z d := by
        rw [← hmap, List.countP_map]
        rfl
      refine ⟨.int (ds.countP fun z => PyData.eqv z d : Nat), H, I.tok _, ⟨s.toks, ?_⟩, q⟩
      rw [ec]
theorem mtd_count (hu : X.A.units + 64 + 1 < cLine) : MtD X "list.count" mCountL := fun B w σ W H L x xs dx ds Q S rx rs q => by
  unfold mCountL at q
  split at q
  · rename_i n dy
    split at q
    · rename_i zs d e1 e2
      obtain ⟨y, rfl, ry⟩ := rs.one
      obtain ⟨h1, h2, h3, h4⟩ := deep_ok S 8 x _ _ rx e1
      obtain ⟨k1, k2, k3, k4⟩ := deep_ok S 8 y dy _ ry e2
      have hsy : SeqAt.shaped (.list (pys zs)) = true := by
        have h3' : PyData.canLay0 (.list (pys zs)) = true := h3
        have h4' : PyData.depth (.list (pys zs)) ≤ 8 := h4
        unfold SeqAt.shaped
        rw [h3', decide_eq_true (by omega)]
        rfl
      have hsx : SeqAt.shaped (py d) = true := by
        unfold SeqAt.shaped
        rw [k3, decide_eq_true (by omega)]
        rfl
      have ha := count_py (zs := zs) (d := d) (by simpa [D.pure] using h2) k2
      cases rx with
      | @ref a _ hv =>
        refine ⟨_, mt_countD hu, _, y, py d, pys zs, rfl, rfl, h1, k1, hsy, hsx, ?_⟩
        rw [ha]
        exact post_int S q
    · exact q.elim
  · exact q.elim
end
end Rg
namespace Rg
open PySem PySem.Spec L2
open PyProof.Rows hiding St
section
variable {X : Cx}
theorem split_tx (c : Nat) (s : Tx) : Txt.split (tx s) (tx [c]) = (splitT c s).map tx := by
  have hj := StrLaws.join_split (tx s) (tx [c])
  have hf := StrLaws.split_free (tx s) c
  have hp := split_pos (tx s) (tx [c])
  have e1 : (⟨#[c]⟩ : Str) = tx [c] := rfl
  rw [e1] at hf
  generalize Txt.split (tx s) (tx [c]) = zs at *
  have hz : zs = (zs.map TL.tl).map tx := by
    rw [List.map_map]
    conv => lhs; rw [← List.map_id zs]
    exact List.map_congr_left fun z _ => by simp [tx, TL.tl]
  generalize zs.map TL.tl = ps at hz
  subst hz
  have h2 := join_tx [c] ps
  rw [TL.join_eq] at h2
  rw [h2] at hj
  have h3 := tx_inj hj
  have hne : ps ≠ [] := by
    intro e
    subst e
    simp at hp
  rw [← h3, splitT_join c ps hne fun p hp' => ?_]
  have := hf (tx p) (List.mem_map_of_mem hp')
  simpa [tx] using this
theorem reps_strs {K : PySem.W.Frag} {w : Wd} : ∀ {ps : List Tx}, (∀ p ∈ ps, okT p = true) → Reps K w ((ps.map tx).map V.str) (ps.map D.str)
  | [], _ => .nil
  | p :: ps, h => .cons (.str (h p List.mem_cons_self)) (reps_strs fun p hp => h p (List.mem_cons_of_mem _ hp))
theorem mts_split : MtS X "str.split" mSplit := fun B w σ W H L s y d Q S hs ry q => by
  unfold mSplit at q
  split at q
  · rename_i c
    split at q
    · rename_i hl
      cases ry with
      | str hx =>
        refine ⟨_, mt_split, tx s, tx [c], rfl, rfl, rfl, ?_, ?_⟩
        · rw [tx_len]
          have : (200000 : Nat) ≤ sizeLine := by decide
          omega
        · rw [split_tx]
          exact new_list S (reps_strs fun p hp => okT_sub hs (splitT_sub c s p hp)) q
    · exact q.elim
  · exact q.elim
theorem count_tx (c : Nat) (s : Tx) : Txt.count (tx s) (tx [c]) = ((s.count c : Nat) : Int) := by
  have h := PyProof.Rows.count_is (tx s) c
  have e1 : (⟨#[c]⟩ : Str) = tx [c] := rfl
  have e2 : (tx s).cps.toList = s := rfl
  rw [e1, e2] at h
  rw [h]
  have : ∀ l : List Nat, countIn (.str (tx [c])) (l.map fun n => PyData.str ⟨#[n]⟩) = ((l.count c : Nat) : Int) := by
    intro l
    have hc := cnt_nil c
    induction l with
    | nil => rfl
    | cons n r ih =>
      have h2 := cnt_cons c n r
      unfold cnt at h2
      rw [e1] at h2
      rw [h2, ih, List.count_cons]
      by_cases e : n = c
      · simp [e]
        omega
      · simp [e]
  exact this s
theorem mts_count : MtS X "str.count" mCountT := fun B w σ W H L s y d Q S hs ry q => by
  unfold mCountT at q
  split at q
  · rename_i c
    cases ry with
    | str hx =>
      refine ⟨_, mt_count, tx s, tx [c], rfl, rfl, ?_⟩
      rw [count_tx]
      exact post_int S q
  · exact q.elim
theorem src_tupR {B : Bs} {w : Wd} {H : Hp} {L : Hh} {v : V} {ds : List D} (S : StR X.K X.mg B w H L) (r : Rep X.K w v (.tup ds)) : ∃ a vs, v = .ref a ∧ SqT X.K H a vs ∧ SrcR X.K X.mg B w (RT.ItvT X.K a vs.length) (.items ds.reverse) := by
  cases r with
  | @tup a vs _ hv rs =>
    refine ⟨a, vs, rfl, SqT.of (S.sub _ _ hv), fun w2 H2 L2 l2 S2 _ i => ?_⟩
    have h3 : H2 a = some (.tup vs) := S2.sub _ _ (l2.1 _ _ hv)
    have r3 := rs.mono l2
    have hl := r3.length
    refine ⟨fun hi => ?_, fun hi => ?_⟩
    · have hi : i < ds.length := by simpa [Src.xs] using hi
      obtain ⟨d, hd⟩ : ∃ d, ds[vs.length - 1 - i]? = some d := ⟨ds[vs.length - 1 - i]'(by omega), List.getElem?_eq_getElem (by omega)⟩
      obtain ⟨u, hu, ru⟩ := r3.get hd
      refine ⟨⟨by omega, vs, u, SqT.of h3, hu⟩, fun x H' y => ?_⟩
      obtain ⟨rfl, y⟩ := y
      have hx := y vs (SqT.of h3)
      rw [hu] at hx
      cases hx
      refine ⟨w2, d, Wd.le.refl _, S2, ?_, ru⟩
      show ds.reverse[i]? = some d
      rw [List.getElem?_reverse hi, ← hl]
      exact hd
    · have hi : ds.length ≤ i := by simpa [Src.xs] using hi
      show vs.length ≤ i
      omega
theorem pdi_revT {tg e : Expr} {f : M D} {p pos : Pos} (hm : X.mg "reversed" = none) (he : PDE X e f) (hg : Gl X "reversed" := by rfl) (hs : starEach [e] X.env = (false, eval e X.env) :: starEach [] X.env := by rfl) : PDI X tg (.Call (.Name "reversed" p) [e] [] pos) (iRevT f) := fun W tk =>
  PI.imp (RT.pi_revA hg hm (he W tk) hs) fun σ H Q ⟨B, w, env, L, S, R, h⟩ => by
    refine ⟨B, w, env, L, S, R, ?_⟩
    simp only [iRevT] at h
    cases hf : f env L with
    | none =>
      rw [hf] at h
      exact h
    | some p =>
      obtain ⟨r, L'⟩ := p
      rw [hf] at h
      cases r with
      | ex e => exact h
      | ok d =>
        simp only [bnd_ok] at h
        split at h
        · intro w1 v H1 l1 S1 r1
          obtain ⟨a, vs, rfl, h2, sr⟩ := src_tupR S1 r1
          exact ⟨a, vs, rfl, .inr ⟨h2, h w1 _ H1 l1 S1 sr⟩⟩
        · exact h.elim
end
end Rg
namespace RgL
open PySem PySem.Spec PyProof.Rows L2
/-! ### list(d.values()), the keys tuples -/
def tListVals (te : TE) : TE := fun σ H Q => te σ H fun v H1 => ∃ (a : Addr) (kvs : List (List Key × V)), v = .ref a ∧ H1 a = some (.dT kvs) ∧ ∀ p, H1 p = none → Q (.ref p) (upd H1 p (.lst (kvs.map Prod.snd)))
section
variable {X : Cx} {e : Expr} {te : TE} {p apos cpos pos : Pos}
theorem vals_snd {H : Hp} {kvs : List (List Key × V)} {xs : List (List Key × Addr × Value)} (r : Paired (fun (p : List Key × V) (q : List Key × Addr × Value) => p.1 = q.1 ∧ H q.2.1 = some (.tup (p.1.map kV)) ∧ RelV p.2 q.2.2) kvs xs) : Vals (kvs.map Prod.snd) (xs.map fun x => x.2.2) := by
  induction r with
  | nil => exact .nil
  | cons h t ih => exact .cons h.2.2 ih
theorem pe_listVals (hc : X.calm = true) (he : PE X e te) (hg : Gl X "list") (hm : X.mg "list" = none) (hv : bootBuiltins "list" = some (.type "list")) (hbase : attributeBase e "values" X.env (eval e X.env) = eval e X.env := by rfl) (hline : (apos.endLine == cpos.line) = true := by rfl)
    (hs : starEach [.Call (.Attribute e "values" apos) [] [] cpos] X.env = (false, eval (.Call (.Attribute e "values" apos) [] [] cpos) X.env) :: starEach [] X.env := by rfl) :
    PE X (.Call (.Name "list" p) [.Call (.Attribute e "values" apos) [] [] cpos] [] pos) (tListVals te) := by
  refine ⟨fun pins s σ H Q I hq => ?_⟩
  refine wpAny_Call_Name_kw (ld_blt I hg hm hv ?_)
  refine PyProof.Rows.callWith_type1 ?_ hs rfl
  rw [hs]
  show wpAny _ _ (spliced ((false, eval (.Call (.Attribute e "values" apos) [] [] cpos) X.env) :: backTo pos (starEach [] X.env))) _ _ s
  refine Calls.spliced_cons ?_
  refine wpAny_Call_method (T := "dict") (id := "dict.values") hbase rfl hline F.plainAttrs_dict F.slot_dict_values F.type_dict_values (thn (he.run pins s σ H _ I hq) fun u s1 ⟨x, H1, I1, rx, d, kvs, ex, hd, q⟩ => ?_)
  subst ex
  obtain rfl : u = Value.ref d := rx
  obtain ⟨hz, hs0, xs, rel, o, es, ep, ho, hx, hdat, hen, hn⟩ := dt_of I1.hok hd
  have raw : s1.heap.DictRaw d es ep := ⟨o, ho, hx, hdat⟩
  have lk : kvs.length = xs.length := Paired.length rel
  have hsz : es.size = xs.length := by
    have := congrArg List.length hen
    rw [List.length_map] at this
    simpa using this
  have hty : s1.TypeIs (.ref d) "dict" := ⟨o, ho, hx.1⟩
  refine ⟨hty, fun a e => by cases e; exact ⟨o, ho, hx.2.1⟩, ?_⟩
  show wpAny _ _ (callWith cpos (.builtin "dict.values") [.ref d] [] []) _ X.xe s1
  refine method_meetsIn F.slot_dict_values F.entry_dict_values rfl (PySem.evalArgs_none ⟨rfl, hty, F.args_dict_values_1 _, _, meets_dict_values_raw d hs0, ⟨⟨es, ep, raw⟩, ?_⟩⟩)
  refine Calls.spliced_nil ?_
  have k0 : ∀ b ob, s1.heap.get? b = some ob → (s1.heap.push { cls := .type "dict_values", data := .fields #[.ref d] }).get? b = some ob := fun b ob q => Heap.get?_push_of_some _ q
  refine PySem.W.kdl_call (KdlSrc.rawValues (r := s1.heap.objs.size) (d := d) (es := es) (ep := ep)) (I1.ok.hd hc) ⟨⟨_, Heap.get?_push_size _ rfl, rfl, rfl⟩, ⟨o, k0 _ _ ho, hx, hdat⟩⟩ (by omega) fun h' tk acc c kp e' it => ?_
  have ea : acc.toList = xs.map fun x => x.2.2 := by
    have hl : acc.toList.length = xs.length := by rw [Array.length_toList, it.1]; exact hsz
    apply List.ext_getElem?
    intro j
    rw [List.getElem?_map]
    cases hj : acc.toList[j]? with
    | none =>
      have h1 := List.getElem?_eq_none_iff.mp hj
      rw [List.getElem?_eq_none (by omega)]
      rfl
    | some v =>
      obtain ⟨hi, hv2⟩ := it.2 j v (by rw [← Array.getElem?_toList]; exact hj)
      have h1 : es.toList[j]? = some es[j] := by rw [Array.getElem?_toList]; exact Array.getElem?_eq_getElem hi
      rw [hen, List.getElem?_map] at h1
      cases hb : xs[j]? with
      | none => rw [hb] at h1; cases h1
      | some b =>
        rw [hb] at h1
        have e2 : entryOfKey (tupleKind (mixKind X.prog X.w)) b = es[j] := Option.some.inj h1
        rw [hv2, ← e2]
        rfl
  have rv : Vals (kvs.map Prod.snd) acc.toList := by rw [ea]; exact vals_snd rel
  have hsz2 : (s1.heap.push { cls := .type "dict_values", data := .fields #[.ref d] }).objs.size = s1.heap.objs.size + 1 := by
    rw [Heap.size_push]
  have he2 : h'.get? (s1.heap.objs.size + 1) = some { cls := .type "list", dict := none, data := .seq acc c, slots := #[] } := by
    rw [← hsz2]
    exact e'
  show EP X pins σ Q (.ref (s1.heap.push { cls := .type "dict_values", data := .fields #[.ref d] }).objs.size) _
  rw [hsz2]
  refine ⟨.ref (s1.heap.objs.size + 1), _, I1.laid (t' := tk) (o := .lst (kvs.map Prod.snd)) (fun b o e => kp b o (k0 b o e)) (Nat.le_succ _) ?_, rfl, q _ (I1.hok.fresh (Nat.le_succ _))⟩
  exact ⟨by rw [List.length_map]; omega, acc.toList, c, rv, by rw [Array.toArray_toList]; exact he2⟩
end
end RgL
namespace Rg
open PySem PySem.Spec L2
open PyProof.Rows hiding St
section
variable {X : Cx}
theorem vals_rep {K : PySem.W.Frag} {w : Wd} {kvs : List (List Key × V)} {ds : List (List Ky × D)} (r : RepT K w kvs ds) : Reps K w (kvs.map Prod.snd) (ds.map (·.2)) := by
  induction r with
  | nil => exact .nil
  | cons h t ih => exact .cons h.2 ih
theorem pde_listVals {e : Expr} {f : M D} {p apos cpos pos : Pos} (hm : X.mg "list" = none) (he : PDE X e f) (hc : X.calm = true := by rfl) (hg : Gl X "list" := by rfl) (hbase : attributeBase e "values" X.env (eval e X.env) = eval e X.env := by rfl) (hline : (apos.endLine == cpos.line) = true := by rfl)
    (hs : starEach [.Call (.Attribute e "values" apos) [] [] cpos] X.env = (false, eval (.Call (.Attribute e "values" apos) [] [] cpos) X.env) :: starEach [] X.env := by rfl) :
    PDE X (.Call (.Name "list" p) [.Call (.Attribute e "values" apos) [] [] cpos] [] pos) (eUn opListVals f) := fun W tk =>
  (RgL.pe_listVals hc (he W tk) hg hm boot_list hbase hline hs).imp fun σ H Q ⟨B, w, env, L, S, R, h⟩ => by
    refine tE_bnd S R h fun w1 v H1 d L1 l1 S1 r1 h1 => ?_
    unfold opListVals at h1
    split at h1
    · rename_i n
      split at h1
      · rename_i ps hk
        obtain ⟨a, o, rfl, ha, h2, c⟩ := S1.dcell r1 hk
        cases c with
        | dT r => exact ⟨a, _, rfl, h2, new_list S1 (vals_rep r) h1⟩
      · exact h1.elim
    · exact h1.elim
end
end Rg
/-! Sn34: [x for x in d if d[x] == 'v'], d a dict whose keys are tuples. -/
namespace Rg
open PySem PySem.Spec L2
open PyProof.Rows hiding St
section
variable {X : Cx}
theorem paired_at {α β : Type} {F : α → β → Prop} {xs : List α} {ys : List β} (h : Paired F xs ys) {i : Nat} {x : α} (e : xs[i]? = some x) : ∃ y, ys[i]? = some y ∧ F x y := by
  induction h generalizing i with
  | nil => cases e
  | cons r t ih =>
    cases i with
    | zero => exact ⟨_, rfl, by have := Option.some.inj e; subst this; exact r⟩
    | succ i => exact ih e
theorem paired_snoc {α β : Type} {F : α → β → Prop} {xs : List α} {ys : List β} (h : Paired F xs ys) {x : α} {y : β} (r : F x y) : Paired F (xs ++ [x]) (ys ++ [y]) := by
  induction h with
  | nil => exact .cons r .nil
  | cons r' t ih => exact .cons r' ih
/-- the keys so far, at their addresses -/
def KeysAt (H : Hp) (as : List Addr) (ks : List (List Ky)) : Prop := Paired (fun (a : Addr) (k : List Ky) => H a = some (.tup ((k.map kx).map kV))) as ks
theorem keysAt_reps {K : PySem.W.Frag} {w : Wd} {H : Hp} {as : List Addr} {ks : List (List Ky)} (h : KeysAt H as ks) (hF : ∀ a ∈ as, w.F a = H a) (hk : ∀ k ∈ ks, k.all okK = true) : Reps K w (as.map V.ref) (ks.map fun k => .tup (k.map keyD)) := by
  induction h with
  | nil => exact .nil
  | cons r t ih =>
    refine .cons (.tup (vs := (List.map kx _).map kV) ?_ (keys_rep (hk _ List.mem_cons_self))) (ih (fun a ha => hF a (List.mem_cons_of_mem _ ha)) fun k hk' => hk k (List.mem_cons_of_mem _ hk'))
    rw [hF _ List.mem_cons_self]
    exact r
theorem keysAt_tup {H : Hp} {as : List Addr} {ks : List (List Ky)} (h : KeysAt H as ks) : ∀ a ∈ as, ∃ vs, H a = some (.tup vs) := by
  induction h with
  | nil => intro a ha; cases ha
  | cons r t ih =>
    intro a ha
    rcases List.mem_cons.mp ha with rfl | ha
    · exact ⟨_, r⟩
    · exact ih a ha
theorem keysEq_snoc (v : Tx) (ps us : List (List Ky × D)) (q : List Ky × D) : keysEq v ps (us ++ [q]) = keysEq v ps us ++ if lookK ps q.1 = some (.str v) then [q.1] else [] := by
  unfold keysEq
  rw [List.filter_append, List.map_append]
  congr 1
  by_cases h : lookK ps q.1 = some (.str v) <;> simp [h]
theorem upd_upd {H : Hp} {d D : Addr} {u o : HO} {l : HO} (hd : H d = some u) (hne : d ≠ D) : upd (upd (upd H d o) D l) d u = upd H D l := by
  funext b
  unfold upd
  by_cases h1 : b = d
  · subst h1
    rw [if_pos rfl, if_neg hne, hd]
  · rw [if_neg h1]
    by_cases h2 : b = D
    · rw [if_pos h2, if_pos h2]
    · rw [if_neg h2, if_neg h2, if_neg h1]
theorem pds_setKeysEq (i j k : Nat) {v : Tx} {z : Str} {y cx d : Str} {py p1 p2 p3 p4 p5 p6 p7 p8 pos spos : Pos} {kk : Nat} {scope : Scope} (hz : z = tx v) (hv : okT v = true) (hN : X.N.Nodup) (ok : BlkOk X.N X.env.scope scope [(cx, k)]) (hu : X.A.units + 1 < cLine)
    (hd : PE X (.Name d p3) (tVar j)) (hg : ∀ (s : Shared) (H : Hp) (C : Addr) (cl : List (Str × Addr)) (fp : List Addr), PG (X.blk s H scope (compEnvC scope cl C X.env) fp) (.Name cx p2) (gName k))
    (hd2 : ∀ (s : Shared) (H : Hp) (C : Addr) (cl : List (Str × Addr)) (fp : List Addr), PE (X.blk s H scope (compEnvC scope cl C X.env) fp) (.Name d p4) (tVar j))
    (hx1 : ∀ (s : Shared) (H : Hp) (C : Addr) (cl : List (Str × Addr)) (fp : List Addr), PE (X.blk s H scope (compEnvC scope cl C X.env) fp) (.Name cx p1) (tVar k))
    (hx2 : ∀ (s : Shared) (H : Hp) (C : Addr) (cl : List (Str × Addr)) (fp : List Addr), PE (X.blk s H scope (compEnvC scope cl C X.env) fp) (.Name cx p5) (tVar k))
    (hjk : j ≠ k := by decide) (hc : X.calm = true := by rfl) (hy : X.N[i]? = some y := by rfl) (hyl : X.env.scope.names.lookup y = some .local := by rfl)
    (hsw : swapsWith (.ListComp (.Name cx p1) [⟨.Name cx p2, .Name d p3, [.Compare (.Subscript (.Name d p4) (.Name cx p5) p6) [.Eq] [.Constant (.str z) kk p7] p8], 0⟩] scope pos) (some (.Name y py)) spos.line X.env = pure true := by exact sw_true rfl rfl rfl (by decide +kernel)) (hs : ∀ x, foldedSetIterable (.Name d p3) X.env x = pure x := by intro _; rfl) :
    PDS X (.Assign [.Name y py] (.ListComp (.Name cx p1) [⟨.Name cx p2, .Name d p3, [.Compare (.Subscript (.Name d p4) (.Name cx p5) p6) [.Eq] [.Constant (.str z) kk p7] p8], 0⟩] scope pos) spos) (sSet i (eKeysEq j k v)) := fun W tk => by
  subst hz
  refine PS.imp (L2.ps_lock (L2.ps_setLc (own := [(cx, k)]) (g := gName k) (tt := tTest (tOp rEq (tDGet (tVar j) (tVar k)) (tC (.str (tx v))))) (te := tVar k) hc hN hy hyl hsw (pi_keys hd) ok hg (fun s H C cl fp => pts_one (pt_cmpR (X := X.blk s H scope (compEnvC scope cl C X.env) fp) op_eq (pe_dget (X := X.blk s H scope (compEnvC scope cl C X.env) fp) hu (hd2 s H C cl fp) (hx2 s H C cl fp) (fun _ _ => rfl)) pe_str rfl)) hx1 hs)) fun E σ H ⟨B, w, env, L, S, R, h⟩ => ?_
  -- what the data function says
  rw [sSet_at] at h
  unfold eKeysEq at h
  by_cases hke : k < env.length
  case neg => rw [if_neg hke] at h; exact h.elim
  rw [if_pos hke, eVar_at] at h
  cases hj : env[j]? with
  | none => rw [hj] at h; exact h.elim
  | some oj =>
    cases oj with
    | none => rw [hj] at h; exact h.elim
    | some dd =>
      rw [hj] at h
      simp only [bnd_ok] at h
      obtain ⟨vj, hvj, rj⟩ := R.2 j dd hj
      unfold opKeysEq at h
      split at h
      · rename_i n
        split at h
        · rename_i ps hk
          split at h
          · rename_i hcond
            rw [Bool.and_eq_true, decide_eq_true_iff] at hcond
            obtain ⟨hlen, hall⟩ := hcond
            obtain ⟨a, o, rfl, ha, h2, c⟩ := S.dcell rj hk
            cases c with
            | @dT kvs _ r =>
              have hpl : kvs.length = ps.length := Paired.length r
              refine ⟨a, .dT kvs, h2, trivial, fun od => ?_⟩
              -- the walk over the keys
              refine ⟨_, hvj, a, od, rfl, .inr ⟨kvs, upd_same, fun D hD => ?_⟩⟩
              have hDa : a ≠ D := fun z => by rw [← z, upd_same] at hD; cases hD
              refine ⟨fun t m H' => ∃ as, t ≤ kvs.length ∧ m = kvs.length - t ∧ H' = upd (upd H a (.frz od (.dT kvs))) D (.lst (as.map V.ref)) ∧ KeysAt H as (keysEq v ps (ps.take t)), ⟨_, [], by omega, rfl, rfl, .nil⟩, ?_⟩
              rintro t m H' ⟨as, ht, rfl, rfl, hK⟩
              have hfr : upd (upd H a (.frz od (.dT kvs))) D (.lst (as.map V.ref)) a = some (.frz od (.dT kvs)) := by rw [upd_ne hDa, upd_same]
              rcases Nat.lt_or_ge t kvs.length with hlt | hge
              · right
                refine ⟨⟨hfr, hlt⟩, fun H2 => ∃ m', m' < kvs.length - t ∧ ∃ as, t + 1 ≤ kvs.length ∧ m' = kvs.length - (t + 1) ∧ H2 = upd (upd H a (.frz od (.dT kvs))) D (.lst (as.map V.ref)) ∧ KeysAt H as (keysEq v ps (ps.take (t + 1))), fun H2 h3 => h3, ?_⟩
                rintro x H2 ⟨rfl, key, val, q, hkv, rfl, hq⟩
                obtain ⟨pd, hpd, hrel⟩ := paired_at r hkv
                have hpm := List.mem_of_getElem? hpd
                have hpa := List.all_eq_true.mp hall pd hpm
                rw [Bool.and_eq_true] at hpa
                have hqD : q ≠ D := fun z => by rw [z, upd_same] at hq; cases hq
                have hqa : q ≠ a := fun z => by rw [z, hfr] at hq; cases hq
                have hqH : H q = some (.tup (key.map kV)) := by rw [upd_ne hqD, upd_ne hqa] at hq; exact hq
                have ht1 : ps.take (t + 1) = ps.take t ++ [pd] := by rw [List.take_add_one, hpd]; rfl
                have hσl : env.length = σ.length := R.1
                have hw2 : L2.wipe ((L2.wipe σ [k]).set k (some (.ref q))) [k] = L2.wipe σ [k] := by
                  rw [wipe_set (List.mem_cons_self)]
                  show (σ.set k none).set k none = σ.set k none
                  rw [List.set_set]
                refine ⟨hw2, ?_⟩
                have hvj2 : ((L2.wipe σ [k]).set k (some (V.ref q)))[j]? = some (some (V.ref a)) := by
                  show ((σ.set k none).set k (some (V.ref q)))[j]? = _
                  rw [List.getElem?_set_ne (Ne.symm hjk), List.getElem?_set_ne (Ne.symm hjk), hvj]
                have hvk2 : ((L2.wipe σ [k]).set k (some (V.ref q)))[k]? = some (some (V.ref q)) := by
                  show ((σ.set k none).set k (some (V.ref q)))[k]? = _
                  rw [List.getElem?_set_self (by rw [List.length_set]; omega)]
                have hkey : key = pd.1.map kx := hrel.1
                have hst := hpa.2
                unfold strAt at hst
                split at hst
                · rename_i s hlk
                  obtain ⟨v', hv', rv'⟩ := (lookK_rep (f := List.map kx) mapkx_inj r).2 _ hlk
                  cases rv' with
                  | str hs0 =>
                    refine ⟨_, hvj2, _, hvk2, a, _, rfl, .inr ⟨kvs, key, q, .inr ⟨od, hfr⟩, rfl, hq, by rw [hkey, hv']⟩, rfl, _, rfl, ?_⟩
                    have hdec : decide (V.str (tx s) = V.str (tx v)) = decide (s = v) := by
                      by_cases e : s = v
                      · rw [e]; simp
                      · rw [decide_eq_false e, decide_eq_false]
                        intro z
                        injection z with z
                        exact e (tx_inj z)
                    rw [hdec]
                    have hks := keysEq_snoc v ps (ps.take t) pd
                    by_cases e : s = v
                    · rw [decide_eq_true e]
                      dsimp only
                      rw [if_pos rfl]
                      subst e
                      rw [if_pos hlk] at hks
                      refine ⟨_, hvk2, as.map V.ref, upd_same, ?_, _, by omega, as ++ [q], by omega, rfl, ?_, ?_⟩
                      · have hal : as.length = (keysEq s ps (ps.take t)).length := Paired.length hK
                        have hkl : (keysEq s ps (ps.take t)).length ≤ ps.length := by
                          unfold keysEq
                          rw [List.length_map]
                          refine Nat.le_trans (List.length_filter_le _ _) ?_
                          rw [List.length_take]
                          omega
                        rw [List.length_map]
                        exact lt_line (m := 16000000) (by omega)
                      · rw [List.map_append]
                        funext b
                        unfold upd
                        split
                        · rfl
                        · rfl
                      · rw [ht1, hks]
                        exact paired_snoc hK (by rw [← hkey]; exact hqH)
                    · rw [decide_eq_false e]
                      dsimp only
                      rw [if_neg (by simp)]
                      have hne : ¬ lookK ps pd.1 = some (.str v) := by
                        rw [hlk]
                        intro z
                        injection z with z
                        injection z with z
                        exact e z
                      rw [if_neg hne, List.append_nil] at hks
                      exact ⟨_, by omega, as, by omega, rfl, rfl, by rw [ht1, hks]; exact hK⟩
                · cases hst
              · left
                refine ⟨⟨hfr, hge⟩, hfr, ?_⟩
                rw [upd_upd h2 hDa]
                rw [List.take_of_length_le (by omega)] at hK
                have hHD : H D = none := by rw [upd_ne (Ne.symm hDa)] at hD; exact hD
                obtain ⟨l2, S2⟩ := S.know as (fun b hb => by obtain ⟨vs, hh⟩ := keysAt_tup hK b hb; exact ⟨_, hh, .inl ⟨vs, rfl⟩⟩)
                have hok : ∀ ky ∈ keysEq v ps ps, ky.all okK = true := fun ky hky => by
                  unfold keysEq at hky
                  obtain ⟨p, hp, rfl⟩ := List.mem_map.mp hky
                  have := List.all_eq_true.mp hall p (List.mem_filter.mp hp).1
                  rw [Bool.and_eq_true] at this
                  exact this.1
                have rs := keysAt_reps (K := X.K) (w := ⟨fun a => if a ∈ as then H a else w.F a, w.io⟩) hK (fun b hb => if_pos hb) hok
                refine new_list (σ := σ) (W := W) (Q := fun u H' => E.nx (σ.set i (some u)) H') S2 rs (fun w' u H' l' S' r' => ?_) D hHD
                exact h w' _ H' (l2.trans l') S' ((R.mono (l2.trans l')).set i r')
          · exact h.elim
        · exact h.elim
      · exact h.elim
end
end Rg
/-! Sn35: {x[0]: True}, its key a tuple. -/
namespace RgL
open PySem PySem.Spec PyProof.Rows L2
section
variable {X : Cx}
theorem dictSet_tup {pins : List (Addr × Obj)} {σ : L2.St} {H : Hp} {s : Shared} {E : Value → Shared → Prop} {D b : Addr} {kvs : List (List Key × V)} {k : List Key} {v : V} {r : Value} {Q : Unit → Shared → Prop} (hu : X.A.units < cLine) (I : Inv X pins σ H s) (hD : H D = some (.dT kvs)) (hb : H b = some (.tup (k.map kV))) (hz : kvs.length < sizeLine)
    (rv : RelV v r) (h : ∀ s', Inv X pins σ (upd H D (.dT (putK kvs k v))) s' → Q () s') : wpAny (model X.prog X.w) X.A (dictSet D (.ref b) r) Q E s := by
  obtain ⟨z, hd, xs, rel, dd⟩ := dt_of I.hok hD
  have hx : xs.length ≤ sizeLine := by rw [← Paired.length rel]; exact z
  have hl : (putK kvs k v).length ≤ sizeLine := by have := length_putK kvs k v; omega
  refine wpAny_dictSet_heap (hsz := hx) hu (key_of I.hok hb) dd fun h' dd' hs => h _ ?_
  obtain ⟨q, es, ep, hq, h2, h3, h4, _, h5⟩ := dd'
  refine d_write I (by rw [hD]; exact True.intro) hs ⟨q, hq⟩ ⟨hl, hd, _, (rel.put k hb rv).keeps fun c ys ec => ?_, q, es, ep, hq, h2, h3, h4, h5⟩
  rw [upd_ne (ne_of ec hD (fun z => nomatch z))]
  exact ec
/-- {k: v}, k a tuple; the new dict stands empty while the two are made -/
def tDispT (tk tv : TE) : TE := fun σ H Q => ∀ p, H p = none → tk σ (upd H p (.dT [])) fun x H1 => tv σ H1 fun y H2 => H2 p = some (.dT []) ∧ ∃ (k : List Key) (b : Addr), x = .ref b ∧ H2 b = some (.tup (k.map kV)) ∧ Q (.ref p) (upd H2 p (.dT [(k, y)]))
theorem pe_dispT {ke ve : Expr} {tk tv : TE} {pos : Pos} (hu : X.A.units < cLine) (hk : PE X ke tk) (hv : PE X ve tv) : PE X (.Dict [some ke] [ve] pos) (tDispT tk tv) := by
  refine ⟨fun pins s σ H Q I q => ?_⟩
  have hn := I.hok.fresh (Nat.le_refl s.heap.objs.size)
  have I1 := I.laid (a := s.heap.objs.size) (o := .dT []) (h' := s.heap.push { cls := .type "dict", data := .dict #[] }) (t' := s.toks) (fun _ _ q => Heap.get?_push_of_some _ q) (Nat.le_refl _) (dt_empty s.heap I.big)
  refine wpAny_Dict_any rfl rfl (by simp) (by simp) ?_
  refine evalPairs_cons (thn (hk.run pins _ σ _ _ I1 (q _ hn)) fun u s1 ⟨x, H1, I2, rx, q1⟩ => ?_)
  refine wpAny_bind (thn (hv.run pins _ σ _ _ I2 q1) fun r s2 ⟨y, H2, I3, ry, hp, k, b, ex, hb, q2⟩ => ?_)
  refine wpAny_bind (wpAny_standAt (wpAny_pure ?_))
  refine evalPairs_nil ?_
  subst ex
  obtain rfl : u = Value.ref b := rx
  unfold storeAll
  rw [List.forIn_cons]
  refine wpAny_bind (wpAny_bind (dictSet_tup hu I3 hp hb (by rw [sizeLine_eq]; simp) ry fun s3 I4 => wpAny_pure ?_))
  dsimp only
  rw [List.forIn_nil]
  exact wpAny_pure ⟨.ref s.heap.objs.size, _, I4, rfl, q2⟩
end
end RgL
namespace Rg
open PySem PySem.Spec L2
open PyProof.Rows hiding St
section
variable {X : Cx}
theorem atI_first {α : Type} {x : α} {xs : List α} : L2.atI (x :: xs) 0 = some x := by
  have e : Rg.ixN (xs.length + 1) 0 = some 0 := by
    unfold Rg.ixN
    rw [if_pos (by omega), if_pos (by omega)]
    rfl
  rw [atI_eq]
  unfold Rg.atI
  rw [List.length_cons, e]
  rfl
theorem pde_disp1 (j : Nat) {y : Str} {p1 p2 p3 p4 pos : Pos} {k1 k2 : Nat} (hu : X.A.units + 1 < cLine) (hy : PE X (.Name y p1) (tVar j)) (hc : X.calm = true := by rfl) : PDE X (.Dict [some (.Subscript (.Name y p1) (.Constant (.int 0) k1 p2) p3)] [.Constant (.bool true) k2 p4] pos) (eDisp1 j) := fun W tk => by
  refine (RgL.pe_dispT (by omega) (pe_ix ix_seq hy (pe_int) (fun _ _ => rfl)) pe_bl).imp fun σ H Q ⟨B, w, env, L, S, R, h⟩ p hp => ?_
  unfold eDisp1 at h
  rw [eVar_at] at h
  cases hj : env[j]? with
  | none => rw [hj] at h; exact h.elim
  | some oj =>
    cases oj with
    | none => rw [hj] at h; exact h.elim
    | some dd =>
      rw [hj] at h
      simp only [bnd_ok] at h
      obtain ⟨vj, hvj, rj⟩ := R.2 j dd hj
      split at h
      · rename_i ks rest hlk
        obtain ⟨a, vs, rfl, h2, rs⟩ := S.look rj hlk
        split at h
        · rename_i kk hkk
          cases rs with
          | cons r1 rr =>
            cases r1 with
            | @tup b us ds hF ru =>
              have hus := keysOf_reps ru hkk
              subst hus
              have hbH := S.sub _ _ hF
              have hpa : p ≠ b := fun z => by rw [z, hbH] at hp; cases hp
              have hpl : p ≠ a := fun z => by rw [z, h2] at hp; cases hp
              refine ⟨_, hvj, .inl ⟨a, _, 0, .ref b, rfl, rfl, SqL.of (by rw [upd_ne (Ne.symm hpl)]; exact h2), atI_first, ?_⟩⟩
              refine ⟨upd_same, kk.map kx, b, rfl, by rw [upd_ne (Ne.symm hpa)]; exact hbH, ?_⟩
              have hupd : upd (upd H p (.dT [])) p (.dT [(kk.map kx, V.bl true)]) = upd H p (.dT [(kk.map kx, V.bl true)]) := by
                funext c
                unfold upd
                split <;> rfl
              rw [hupd]
              obtain ⟨l2, S2⟩ := S.alloc hp (CellR.dT (K := X.K) (mg := X.mg) (w := w) (kvs := [(kk.map kx, V.bl true)]) (ds := [(kk, D.bl true)]) (.cons ⟨rfl, .bl true⟩ .nil))
              exact h _ _ _ l2 S2 (.ref (by rw [← S.len]; simp))
        · exact h.elim
      · exact h.elim
end
end Rg
namespace Rg
open PySem PySem.Spec L2
open PyProof.Rows hiding St
/-! ### sorted(x), x a list of lists of numbers -/
theorem dataLe_lists : PySem.W.dataLe false (fun p : Nat × List Int => PyData.list (p.2.map .int)) = leLL := by
  funext p q
  have h1 : PySem.W.dataLe false (fun p : Nat × List Int => PyData.list (p.2.map .int)) p q = !PySem.W.dataLt (.list (q.2.map .int)) (.list (p.2.map .int)) := rfl
  rw [h1, PySem.W.dataLt_list]
  have h2 : PyProof.Rows.lexLt itemOrd (PySem.W.keyToksAll (q.2.map .int)) (PySem.W.keyToksAll (p.2.map .int)) = decide (q.2 < p.2) := PySem.W.dataLt_ints q.2 p.2
  rw [h2]
  unfold leLL leT
  by_cases h : q.2 < p.2
  · rw [decide_eq_true h, decide_eq_false (fun r => List.not_lt.mpr r h)]
    rfl
  · rw [decide_eq_false h, decide_eq_true (List.not_lt.mp h)]
    rfl
theorem mapM_listI {L : Hh} : ∀ {ds : List D} {ps : List (Nat × List Int)}, ds.mapM (listI L) = some ps → ds = ps.map (fun p => D.ref p.1) ∧ ∀ p ∈ ps, L[p.1]? = some (.lst (p.2.map .int))
  | [], ps, h => by
    simp at h
    subst h
    exact ⟨rfl, by simp⟩
  | d :: ds, ps, h => by
    rw [List.mapM_cons] at h
    have hd : ∀ d p, listI L d = some p → d = D.ref p.1 ∧ L[p.1]? = some (.lst (p.2.map .int)) := fun d p e => by
      cases d with
      | ref n =>
        unfold listI at e
        dsimp only at e
        split at e
        · rename_i xs hx
          obtain ⟨r, hr, rfl⟩ := Option.map_eq_some_iff.mp e
          have := mapM_keyI hr
          exact ⟨rfl, by rw [← this]; exact hx⟩
        · cases e
      | _ => cases e
    cases e1 : listI L d with
    | none => rw [e1] at h; simp at h
    | some r =>
      rw [e1] at h
      cases e2 : ds.mapM (listI L) with
      | none => rw [e2] at h; simp at h
      | some ms =>
        rw [e2] at h
        simp at h
        subst h
        obtain ⟨h1, h2⟩ := mapM_listI e2
        obtain ⟨h3, h4⟩ := hd d r e1
        refine ⟨by rw [h1, h3]; rfl, fun x hx => ?_⟩
        rcases List.mem_cons.mp hx with rfl | hx
        · exact h4
        · exact h2 x hx
section
variable {X : Cx}
theorem dp_ints {H : Hp} {w : Wd} : ∀ {vs : List V} {r : List Int}, Reps X.K w vs (r.map D.int) → DpAll X.K H vs (r.map PyData.int)
  | _, [], h => by
    cases h
    exact .nil
  | _, i :: r, h => by
    cases h with
    | cons h t =>
      cases h
      exact .cons (.int i) (dp_ints t)
theorem callD_sortL (hu : X.A.units + 64 < cLine) : Call1 X (.builtin "sorted") opSortL := fun B w σ W H L x d Q S rx q => by
  unfold opSortL at q
  split at q
  · rename_i ds e
    split at q
    · rename_i hl
      split at q
      · rename_i ps e2
        obtain ⟨ed, hp⟩ := mapM_listI e2
        subst ed
        rw [List.length_map] at hl
        obtain ⟨a, vs, rfl, h2, rs⟩ := S.look rx e
        refine ⟨_, call_sortD hu (w := w) (enc := fun p : Nat × List Int => D.ref p.1) (pd := fun p => PyData.list (p.2.map .int)) (bs := ps), a, vs, rfl, SqL.of h2, rs, hl, fun v b r hb => ?_, PySem.W.AllAlike.of fun b b' => ?_, PySem.W.Sortable.others fun _ => ⟨(fun z => nomatch z), fun _ z => nomatch z⟩, fun b _ => ?_, fun p us hp r => ?_⟩
        · obtain ⟨a', vs', rfl, h3, rs'⟩ := S.look (d := .ref b.1) r (ds := b.2.map D.int) (by simp only [Rg.look, hp b hb])
          exact .lst (SqL.of h3) (dp_ints rs')
        · simp only [PySem.W.alike]
          exact PySem.W.alike_ints b.2 b'.2
        · simp only [PyData.depth, depth_ints]
          omega
        · rw [dataLe_lists] at r
          exact new_list S r q p hp
      · exact q.elim
    · exact q.elim
  · exact q.elim
end
end Rg
/-! Sn37: a try, some of whose clauses name the exception. -/
namespace Rg
open PySem PySem.Spec L2
open PyProof.Rows hiding St
open HotX L2H
/-- a clause: its class, its name's slot, what its suite does -/
structure Clz where
  c : Value
  nm : Option Nat
  ts : Addr → Value → Option Addr → TS
/-- behind the suite the name is gone -/
def unE (i : Nat) (D : Ends) : Ends where
  nx := fun σ H => D.nx (σ.set i none) H
  rt := D.rt
  bk := fun σ H => D.bk (σ.set i none) H
  ct := fun σ H => D.ct (σ.set i none) H
def Clz.go (k : Clz) (D : Ends) (cls : Value) (d : Option Addr) (a : Addr) (σ : L2.St) (H : Hp) : Prop := match k.nm with
  | none => k.ts a cls d D σ H
  | some i => k.ts a cls d (unE i D) (σ.set i (some (.ref a))) H
def wMix (K : PySem.W.Frag) (Wo : WX) (D : Ends) : List Clz → WX
  | [] => Wo
  | k :: r => fun cls d σ H => ∃ b, PySem.W.exmOne K cls k.c = some b ∧ (b = true → ∀ a, H a = none → k.go D cls d a σ H) ∧ (b = false → wMix K Wo D r cls d σ H)
/-- a suite, whatever exception is in hand -/
def SuOk (X : Cx) (ss : List Stmt) (ts : Addr → Value → Option Addr → TS) : Prop := ∀ (a : Addr) (oe : Obj) (cls : Value) (d : Option Addr) (pn : List (Addr × Obj)), L2N.Zn cls d oe → (∃ vs, oe.data = .fields vs) → PSs (X.suite a ((a, oe) :: pn)) ss (ts a cls d)
inductive Mixd (X : Cx) : List ExceptHandler → List Clz → Prop
  | nil : Mixd X [] []
  | plain {x : Str} {c : Value} {ts : Addr → Value → Option Addr → TS} {b₀ : Stmt} {ss : List Stmt} {p1 p2 : Pos} {hds : List ExceptHandler} {l : List Clz} (hc : Names X x c) (su : SuOk X (b₀ :: ss) ts) (r : Mixd X hds l) :
      Mixd X (.ExceptHandler (some (.Name x p1)) none (b₀ :: ss) p2 :: hds) (⟨c, none, ts⟩ :: l)
  | named {x n : Str} {i : Nat} {c : Value} {ts : Addr → Value → Option Addr → TS} {b₀ : Stmt} {ss : List Stmt} {p1 p2 : Pos} {hds : List ExceptHandler} {l : List Clz} (hi : X.N[i]? = some n) (hln : X.env.kindOf n = some .local) (hc : Names X x c) (su : SuOk X (b₀ :: ss) ts) (r : Mixd X hds l) :
      Mixd X (.ExceptHandler (some (.Name x p1)) (some n) (b₀ :: ss) p2 :: hds) (⟨c, some i, ts⟩ :: l)
section
variable {X : Cx}
/-- what is known of the exception in hand, at a heap -/
structure InHand (X : Cx) (pins : List (Addr × Obj)) (σ : L2.St) (H : Hp) (sI : Shared) (B : Heap) (a : Addr) (cls : Value) (d : Option Addr) (s : Shared) : Prop where
  J : Inv X pins σ H sI
  nb : ∀ b o, sI.heap.get? b = some o → b ∉ frs X.stack → B.get? b = some o
  up : sI.heap.UpToSlots s.heap
  fl : HandSPX.FlyingZ B (X.env :: X.outer) a (L2N.Zn cls d) s.heap
  na : H a = none
  os : s.os = sI.os
  ag : AllBare s.gens
theorem InHand.inv {pins : List (Addr × Obj)} {σ : L2.St} {H : Hp} {sI s : Shared} {B : Heap} {a : Addr} {cls : Value} {d : Option Addr} (h : InHand X pins σ H sI B a cls d s) : Inv X pins σ H s := h.J.landed h.nb h.fl.1 h.up h.os h.ag
theorem InHand.moved {pins : List (Addr × Obj)} {σ : L2.St} {H : Hp} {sI s : Shared} {B : Heap} {a : Addr} {cls : Value} {d : Option Addr} (h : InHand X pins σ H sI B a cls d s) {h2 : Heap} (f2 : HandSPX.FlyingZ B (X.env :: X.outer) a (L2N.Zn cls d) h2) (u2 : s.heap.UpToSlots h2) : InHand X pins σ H sI B a cls d { s with heap := h2 } :=
  ⟨h.J, h.nb, h.up.trans u2, f2, h.na, h.os, h.ag⟩
/-- it lies apart from the frames -/
theorem InHand.apart (hf : X.env.frame = some X.env.locals) {pins : List (Addr × Obj)} {σ : L2.St} {H : Hp} {sI s : Shared} {B : Heap} {a : Addr} {cls : Value} {d : Option Addr} (h : InHand X pins σ H sI B a cls d s) : a ≠ X.env.locals ∧ a ∉ X.fs := by
  obtain ⟨oe, vs, he, _, hd⟩ := h.fl.there
  have key : a ∉ frs (X.env :: X.outer) := by
    intro hm
    obtain ⟨_, o2, e2, no⟩ := h.fl.2.2.1.mem hm
    cases he.symm.trans e2
    exact no vs hd
  constructor
  · rintro rfl
    exact key (List.mem_filterMap.mpr ⟨X.env, List.mem_cons_self, hf⟩)
  · intro hm
    obtain ⟨e, h1, h2⟩ := List.mem_filterMap.mp hm
    exact key (List.mem_filterMap.mpr ⟨e, List.mem_cons_of_mem _ h1, h2⟩)
theorem InHand.suite (hf : X.env.frame = some X.env.locals) {pins : List (Addr × Obj)} {σ : L2.St} {H : Hp} {sI s : Shared} {B : Heap} {a : Addr} {cls : Value} {d : Option Addr} (h : InHand X pins σ H sI B a cls d s) : ∃ oe, s.heap.get? a = some oe ∧ L2N.Zn cls d oe ∧ (∃ vs, oe.data = .fields vs) ∧ Inv (X.suite a ((a, oe) :: (X.pn ++ pins))) [] σ H s := by
  obtain ⟨oe, vs, he, hz, hd⟩ := h.fl.there
  obtain ⟨n1, n2⟩ := h.apart hf
  exact ⟨oe, he, hz, ⟨vs, hd⟩, h.inv.suite he hd h.na n1 n2⟩
/-- the clause's class, looked up and held against the exception's -/
theorem InHand.asks (hf : X.env.frame = some X.env.locals) {pins : List (Addr × Obj)} {σ : L2.St} {H : Hp} {sI s : Shared} {B : Heap} {a : Addr} {cls : Value} {d : Option Addr} (h : InHand X pins σ H sI B a cls d s) {x : Str} {c : Value} {p : Pos} (hc : Names X x c) {Q : Value → Shared → Prop} {E : Value → Shared → Prop} (q : Q c s) : wpAny (model X.prog X.w) (X.A.mark (some (.ref a))) (eval (.Name x p) X.env) Q E s := by
  obtain ⟨oe, he, _, _, S⟩ := h.suite hf
  obtain ⟨g1, g2, g3 | ⟨g3, g4, g5⟩⟩ := hc
  · exact ld_glob (X := X.suite a ((a, oe) :: (X.pn ++ pins))) S g1 g3 q g2
  · exact ld_blt (X := X.suite a ((a, oe) :: (X.pn ++ pins))) S g1 g3 g4 q g5 g2
/-- no clause takes it: it goes on -/
theorem InHand.goes (hs : X.stack = X.env :: X.outer) (hf : X.env.frame = some X.env.locals) {Wo : WX} (tk : L2N.Takes X Wo) {pins ps : List (Addr × Obj)} {σ : L2.St} {H : Hp} {sI s : Shared} {B : Heap} {a : Addr} {cls : Value} {d : Option Addr} {D : Ends} (h : InHand X ps σ H sI B a cls d s) (w : Wo cls d σ H) :
    wpAny (model X.prog X.w) X.A (handleBy (.ref a) X.env []) (SP X pins D) X.xe s := by
  refine wpAny_handleBy_nil ?_
  obtain ⟨_, _, _, oe, vs, T, _, _, he, _, hd, h1, _⟩ := id h.fl
  unfold PySem.passOn
  refine wpAny_bind (wpAny_field he hd h1 ?_)
  rw [if_neg (show ¬ ((Value.ref T == Value.none) = true) by simp)]
  have last : wpAny (model X.prog X.w) X.A (setFlight (.ref a) X.env.frame) (fun _ s2 => wpAny (model X.prog X.w) X.A (throw (.ref a) : Sem Flow) (SP X pins D) X.xe s2) X.xe s := by
    rw [hf]
    exact HandSPX.setFlight_upZ h.fl fun h2 held u2 => wpAny_throw (tk _ _ ⟨a, B, sI, ps, σ, H, cls, d, rfl, h.J, h.nb, h.up.trans u2, .inr (.inr (by rw [hs]; exact held)), h.na, h.os, h.ag, w⟩)
  first
    | exact wpAny_bind (wpAny_pure (wpAny_bind last))
    | exact wpAny_bind last
theorem InHand.mix (hs : X.stack = X.env :: X.outer) (hf : X.env.frame = some X.env.locals) (hN : X.N.Nodup) {Wo : WX} (tk : L2N.Takes X Wo) {pins : List (Addr × Obj)} {σ : L2.St} {H : Hp} {sI s : Shared} {B : Heap} {a : Addr} {cls : Value} {d : Option Addr} {D : Ends} (h : InHand X pins σ H sI B a cls d s) {hds : List ExceptHandler} {l : List Clz} (m : Mixd X hds l) :
    wMix X.K Wo D l cls d σ H → wpAny (model X.prog X.w) X.A (handleBy (.ref a) X.env hds) (SP X pins D) X.xe s := by
  have ok := h.inv.ok
  obtain ⟨oe, _, he, hz, _⟩ := h.fl.there
  have LT : PySem.W.Looks (model X.prog X.w) s.heap (typeOf (.ref a)) cls := fun A Q E s2 k q => wpAny_typeOf_ref (k _ _ he) (by rw [hz.1]; exact q)
  have kin := h.inv.kIn
  induction m with
  | nil => exact fun w => h.goes hs hf tk w
  | plain hc su r ih =>
    rintro ⟨b, hb, yes, no⟩
    refine wpAny_handleBy_cons (codeAny_handlers_test ?_) (by intro z; cases z)
    refine h.asks hf hc ((PySem.W.exm_one (M := model X.prog X.w) kin LT hb).here ?_)
    cases b with
    | false => exact ih (no rfl)
    | true =>
      refine codeAny_handlers_suite (HandSPX.lands_againZ h.fl fun h2 f2 u2 => ?_)
      obtain ⟨oe, he, hz, hd, S⟩ := (h.moved f2 u2).suite hf
      refine wpAny_mono ((su a oe cls d (X.pn ++ pins) hz hd).run [] _ σ H D S (yes rfl a h.na)) (fun f s2 hsp => ?_) (fun _ _ z => z.elim)
      cases f with
      | ret u => obtain ⟨v, σ2, H2, S2, r2, q2⟩ := hsp; exact ⟨v, σ2, H2, S2.unsuite ok, r2, q2⟩
      | _ => obtain ⟨σ2, H2, S2, q2⟩ := hsp; exact ⟨σ2, H2, S2.unsuite ok, q2⟩
  | @named x n i c ts b₀ ss p1 p2 hds l hi hln hc su r ih =>
    rintro ⟨b, hb, yes, no⟩
    refine wpAny_handleBy_cons (codeAny_handlers_test ?_) (by intro z; cases z)
    refine h.asks hf hc ((PySem.W.exm_one (M := model X.prog X.w) kin LT hb).here ?_)
    cases b with
    | false => exact ih (no rfl)
    | true =>
      refine codeAny_handlers_suite_as (HandSPX.lands_againZ h.fl fun h2 f2 u2 => ?_)
      obtain ⟨oe, he, hz, hd, S⟩ := (h.moved f2 u2).suite hf
      refine store_ok (X := X.suite a ((a, oe) :: (X.pn ++ pins))) (v := .ref a) S hN hi (.inl hln) rfl (fun s2 S2 => ?_) (.inr hln)
      refine wpAny_mono ((su a oe cls d (X.pn ++ pins) hz hd).run [] s2 _ H _ S2 (yes rfl a h.na)) (fun f s3 hsp => ?_) (fun _ _ z => z.elim)
      cases f with
      | ret u => obtain ⟨v, σ3, H3, S3, r3, q3⟩ := hsp; exact gone_ok (S3.unsuite ok) hN hi hln fun s4 J4 => ⟨v, _, H3, J4, r3, q3⟩
      | _ => obtain ⟨σ3, H3, S3, q3⟩ := hsp; exact gone_ok (S3.unsuite ok) hN hi hln fun s4 J4 => ⟨_, H3, J4, q3⟩
theorem ps_try_mix {body : List Stmt} {h₀ : ExceptHandler} {hds : List ExceptHandler} {l : List Clz} {pos : Pos} {tb : WX → TS} {Wo : WX} (hs : X.stack = X.env :: X.outer) (hf : X.env.frame = some X.env.locals) (hN : X.N.Nodup) (tk : L2N.Takes X Wo)
    (hb : ∀ (W : WX) (pn : List (Addr × Obj)) (xe : Value → Shared → Prop), L2N.Takes (X.tr pn xe) W → PassesOwn (model X.prog X.w) X.A X.env xe → PSs (X.tr pn xe) body (tb W)) (m : Mixd X (h₀ :: hds) l) :
    PS X (.Try body (h₀ :: hds) [] [] pos) (fun D σ H => tb (wMix X.K Wo D l) D σ H) := by
  refine ⟨fun pins s σ H D I h => wpAny_Try_except ?_⟩
  have fr : X.A.frames = some (X.env :: X.outer) := by rw [I.ok.frames, hs]
  refine wpAny_mono ((hb _ (X.pn ++ pins) (fun e s1 => wpAny (model X.prog X.w) X.A (noteFrame e X.env) (fun _ s2 => wpAny (model X.prog X.w) X.A (setFlight e none) (fun _ s3 => wpAny (model X.prog X.w) X.A (handleBy e X.env (h₀ :: hds)) (SP X pins D) X.xe s3) X.xe s2) X.xe s1)
    (fun u s1 xx => ?_) PassesOwn.looking).run [] s σ H D (I.toTry _) h) (fun f s1 hsp => ?_) (fun _ _ z => z)
  · obtain ⟨a, B, sI, ps, σ1, H1, cls, d, rfl, J, nb, up, sky, na, os, ag, w⟩ := xx
    have sky2 : L2.Sky B (X.env :: X.outer) a (L2N.Zn cls d) X.env.locals s1.heap := by rw [← hs]; exact sky
    refine L2N.Sky.land L2N.Zn.steady fr hf sky2 fun h2 f2 u2 => ?_
    exact InHand.mix (s := { s1 with heap := h2 }) hs hf hN tk ⟨J.ofTry I.ok, nb, up.trans u2, f2, na, os, ag⟩ m w
  · cases f with
    | next => obtain ⟨σ2, H2, J2, q2⟩ := hsp; exact wpAny_execs_nil ⟨σ2, H2, J2.ofTry I.ok, q2⟩
    | ret u => obtain ⟨v, σ2, H2, J2, r2, q2⟩ := hsp; exact ⟨v, σ2, H2, J2.ofTry I.ok, r2, q2⟩
    | _ => obtain ⟨σ2, H2, J2, q2⟩ := hsp; exact ⟨σ2, H2, J2.ofTry I.ok, q2⟩
/-! ### from the data -/
theorem plain_post {B : Bs} {w : Wd} {σ : L2.St} {H : Hp} {env : Env} {L : Hh} {W : WX} {D : Ends} {g : Sm} (S : StR X.K X.mg B w H L) (R : EnvR X.K w env σ) (q : PostS X.K X.mg B w W (plainS g env L) D) : tS1 X.K X.mg noW g D σ H := by
  refine ⟨B, w, env, L, S, R, ?_⟩
  unfold plainS at q
  revert q
  cases g env L with
  | none => exact fun q => q
  | some p =>
    obtain ⟨o, env1, L1⟩ := p
    cases o with
    | ex e => exact fun q => q.elim
    | _ => exact fun q => q
theorem named_post {B : Bs} {w : Wd} {σ : L2.St} {H : Hp} {env : Env} {L : Hh} {W : WX} {D : Ends} {g : String → Nat → Option Nat → Sm} {i : Nat} {e : Ex} {C1 : Addr} {dd : Option Addr} {a : Addr} (S : StR X.K X.mg B w H L) (R : EnvR X.K w env σ) (hx : ExR X.K X.mg w H (.ref C1) dd e) (q : PostS X.K X.mg B w W (namedS i g e env L) D) :
    tS1 X.K X.mg noW (g e.c a dd) (unE i D) (σ.set i (some (.ref a))) H := by
  obtain ⟨_, _, _, hfs⟩ := id hx
  unfold namedS at q
  rcases hfs with ⟨e1, rfl⟩ | ⟨p, fs, e1, rfl, hxp, hrf⟩
  · rw [e1] at q
    dsimp only at q
    have hne : hotS (suiteS g i e.c none [] env L) ≠ none := fun z => by rw [z] at q; exact q
    rw [← hotS_ne (a := a) hne] at q
    refine ⟨B, w, env.set i (some (.exn e.c [.int (a : Nat)])), L, S, R.set i .exn, ?_⟩
    unfold suiteS at q
    revert q
    cases g e.c a none (env.set i (some (.exn e.c [.int (a : Nat)]))) L with
    | none => exact fun h => h
    | some q =>
      obtain ⟨o2, env2, L2⟩ := q
      cases o2 with
      | ex e => exact fun h => h.elim
      | rt d => exact fun h w2 v2 H2 l2 S2 r2 => h w2 v2 H2 l2 S2 r2
      | _ => exact fun h w2 σ2 H2 l2 S2 R2 => h w2 _ H2 l2 S2 (R2.unset i)
  · revert q
    cases hh : e.fs with
    | nil => exact absurd hh e1
    | cons q r =>
      obtain ⟨fn, d⟩ := q
      cases r with
      | cons _ _ => exact fun h => h.elim
      | nil =>
        intro h
        dsimp only at h
        split at h
        · rename_i hpn
          rw [hh] at hrf
          obtain ⟨v, rfl, rv⟩ := repF_one hrf
          obtain ⟨l2, S2⟩ := S.know [p] (fun b hb => by have e := List.mem_singleton.mp hb; subst e; exact ⟨_, hxp, .inr ⟨_, rfl⟩⟩)
          have hne : hotS (fun dx => hotS (suiteS g i e.c (some dx) [.exn fn [.int (dx : Nat), d]] env L)) ≠ none := fun z => by rw [z] at h; exact h
          have hne2 : hotS (suiteS g i e.c (some p) [.exn fn [.int (p : Nat), d]] env L) ≠ none := fun z => hne (by rw [← hotS_ne (a := p) hne]; exact z)
          rw [← hotS_ne (a := p) hne, ← hotS_ne (a := a) hne2] at h
          refine ⟨B, _, env.set i (some (.exn e.c [.int (a : Nat), .exn fn [.int (p : Nat), d]])), L, S2, (R.mono l2).set i (.exf (fn := fn) (v := v) ?_ (rv.mono l2) hpn.1 hpn.2), ?_⟩
          · show (if p ∈ [p] then H p else w.F p) = _
            rw [if_pos List.mem_cons_self]
            exact hxp
          · unfold suiteS at h
            revert h
            cases g e.c a (some p) (env.set i (some (.exn e.c [.int (a : Nat), .exn fn [.int (p : Nat), d]]))) L with
            | none => exact fun h => h
            | some q =>
              obtain ⟨o2, env2, L2⟩ := q
              cases o2 with
              | ex e => exact fun h => h.elim
              | rt d => exact fun h w2 v2 H2 l3 S2 r2 => h w2 v2 H2 (l2.trans l3) S2 r2
              | _ => exact fun h w2 σ2 H2 l3 S2 R2 => h w2 _ H2 (l2.trans l3) S2 (R2.unset i)
        · exact h.elim
inductive PDMs (X : Cx) : List ExceptHandler → List Hm → Prop
  | nil : PDMs X [] []
  | plain {x : Str} {cs : String} {tab : List (String × Bool)} {b₀ : Stmt} {suite : List Stmt} {g : Sm} {np pos' : Pos} {hds : List ExceptHandler} {h : List Hm} (d : HExc X.K X.mg cs tab)
      (hsu : ∀ (a : Addr) (oe : Obj) (pn : List (Addr × Obj)), PDSs (X.suite a ((a, oe) :: pn)) (b₀ :: suite) g) (r : PDMs X hds h) (hx : x = Str.ofString cs := by rfl) (hg : Gl X x := by rfl) (hdb : (x == ("__debug__" : Str)) = false := by decide) :
      PDMs X (.ExceptHandler (some (.Name x np)) none (b₀ :: suite) pos' :: hds) (.pl tab g :: h)
  | named {x n : Str} {cs : String} {tab : List (String × Bool)} {b₀ : Stmt} {suite : List Stmt} {g : String → Nat → Option Nat → Sm} {np pos' : Pos} {hds : List ExceptHandler} {h : List Hm} (i : Nat) (d : HExc X.K X.mg cs tab)
      (hsu : ∀ (a : Addr) (oe : Obj) (pn : List (Addr × Obj)) (c : String) (z : Option Nat), PinX X.K X.mg (a, oe) c z → PDSs (X.suite a ((a, oe) :: pn)) (b₀ :: suite) (g c a z)) (r : PDMs X hds h) (hi : X.N[i]? = some n := by rfl) (hln : X.env.kindOf n = some .local := by rfl) (hx : x = Str.ofString cs := by rfl) (hg : Gl X x := by rfl) (hdb : (x == ("__debug__" : Str)) = false := by decide) :
      PDMs X (.ExceptHandler (some (.Name x np)) (some n) (b₀ :: suite) pos' :: hds) (.nm tab i g :: h)
theorem PDMs.many {hds : List ExceptHandler} {h : List Hm} (ph : PDMs X hds h) : ∃ l, Mixd X hds l ∧ ∀ (B : Bs) (w : Wd) (W : WX) (D : Ends) (cls : Value) (dd : Option Addr) (σ : L2.St) (H : Hp) (e : Ex) (env : Env) (L : Hh), StR X.K X.mg B w H L → EnvR X.K w env σ → ExR X.K X.mg w H cls dd e →
    PostS X.K X.mg B w W (hmGo e env L h) D → wMix X.K W D l cls dd σ H := by
  induction ph with
  | nil => exact ⟨[], .nil, fun B w W D cls dd σ H e env L S R x h => h w σ H cls dd (Wd.le.refl _) S R x⟩
  | @plain x cs tab b₀ suite g np pos' hds h d hsu r hx hg hdb ih =>
    obtain ⟨l, hl, ih⟩ := ih
    obtain ⟨C, hC, ht⟩ := d.ex
    subst hx
    refine ⟨⟨.ref C, none, fun _ _ _ => tS1 X.K X.mg noW g⟩ :: l, .plain ⟨hg, hdb, .inl hC⟩ (fun a oe cls d pn _ _ => hsu a oe pn noW takes_no) hl, fun B w W D cls dd σ H e env L S R x q => ?_⟩
    obtain ⟨C1, h1, rfl, _⟩ := id x
    unfold hmGo at q
    cases ht1 : tab.lookup e.c with
    | none => rw [ht1] at q; exact q.elim
    | some b =>
      rw [ht1] at q
      refine ⟨b, ht _ (lookup_mem ht1) C1 h1, fun hb a ha => ?_, fun hb => ?_⟩
      · subst hb
        exact plain_post S R q
      · subst hb
        exact ih B w W D _ dd σ H e env L S R x q
  | @named x n cs tab b₀ suite g np pos' hds h i d hsu r hi hln hx hg hdb ih =>
    obtain ⟨l, hl, ih⟩ := ih
    obtain ⟨C, hC, ht⟩ := d.ex
    subst hx
    refine ⟨⟨.ref C, some i, fun a cls dd D σ H => ∃ c C1, cls = .ref C1 ∧ X.mg (Str.ofString c) = some (.ref C1) ∧ tS1 X.K X.mg noW (g c a dd) D σ H⟩ :: l, .named hi hln ⟨hg, hdb, .inl hC⟩ (fun a oe cls dd pn hz hf => ⟨fun pins s σ H D I h => ?_⟩) hl, fun B w W D cls dd σ H e env L S R x q => ?_⟩
    · obtain ⟨c, C1, rfl, hm, h⟩ := h
      exact (hsu a oe pn c dd ⟨C1, hm, hz, hf⟩ noW takes_no).run pins s σ H D I h
    · obtain ⟨C1, h1, rfl, _⟩ := id x
      unfold hmGo at q
      cases ht1 : tab.lookup e.c with
      | none => rw [ht1] at q; exact q.elim
      | some b =>
        rw [ht1] at q
        refine ⟨b, ht _ (lookup_mem ht1) C1 h1, fun hb a ha => ?_, fun hb => ?_⟩
        · subst hb
          exact ⟨e.c, C1, rfl, h1, named_post S R x q⟩
        · subst hb
          exact ih B w W D _ dd σ H e env L S R x q
theorem pds_tryMx {body : List Stmt} {h₀ : ExceptHandler} {hds : List ExceptHandler} {pos : Pos} {b : Sm} {hs : List Hm} (hb : ∀ (pn : List (Addr × Obj)) (xe : Value → Shared → Prop), PassesOwn (model X.prog X.w) X.A X.env xe → PDSs (X.tr pn xe) body b) (hh : PDMs X (h₀ :: hds) hs) (hN : X.N.Nodup)
    (hst : X.stack = X.env :: X.outer := by rfl) (hf : X.env.frame = some X.env.locals := by rfl) : PDS X (.Try body (h₀ :: hds) [] [] pos) (sTryMx b hs) := fun W tk => by
  obtain ⟨l, hl, hm⟩ := hh.many
  refine (ps_try_mix (tb := fun W => tS1 X.K X.mg W b) hst hf hN tk (fun W' pn xe tk' hp => hb pn xe hp W' tk') hl).imp fun D σ H ⟨B, w, env, L, S, R, h⟩ => ?_
  refine ⟨B, w, env, L, S, R, ?_⟩
  unfold sTryMx at h
  revert h
  cases b env L with
  | none => exact fun h => h
  | some p =>
    obtain ⟨o, env1, L1⟩ := p
    cases o with
    | ex e => exact fun h w1 σ1 H1 cls dd l1 S1 R1 x => hm B w1 W D cls dd σ1 H1 e env1 L1 S1 R1 x (h.le l1)
    | _ => exact fun h => h
end
end Rg
namespace Rg

noncomputable def c_cross : Sm := sRet (eChain (eBin opIx (eVar 0) (eC (.int 0))) (chMore opLt (eBin opIx (eVar 1) (eC (.int 0))) (chMore opLt (eBin opIx (eVar 0) (eC (.int 1))) (chEnd opLt (eBin opIx (eVar 1) (eC (.int 1)))))))
noncomputable def m_cross : Fn := run 2 c_cross
noncomputable def c_crossing : Sm := sSeq (sFor (iSeq (eVar 0)) (gVar 1) (sFor (iSeq (eVar 0)) (gVar 2) (sIf (tVal (eCall 2 m_cross (aCons (eVar 1) (aCons (eVar 2) (aNil))))) (sRet (eTup (aCons (eVar 1) (aCons (eVar 2) (aNil))))) (sNil))))
    (sRet (eC .non))
noncomputable def m_crossing : Fn := run 3 c_crossing
noncomputable def c_is_whole : Sm := sRet (eAnd (eUn (opIsTy .int) (eVar 0)) (eNot (eUn (opIsTy .bool) (eVar 0))))
noncomputable def m_is_whole : Fn := run 1 c_is_whole
noncomputable def c_is_word : Sm := sSeq (sIf (tOr (tNot (tVal (eUn (opIsTy .str) (eVar 0)))) (tVal (eBin opGt (eUn opLen (eVar 0)) (eC (.int 40))))) (sRet (eC (.bl false))) (sNil))
    (sSeq (sSet 1 (eC (.int 0)))
    (sSeq (sFor (iSeq (eVar 0)) (gVar 2) (sSeq (sIf (tVal (eBin opEq (eVar 2) (eC (.str [40])))) (sAug 1 opAddI (eC (.int 1))) (sIf (tVal (eBin opEq (eVar 2) (eC (.str [41])))) (sAug 1 opSub (eC (.int 1))) (sRet (eC (.bl false)))))
    (sIf (tVal (eBin opLt (eVar 1) (eC (.int 0)))) (sRet (eC (.bl false))) (sNil))))
    (sRet (eBin opEq (eVar 1) (eC (.int 0))))))
noncomputable def m_is_word : Fn := run 3 c_is_word
noncomputable def c_pairs : Sm := sSeq (sIf (tNot (tVal (eCall 1 m_is_word (aCons (eVar 0) (aNil))))) (sRaise "NoWord") (sNil))
    (sSeq (sSet 1 (eLst (aNil)))
    (sSeq (sSet 2 (eLst (aNil)))
    (sSeq (sFor (iRange1 (eUn opLen (eVar 0))) (gVar 3) (sIf (tVal (eBin opEq (eBin opIx (eVar 0) (eVar 3)) (eC (.str [40])))) (sExpr (eMtL mAppend (eVar 2) (aCons (eVar 3) (aNil)))) (sExpr (eMtL mAppend (eVar 1) (aCons (eTup (aCons (eMtL mPop (eVar 2) aNil) (aCons (eVar 3) (aNil)))) (aNil))))))
    (sRet (eUn opSorted (eVar 1))))))
noncomputable def m_pairs : Fn := run 4 c_pairs
noncomputable def c_are_bows : Sm := sSeq (sIf (tOr (tNot (tVal (eUn (opIsTy .list) (eVar 0)))) (tVal (eBin opGt (eUn opLen (eVar 0)) (eBin opDiv (eC (.int 40)) (eC (.int 2)))))) (sRet (eC (.bl false))) (sNil))
    (sSeq (sFor (iSeq (eVar 0)) (gVar 1) (sSeq (sIf (tOr (tNot (tVal (eUn (opIsTy .tuple) (eVar 1)))) (tVal (eBin opNe (eUn opLen (eVar 1)) (eC (.int 2))))) (sRet (eC (.bl false))) (sNil))
    (sIf (tOr (tNot (tVal (eCall 1 m_is_whole (aCons (eBin opIx (eVar 1) (eC (.int 0))) (aNil))))) (tOr (tNot (tVal (eCall 1 m_is_whole (aCons (eBin opIx (eVar 1) (eC (.int 1))) (aNil))))) (tVal (eBin opGe (eBin opIx (eVar 1) (eC (.int 0))) (eBin opIx (eVar 1) (eC (.int 1))))))) (sRet (eC (.bl false))) (sNil))))
    (sRet (eC (.bl true))))
noncomputable def m_are_bows : Fn := run 2 c_are_bows
noncomputable def c_word_of : Sm := sSeq (sIf (tNot (tVal (eCall 1 m_are_bows (aCons (eVar 0) (aNil))))) (sRaise "NoWord") (sNil))
    (sSeq (sSet 1 (eLst (aNil)))
    (sSeq (sFor (iSeq (eVar 0)) (gVar 2) (sSet 1 (eBin opAdd (eVar 1) (eLst (aCons (eBin opIx (eVar 2) (eC (.int 0))) (aCons (eBin opIx (eVar 2) (eC (.int 1))) (aNil)))))))
    (sSeq (sIf (tVal (eBin opNe (eUn opSorted (eVar 1)) (eListR (eC (.int 0)) (eUn opLen (eVar 1))))) (sRaise "NoWord") (sNil))
    (sSeq (sSet 3 (eLc [5] (iSeq (eVar 1)) (gVar 5) (tTrue) (eC (.str [41]))))
    (sSeq (sFor (iSeq (eVar 0)) (gVar 2) (sAsg (eC (.str [40])) (gSub (eVar 3) (eBin opIx (eVar 2) (eC (.int 0))))))
    (sSeq (sSet 4 (eMtS mJoin (eC (.str [])) (eVar 3)))
    (sSeq (sIf (tVal (eBin opNe (eCall 1 m_pairs (aCons (eVar 4) (aNil))) (eUn opSorted (eVar 0)))) (sRaise "NoWord") (sNil))
    (sRet (eVar 4)))))))))
noncomputable def m_word_of : Fn := run 6 c_word_of
noncomputable def c_turned_two : Sm := sSeq (sIf (tVal (eBin opLt (eBin opIx (eVar 1) (eC (.int 1))) (eBin opIx (eVar 0) (eC (.int 1))))) (sRet (eLst (aCons (eTup (aCons (eBin opIx (eVar 0) (eC (.int 0))) (aCons (eBin opIx (eVar 1) (eC (.int 0))) (aNil)))) (aCons (eTup (aCons (eBin opIx (eVar 1) (eC (.int 1))) (aCons (eBin opIx (eVar 0) (eC (.int 1))) (aNil)))) (aNil))))) (sNil))
    (sRet (eLst (aCons (eTup (aCons (eBin opIx (eVar 0) (eC (.int 0))) (aCons (eBin opIx (eVar 1) (eC (.int 1))) (aNil)))) (aCons (eTup (aCons (eBin opIx (eVar 0) (eC (.int 1))) (aCons (eBin opIx (eVar 1) (eC (.int 0))) (aNil)))) (aNil)))))
noncomputable def m_turned_two : Fn := run 2 c_turned_two
noncomputable def c_turned : Sm := sSeq (sSet 3 (eCall 1 m_pairs (aCons (eVar 0) (aNil))))
    (sSeq (sIf (tOr (tNot (tVal (eCall 1 m_is_whole (aCons (eVar 1) (aNil))))) (tOr (tNot (tVal (eCall 1 m_is_whole (aCons (eVar 2) (aNil))))) (tNot (tVal (eChain (eC (.int 0)) (chMore opLe (eVar 1) (chMore opLt (eVar 2) (chEnd opLt (eUn opLen (eVar 3)))))))))) (sRaise "NoBow") (sNil))
    (sSeq (sSet 4 (eBin opAdd (eLc [6] (iRange1 (eUn opLen (eVar 3))) (gVar 6) (tAnd (tVal (eBin opNe (eVar 6) (eVar 1))) (tVal (eBin opNe (eVar 6) (eVar 2)))) (eBin opIx (eVar 3) (eVar 6))) (eCall 2 m_turned_two (aCons (eBin opIx (eVar 3) (eVar 1)) (aCons (eBin opIx (eVar 3) (eVar 2)) (aNil))))))
    (sSeq (sSet 5 (eCall 1 m_crossing (aCons (eVar 4) (aNil))))
    (sSeq (sIf (tVal (eBin opIsNot (eVar 5) (eC .non))) (sRaiseF "Crossed" "bows" (eVar 5)) (sNil))
    (sRet (eCall 1 m_word_of (aCons (eVar 4) (aNil))))))))
noncomputable def m_turned : Fn := run 7 c_turned
noncomputable def c__law_alone (c : String) (a : Nat) (z : Option Nat) : Sm := sSeq (sSet 1 (eLst (aCons (eUn (opIsP c a z [("NoWord", false), ("NoBow", false), ("Crossed", false)]) (eVar 0)) (aCons (eUn (opIsP c a z [("NoWord", false), ("NoBow", false), ("Crossed", true)]) (eVar 0)) (aCons (eUn (opIsP c a z [("NoWord", true), ("NoBow", false), ("Crossed", false)]) (eVar 0)) (aCons (eUn (opIsP c a z [("NoWord", false), ("NoBow", false), ("Crossed", false)]) (eVar 0)) (aNil)))))))
    (sSeq (sSet 1 (eBin opAdd (eVar 1) (eLst (aCons (eUn (opIsP c a z [("NoWord", false), ("NoBow", true), ("Crossed", false)]) (eVar 0)) (aCons (eUn (opIsP c a z [("NoWord", false), ("NoBow", false), ("Crossed", false)]) (eVar 0)) (aCons (eUn (opIsP c a z [("NoWord", false), ("NoBow", false), ("Crossed", false)]) (eVar 0)) (aCons (eUn (opIsP c a z [("NoWord", false), ("NoBow", false), ("Crossed", false)]) (eVar 0)) (aNil))))))))
    (sSeq (sSet 1 (eBin opAdd (eVar 1) (eLst (aCons (eUn (opIsP c a z [("NoWord", false), ("NoBow", false), ("Crossed", false)]) (eVar 0)) (aCons (eUn (opIsP c a z [("NoWord", false), ("NoBow", false), ("Crossed", false)]) (eVar 0)) (aCons (eNot (eUn (opIsP c a z [("NoWord", true), ("NoBow", true), ("Crossed", true)]) (eVar 0))) (aNil)))))))
    (sRet (eAnd (eBin opEq (eUn opLen (eLc [2] (iLs (eVar 1)) (gVar 2) (tVal (eVar 2)) (eVar 2))) (eC (.int 1))) (eNot (eBin opIx (eVar 1) (eC (.int 10))))))))
noncomputable def m__law_alone (c : String) (a : Nat) (z : Option Nat) : Fn := run 3 (c__law_alone c a z)
noncomputable def c__law_cell_at : Sm := sSeq (sIf (tVal (eBin opLt (eVar 1) (eUn opLen (eVar 0)))) (sRet (eBin opIx (eVar 0) (eVar 1))) (sNil))
    (sRet (eBin opAdd (eBin opMul (eC (.int 7)) (eVar 1)) (eC (.int 4))))
noncomputable def m__law_cell_at : Fn := run 2 c__law_cell_at
noncomputable def c__law_digits : Sm := sSeq (sSet 2 (eBin opDiv (eVar 0) (eC (.int 2))))
    (sSeq (sIf (tOr (tVal (eBin opEq (eBin opMod (eVar 0) (eC (.int 2))) (eC (.int 0)))) (tVal (eBin opLt (eVar 0) (eBin opPow (eC (.int 10)) (eC (.int 12)))))) (sSeq (sSet 2 (eC (.int 1)))
    (sFor (iRange1 (eC (.int 9))) (gVar 4) (sSet 2 (eBin opAdd (eBin opMul (eVar 2) (eC (.int 65537))) (eBin opMod (eBin opMul (eBin opMod (eBin opMul (eBin opAdd (eVar 0) (eBin opMul (eVar 4) (eVar 4))) (eC (.int 48271))) (eC (.int 1000003))) (eC (.int 69621))) (eC (.int 999983))))))) (sNil))
    (sSeq (sSet 3 (eLst (aNil)))
    (sSeq (sFor (iRange1 (eVar 1)) (gVar 4) (sSeq (sExpr (eMtL mAppend (eVar 3) (aCons (eBin opMod (eVar 2) (eC (.int 5040))) (aNil))))
    (sSet 2 (eBin opDiv (eVar 2) (eC (.int 5040))))))
    (sRet (eVar 3)))))
noncomputable def m__law_digits : Fn := run 5 c__law_digits
noncomputable def c__law_word : Sm := sSeq (sSet 2 (eCall 2 m__law_digits (aCons (eVar 0) (aCons (eVar 1) (aNil)))))
    (sSeq (sSet 3 (eC (.str [])))
    (sSeq (sSet 4 (eC (.int 0)))
    (sSeq (sFor (iRange1 (eVar 1)) (gVar 5) (sIf (tOr (tVal (eBin opEq (eVar 4) (eC (.int 0)))) (tAnd (tVal (eBin opLt (eVar 4) (eBin opSub (eVar 1) (eVar 5)))) (tVal (eBin opEq (eBin opMod (eBin opIx (eVar 2) (eVar 5)) (eC (.int 2))) (eC (.int 0)))))) (sSeq (sSet 3 (eBin opAdd (eVar 3) (eC (.str [40]))))
    (sSet 4 (eBin opAdd (eVar 4) (eC (.int 1))))) (sSeq (sSet 3 (eBin opAdd (eVar 3) (eC (.str [41]))))
    (sSet 4 (eBin opSub (eVar 4) (eC (.int 1)))))))
    (sRet (eVar 3)))))
noncomputable def m__law_word : Fn := run 6 c__law_word
noncomputable def c__law_across : Sm := sSeq (sSet 1 (eDictK))
    (sSeq (sSet 2 (eLst (aNil)))
    (sSeq (sFor (iRange1 (eUn opLen (eVar 0))) (gVar 3) (sIf (tVal (eBin opEq (eBin opIx (eVar 0) (eVar 3)) (eC (.str [40])))) (sExpr (eMtL mAppend (eVar 2) (aCons (eVar 3) (aNil)))) (sSeq (sAsg (eMtL mPop (eVar 2) aNil) (gSub (eVar 1) (eVar 3)))
    (sAsg (eVar 3) (gSub (eVar 1) (eBin opIx (eVar 1) (eVar 3)))))))
    (sRet (eVar 1))))
noncomputable def m__law_across : Fn := run 4 c__law_across
noncomputable def c__law_said : Sm := sTryMx (sRet (eTup (aCons (eC (.str [116, 111, 108, 100])) (aCons (eCall 3 m_turned (aCons (eVar 0) (aCons (eVar 1) (aCons (eVar 2) (aNil))))) (aNil))))) [.nm [("NoWord", false), ("NoBow", false), ("Crossed", true)] 3 (fun c a z => sRet (eTup (aCons (eC (.str [99, 114, 111, 115, 115, 101, 100])) (aCons (eUn (opFld c a z ["Crossed"] "bows") (eVar 3)) (aNil))))), .pl [("NoWord", true), ("NoBow", false), ("Crossed", false)] (sRet (eTup (aCons (eC (.str [119, 111, 114, 100])) (aCons (eC .non) (aNil))))), .pl [("NoWord", false), ("NoBow", true), ("Crossed", false)] (sRet (eTup (aCons (eC (.str [98, 111, 119])) (aCons (eC .non) (aNil)))))]
noncomputable def m__law_said : Fn := run 4 c__law_said
noncomputable def c__law_by_any : Sm := sSeq (sTryAs (sExpr (eCall 3 m_turned (aCons (eVar 0) (aCons (eVar 1) (aCons (eVar 2) (aNil)))))) [("NoWord", true), ("NoBow", true), ("Crossed", true)] 3 (fun c a z => sRet (eCall 1 (m__law_alone c a z) (aCons (eVar 3) (aNil)))))
    (sRet (eC (.bl false)))
noncomputable def m__law_by_any : Fn := run 4 c__law_by_any
noncomputable def c__law_bows_of : Sm := sSeq (sSet 1 (eCall 1 m__law_across (aCons (eVar 0) (aNil))))
    (sRet (eLc [2] (iRange1 (eUn opLen (eVar 0))) (gVar 2) (tVal (eBin opEq (eBin opIx (eVar 0) (eVar 2)) (eC (.str [40])))) (eTup (aCons (eVar 2) (aCons (eBin opIx (eVar 1) (eVar 2)) (aNil))))))
noncomputable def m__law_bows_of : Fn := run 3 c__law_bows_of
noncomputable def c__law_after : Sm := sSeq (sAsg (eBin opIx (eVar 0) (eVar 1)) (gTup 2 (gCons (gVar 4) (gCons (gVar 5) (gNil)))))
    (sSeq (sAsg (eBin opIx (eVar 0) (eVar 2)) (gTup 2 (gCons (gVar 6) (gCons (gVar 7) (gNil)))))
    (sSeq (sSet 3 (eLc [8] (iRange1 (eUn opLen (eVar 0))) (gVar 8) (tAnd (tVal (eBin opNe (eVar 8) (eVar 1))) (tVal (eBin opNe (eVar 8) (eVar 2)))) (eBin opIx (eVar 0) (eVar 8))))
    (sSeq (sIf (tVal (eBin opLt (eVar 7) (eVar 5))) (sRet (eBin opAdd (eVar 3) (eLst (aCons (eTup (aCons (eVar 4) (aCons (eVar 6) (aNil)))) (aCons (eTup (aCons (eVar 7) (aCons (eVar 5) (aNil)))) (aNil)))))) (sNil))
    (sRet (eBin opAdd (eVar 3) (eLst (aCons (eTup (aCons (eVar 4) (aCons (eVar 7) (aNil)))) (aCons (eTup (aCons (eVar 5) (aCons (eVar 6) (aNil)))) (aNil)))))))))
noncomputable def m__law_after : Fn := run 9 c__law_after
noncomputable def c__law_crossing : Sm := sSeq (sSet 1 (eLst (aNil)))
    (sSeq (sFor (iSeq (eVar 0)) (gTup 2 (gCons (gVar 2) (gCons (gVar 3) (gNil)))) (sFor (iSeq (eVar 0)) (gTup 2 (gCons (gVar 4) (gCons (gVar 5) (gNil)))) (sIf (tVal (eChain (eVar 2) (chMore opLt (eVar 4) (chMore opLt (eVar 3) (chEnd opLt (eVar 5)))))) (sExpr (eMtL mAppend (eVar 1) (aCons (eTup (aCons (eTup (aCons (eVar 2) (aCons (eVar 3) (aNil)))) (aCons (eTup (aCons (eVar 4) (aCons (eVar 5) (aNil)))) (aNil)))) (aNil)))) (sNil))))
    (sRet (eVar 1)))
noncomputable def m__law_crossing : Fn := run 6 c__law_crossing
noncomputable def c__law_text : Sm := sSeq (sSet 2 (eLc [5] (iRange1 (eVar 1)) (gVar 5) (tTrue) (eC (.str [41]))))
    (sSeq (sFor (iSeq (eVar 0)) (gTup 2 (gCons (gVar 3) (gCons (gVar 4) (gNil)))) (sAsg (eC (.str [40])) (gSub (eVar 2) (eVar 3))))
    (sRet (eMtS mJoin (eC (.str [])) (eVar 2))))
noncomputable def m__law_text : Fn := run 6 c__law_text
noncomputable def c_law : Sm := sSeq (sSet 1 (eBin opMul (eC (.int 2)) (eBin opMod (eCall 2 m__law_cell_at (aCons (eVar 0) (aCons (eC (.int 0)) (aNil)))) (eC (.int 13)))))
    (sSeq (sIf (tVal (eBin opEq (eBin opMod (eBin opDiv (eCall 2 m__law_cell_at (aCons (eVar 0) (aCons (eC (.int 0)) (aNil)))) (eC (.int 13))) (eC (.int 6))) (eC (.int 1)))) (sSet 1 (eBin opAdd (eC (.int 26)) (eBin opMul (eC (.int 2)) (eBin opMod (eBin opDiv (eCall 2 m__law_cell_at (aCons (eVar 0) (aCons (eC (.int 0)) (aNil)))) (eC (.int 78))) (eC (.int 8)))))) (sNil))
    (sSeq (sSet 2 (eCall 2 m__law_word (aCons (eCall 2 m__law_cell_at (aCons (eVar 0) (aCons (eC (.int 1)) (aNil)))) (aCons (eVar 1) (aNil)))))
    (sSeq (sSet 3 (eCall 1 m__law_bows_of (aCons (eVar 2) (aNil))))
    (sSeq (sSet 4 (eCall 2 m__law_cell_at (aCons (eVar 0) (aCons (eC (.int 2)) (aNil)))))
    (sSeq (sSet 5 (eBin opIx (eLst (aCons (eC .non) (aCons (eUn opNeg (eC (.int 1))) (aCons (eUn opLen (eVar 3)) (aCons (eC (.bl true)) (aCons (eC (.str [48])) (aCons (eTup (aCons (eC (.int 0)) (aNil))) (aCons (eBin opPow (eC (.int 10)) (eC (.int 30))) (aNil))))))))) (eBin opMod (eVar 4) (eC (.int 7)))))
    (sSeq (sIf (tVal (eBin opNe (eCall 3 m__law_said (aCons (eBin opIx (eLst (aCons (eBin opAdd (eVar 2) (eC (.str [40]))) (aCons (eC .non) (aCons (eC (.int 7)) (aCons (eBin opAdd (eC (.str [41])) (eVar 2)) (aCons (eLst (aCons (eC (.str [40, 41])) (aNil))) (aNil))))))) (eBin opMod (eVar 4) (eC (.int 5)))) (aCons (eC (.int 0)) (aCons (eVar 5) (aNil))))) (eTup (aCons (eC (.str [119, 111, 114, 100])) (aCons (eC .non) (aNil)))))) (sRet (eC (.bl false))) (sNil))
    (sSeq (sFor (iSeq (eLst (aCons (eTup (aCons (eC (.int 0)) (aCons (eVar 5) (aNil)))) (aCons (eTup (aCons (eVar 5) (aCons (eUn opLen (eVar 3)) (aNil)))) (aCons (eTup (aCons (eVar 5) (aCons (eBin opSub (eUn opLen (eVar 3)) (eC (.int 1))) (aNil)))) (aCons (eTup (aCons (eVar 5) (aCons (eC (.int 0)) (aNil)))) (aCons (eTup (aCons (eC (.int 1)) (aCons (eC (.int 0)) (aNil)))) (aCons (eTup (aCons (eC (.int 0)) (aCons (eC (.int 0)) (aNil)))) (aNil))))))))) (gVar 6) (sIf (tOr (tVal (eBin opNe (eCall 3 m__law_said (aCons (eVar 2) (aCons (eBin opIx (eVar 6) (eC (.int 0))) (aCons (eBin opIx (eVar 6) (eC (.int 1))) (aNil))))) (eTup (aCons (eC (.str [98, 111, 119])) (aCons (eC .non) (aNil)))))) (tNot (tVal (eCall 3 m__law_by_any (aCons (eVar 2) (aCons (eBin opIx (eVar 6) (eC (.int 0))) (aCons (eBin opIx (eVar 6) (eC (.int 1))) (aNil)))))))) (sRet (eC (.bl false))) (sNil)))
    (sSeq (sIf (tVal (eBin opLt (eUn opLen (eVar 3)) (eC (.int 2)))) (sRet (eC (.bl true))) (sNil))
    (sSeq (sSet 7 (eBin opAdd (eC (.int 1)) (eBin opMod (eBin opDiv (eVar 4) (eC (.int 7))) (eBin opSub (eUn opLen (eVar 3)) (eC (.int 1))))))
    (sSeq (sSet 8 (eBin opMod (eBin opDiv (eBin opDiv (eVar 4) (eC (.int 7))) (eBin opSub (eUn opLen (eVar 3)) (eC (.int 1)))) (eVar 7)))
    (sSeq (sSet 9 (eCall 3 m__law_after (aCons (eVar 3) (aCons (eVar 8) (aCons (eVar 7) (aNil))))))
    (sSeq (sSet 10 (eCall 3 m__law_said (aCons (eVar 2) (aCons (eVar 8) (aCons (eVar 7) (aNil))))))
    (sSeq (sIf (tVal (eBin opEq (eCall 1 m__law_crossing (aCons (eVar 9) (aNil))) (eLst (aNil)))) (sRet (eBin opEq (eVar 10) (eTup (aCons (eC (.str [116, 111, 108, 100])) (aCons (eCall 2 m__law_text (aCons (eVar 9) (aCons (eVar 1) (aNil)))) (aNil)))))) (sNil))
    (sRet (eAnd (eBin opEq (eBin opIx (eVar 10) (eC (.int 0))) (eC (.str [99, 114, 111, 115, 115, 101, 100]))) (eAnd (eBin opIn (eBin opIx (eVar 10) (eC (.int 1))) (eCall 1 m__law_crossing (aCons (eVar 9) (aNil)))) (eCall 3 m__law_by_any (aCons (eVar 2) (aCons (eVar 8) (aCons (eVar 7) (aNil)))))))))))))))))))))
noncomputable def m_law : Fn := run 11 c_law
end Rg
namespace Rg
/-! dicts by what stands at a key -/
theorem lookK_upd {α : Type} [DecidableEq α] (ps : List (α × D)) (b c : α) (v : D) : lookK (ps.map fun p => if p.1 = b then (p.1, v) else p) c = if c = b then (lookK ps b).map (fun _ => v) else lookK ps c := by
  unfold lookK
  induction ps with
  | nil => simp
  | cons p ps ih =>
    rw [List.map_cons, List.find?_cons, List.find?_cons, List.find?_cons]
    by_cases e : p.1 = b
    · subst e
      by_cases ec : c = p.1
      · subst ec
        simp
      · have ec' : ¬ p.1 = c := fun q => ec q.symm
        simp only [if_pos, decide_eq_false ec', if_neg ec] at ih ⊢
        exact ih
    · by_cases ec : p.1 = c
      · subst ec
        simp [e]
      · simp only [if_neg e, decide_eq_false ec, decide_eq_false e] at ih ⊢
        exact ih
theorem lookK_mem {α : Type} [DecidableEq α] (ps : List (α × D)) (b : α) : (∃ v, lookK ps b = some v) ↔ b ∈ ps.map (·.1) := by
  unfold lookK
  rw [List.mem_map]
  constructor
  · rintro ⟨v, h⟩
    cases e : ps.find? (fun p => decide (p.1 = b)) with
    | none => rw [e] at h; cases h
    | some q => exact ⟨q, List.mem_of_find?_eq_some e, by simpa using List.find?_some e⟩
  · rintro ⟨q, hq, rfl⟩
    cases e : ps.find? (fun p => decide (p.1 = q.1)) with
    | none => exact absurd (List.find?_eq_none.mp e q hq) (by simp)
    | some z => exact ⟨_, rfl⟩
theorem lookK_put {α : Type} [DecidableEq α] (ps : List (α × D)) (b c : α) (v : D) : lookK (putD ps b v) c = if c = b then some v else lookK ps c := by
  unfold putD
  by_cases h : (ps.any fun p => decide (p.1 = b)) = true
  · rw [if_pos h, lookK_upd]
    by_cases ec : c = b
    · rw [if_pos ec, if_pos ec]
      obtain ⟨u, hu⟩ := (lookK_mem ps b).mpr (by
        obtain ⟨q, hq, e⟩ := List.any_eq_true.mp h
        exact List.mem_map.mpr ⟨q, hq, by simpa using e⟩)
      rw [hu]
      rfl
    · rw [if_neg ec, if_neg ec]
  · rw [if_neg h]
    unfold lookK
    by_cases ec : c = b
    · subst ec
      rw [if_pos rfl, List.find?_append]
      have : ps.find? (fun p => decide (p.1 = c)) = none := by
        rw [List.find?_eq_none]
        intro q hq z
        exact h (List.any_eq_true.mpr ⟨q, hq, z⟩)
      rw [this]
      simp
    · have ec' : ¬ b = c := fun q => ec q.symm
      rw [if_neg ec, List.find?_append]
      cases ps.find? (fun p => decide (p.1 = c)) with
      | none => simp [ec']
      | some q => rfl
theorem putD_len {α : Type} [DecidableEq α] (ps : List (α × D)) (b : α) (v : D) : (putD ps b v).length ≤ ps.length + 1 := by
  unfold putD
  split <;> simp
theorem putD_keys {α : Type} [DecidableEq α] (ps : List (α × D)) (b : α) (v : D) (h : b ∈ ps.map (·.1)) : (putD ps b v).map (·.1) = ps.map (·.1) := by
  obtain ⟨q, hq, e⟩ := List.mem_map.mp h
  unfold putD
  rw [if_pos (List.any_eq_true.mpr ⟨q, hq, by simpa using e⟩), List.map_map]
  refine List.map_congr_left fun p _ => ?_
  simp only [Function.comp_apply]
  split <;> rfl
/-- a dict of whole numbers: what stands at i -/
abbrev NK := List (Ky × D)
def atK (ps : NK) (i : Nat) : Option D := lookK ps (.inl (i : Int))
theorem at_nil (i : Nat) : atK [] i = none := rfl
theorem at_put (ps : NK) (i j : Nat) (v : D) : atK (putD ps (.inl (i : Int)) v) j = if j = i then some v else atK ps j := by
  unfold atK
  rw [lookK_put]
  by_cases e : j = i
  · subst e
    simp
  · rw [if_neg e, if_neg (fun q => e (by injection q with q; omega))]
theorem dget_nat {L : Hh} {n i : Nat} {ps : NK} (e : L[n]? = some (.dK ps)) : dGet L (.ref n) (.int (i : Int)) = some (atK ps i) := by
  rw [dGet_ref, e]
  rfl
theorem dput_nat {L : Hh} {n i : Nat} {v : D} {ps : NK} (e : L[n]? = some (.dK ps)) (hl : ps.length < 16000000) : dPut L n (.int (i : Int)) v = some (L.set n (.dK (putD ps (.inl (i : Int)) v))) := by
  unfold dPut
  rw [e]
  have : keyOf (.int (i : Int)) = some (.inl (i : Int)) := rfl
  simp only [this]
  rw [if_pos hl]
theorem ix_nat {L : Hh} {n i : Nat} {v : D} {ps : NK} (e : L[n]? = some (.dK ps)) (h : atK ps i = some v) : opIx (.ref n) (.int (i : Int)) L = some (.ok v, L) := by
  rw [opIx_ref, e]
  dsimp only
  rw [dget_nat e, h]
def PureK (ps : NK) : Prop := ∀ p ∈ ps, p.2.pure = true ∧ p.2.nolst = true
theorem PureK.nil : PureK [] := fun p h => by cases h
theorem PureK.put {ps : NK} (h : PureK ps) (k : Ky) {v : D} (hv : v.pure = true ∧ v.nolst = true) : PureK (putD ps k v) := by
  intro p hp
  unfold putD at hp
  split at hp
  · obtain ⟨q, hq, rfl⟩ := List.mem_map.mp hp
    split
    · exact hv
    · exact h q hq
  · rcases List.mem_append.mp hp with hp | hp
    · exact h p hp
    · rw [List.mem_singleton.mp hp]
      exact hv
theorem dict_refs {ps : NK} (h : PureK ps) : (ps.flatMap fun p => D.refs p.2) = [] := by
  rw [List.flatMap_eq_nil_iff]
  exact fun p hp => refs_pure (h p hp).1
theorem dict_map {ps : NK} (h : PureK ps) {f : D → D} (hf : ∀ d, d.pure = true → f d = d) : (ps.map fun p => (p.1, f p.2)) = ps := by
  conv => rhs; rw [← List.map_id ps]
  refine List.map_congr_left fun p hp => ?_
  rw [hf _ (h p hp).1]
  rfl
/-- what is kept of it at a return -/
theorem gc_dict {k : Nat} {ps : NK} {L : Hh} (e : L[k]? = some (.dK ps)) (h : PureK ps) : gc 0 (.ref k) L = (.ref 0, [.dK ps]) := by
  have hk : k < L.length := (List.getElem?_eq_some_iff.mp e).1
  have h0 : refsAt L k = [] := by
    unfold refsAt
    rw [e]
    exact dict_refs h
  have h1 : gcList 0 (.ref k) L = [k] := by simp [gcList, D.refs, h0]
  unfold gc
  rw [h1, if_pos (by simp [gcOk, D.refs, h0, hk])]
  simp [D.ren, gcNum, List.getD_eq_getElem?_getD, e, Cell.ren]
  exact dict_map h fun d hd => ren_pure hd
theorem callI_dict {f : Fn} {xs : List D} {L : Hh} {ps : NK} (h : D.pures xs = true) (hd : D.deps xs ≤ 8) (e : f xs [] = some (.ok (.ref 0), [.dK ps])) (hr : PureK ps) : callI f xs L = some (.ok (.ref L.length), L ++ [.dK ps]) := by
  rw [callI_val h hd e]
  simp [D.shift, Cell.shift]
  exact dict_map hr fun d hd => shift_pure hd
theorem run_dict {n : Nat} {b : Sm} {ds : List D} {P : NK → Prop} (h : Res (b (ds.map some ++ List.replicate (n - ds.length) none) []) (fun o _ l => ∃ k ps, o = .rt (.ref k) ∧ l[k]? = some (.dK ps) ∧ PureK ps ∧ P ps)) : ∃ ps, PureK ps ∧ P ps ∧ run n b ds [] = some (.ok (.ref 0), [.dK ps]) := by
  obtain ⟨o, e, l, h1, k, ps, rfl, h2, h3, h4⟩ := h
  exact ⟨ps, h3, h4, by rw [run_rt h1, List.length_nil, gc_dict h2 h3]⟩
/-! each end's partner in a word -/
theorem Mate.inj {w : Tx} {p q k : Nat} (h : Mate w p k) (h' : Mate w q k) : p = q := by
  rcases Nat.lt_trichotomy p q with hl | hl | hl
  · have := h.ab q hl (by have := h'.lt; omega)
    have := h.ret
    have := h'.ret
    omega
  · exact hl
  · have := h'.ab p hl (by have := h.lt; omega)
    have := h.ret
    have := h'.ret
    omega
theorem Mate.clo {w : Tx} {p q : Nat} (h : Mate w p q) : w[q]? ≠ some 40 := by
  intro e
  have h1 := ht_succ e
  have h2 := h.ab q h.lt (Nat.le_refl _)
  have h3 := h.ret
  simp [up] at h1
  omega
def opn (w : Tx) (k : Nat) : Nat := if w[k]? = some 40 then k else ((List.range w.length).find? fun p => decide (w[p]? = some 40 ∧ mate w p = k)).getD 0
def par (w : Tx) (k : Nat) : Nat := if w[k]? = some 40 then mate w k else opn w k
theorem opn_open {w : Tx} {k : Nat} (h : w[k]? = some 40) : opn w k = k := if_pos h
theorem par_open {w : Tx} {k : Nat} (h : w[k]? = some 40) : par w k = mate w k := if_pos h
theorem opn_mate {w : Tx} (W : BrW w) {p : Nat} (h : w[p]? = some 40) : opn w (mate w p) = p := by
  have M := W.is_mate h
  unfold opn
  rw [if_neg M.clo]
  cases e : (List.range w.length).find? (fun q => decide (w[q]? = some 40 ∧ mate w q = mate w p)) with
  | none =>
    have := List.find?_eq_none.mp e p (List.mem_range.mpr (by have := M.lt; have := M.hq; omega))
    simp [h] at this
  | some q =>
    have := List.find?_some e
    simp at this
    have M2 := W.is_mate this.1
    rw [this.2] at M2
    exact M2.inj M
theorem par_mate {w : Tx} (W : BrW w) {p : Nat} (h : w[p]? = some 40) : par w (mate w p) = p := by
  unfold par
  rw [if_neg (W.is_mate h).clo, opn_mate W h]
theorem BrW.closer {w : Tx} (W : BrW w) {k : Nat} (hk : k < w.length) (h : w[k]? ≠ some 40) : ∃ p, w[p]? = some 40 ∧ mate w p = k := by
  obtain ⟨p, _, e2, e3, _⟩ := wait_close W hk h
  exact ⟨p, e3, e2⟩
/-- the partners: a pairing -/
structure Prg (n : Nat) (f : Nat → Nat) : Prop where
  lt : ∀ i, i < n → f i < n
  inv : ∀ i, i < n → f (f i) = i
  ne : ∀ i, i < n → f i ≠ i
theorem BrW.prg {w : Tx} (W : BrW w) : Prg w.length (par w) := by
  have key : ∀ i, i < w.length → par w i < w.length ∧ par w (par w i) = i ∧ par w i ≠ i := by
    intro i hi
    by_cases h : w[i]? = some 40
    · have M := W.is_mate h
      rw [par_open h, par_mate W h]
      exact ⟨M.hq, rfl, by have := M.lt; omega⟩
    · obtain ⟨p, hp, rfl⟩ := W.closer hi h
      have M := W.is_mate hp
      rw [par_mate W hp, par_open hp]
      exact ⟨by have := M.lt; omega, rfl, by have := M.lt; omega⟩
  exact ⟨fun i h => (key i h).1, fun i h => (key i h).2.1, fun i h => (key i h).2.2⟩
theorem opn_par {w : Tx} (W : BrW w) {i : Nat} (hi : i < w.length) : opn w (par w i) = opn w i := by
  by_cases h : w[i]? = some 40
  · rw [par_open h, opn_mate W h, opn_open h]
  · obtain ⟨p, hp, rfl⟩ := W.closer hi h
    rw [par_mate W hp, opn_mate W hp, opn_open hp]
theorem opn_eq {w : Tx} (W : BrW w) {i j : Nat} (hi : i < w.length) (hj : j < w.length) (h : opn w i = opn w j) : i = j ∨ j = par w i := by
  have key : ∀ k, k < w.length → w[opn w k]? = some 40 ∧ (k = opn w k ∨ k = mate w (opn w k)) := by
    intro k hk
    by_cases e : w[k]? = some 40
    · rw [opn_open e]
      exact ⟨e, .inl rfl⟩
    · obtain ⟨p, hp, rfl⟩ := W.closer hk e
      rw [opn_mate W hp]
      exact ⟨hp, .inr rfl⟩
  obtain ⟨o1, c1⟩ := key i hi
  obtain ⟨o2, c2⟩ := key j hj
  rw [← h] at c2
  rcases c1 with c1 | c1 <;> rcases c2 with c2 | c2
  · exact .inl (c1.trans c2.symm)
  · rw [c2]
    rw [← c1] at o1 ⊢
    exact .inr (par_open o1).symm
  · rw [c1, par_mate W o1]
    exact .inr c2
  · exact .inl (c1.trans c2.symm)
theorem ops_ht {w : Tx} (hs : ∀ c ∈ w, c = 40 ∨ c = 41) : ∀ k, k ≤ w.length → ht w k = 2 * (ops w k).length - k
  | 0, _ => by simp [ops, ht]
  | k + 1, h => by
    have hg : w[k]? = some w[k] := List.getElem?_eq_getElem (by omega)
    rw [ht_succ hg, ops_ht hs k (by omega), ops_succ, List.length_append]
    by_cases e : w[k] = 40
    · rw [if_pos (by rw [hg, e])]
      simp [up, e]
      omega
    · rw [if_neg (by rw [hg]; simpa using e)]
      simp [up, e]
      omega
theorem ops_half {w : Tx} (W : BrW w) : 2 * (ops w w.length).length = w.length := by
  have := ops_ht W.sg w.length (Nat.le_refl _)
  rw [W.fin] at this
  omega
/-! the pieces that a pairing and some bows make -/
structure Lab (n : Nat) (f : Nat → Nat) (bs : List (Nat × Nat)) (lab : Nat → Nat) : Prop where
  left : ∀ i, i < n → lab (f i) = lab i
  bow : ∀ b ∈ bs, lab b.1 = lab b.2
  cls : ∀ S : Nat → Prop, (∀ i, i < n → S i → S (f i)) → (∀ b ∈ bs, S b.1 ↔ S b.2) → ∀ i j, i < n → j < n → lab i = lab j → S i → S j
def relab (lab : Nat → Nat) (b : Nat × Nat) : Nat → Nat := fun i => if lab i = lab b.2 then lab b.1 else lab i
theorem Lab.step {n : Nat} {f lab : Nat → Nat} {bs : List (Nat × Nat)} (h : Lab n f bs lab) {b : Nat × Nat} (h1 : b.1 < n) (h2 : b.2 < n) : Lab n f (bs ++ [b]) (relab lab b) where
  left i hi := by
    unfold relab
    rw [h.left i hi]
  bow c hc := by
    rcases List.mem_append.mp hc with hc | hc
    · unfold relab
      rw [h.bow c hc]
    · rw [List.mem_singleton.mp hc]
      unfold relab
      rw [if_pos rfl]
      split <;> rfl
  cls S hf hb i j hi hj e si := by
    have hb' : ∀ c ∈ bs, S c.1 ↔ S c.2 := fun c hc => hb c (List.mem_append.mpr (.inl hc))
    have hbb : S b.1 ↔ S b.2 := hb b (by simp)
    have C := h.cls S hf hb'
    unfold relab at e
    by_cases ei : lab i = lab b.2
    · rw [if_pos ei] at e
      by_cases ej : lab j = lab b.2
      · exact C i j hi hj (ei.trans ej.symm) si
      · rw [if_neg ej] at e
        exact C b.1 j h1 hj e (hbb.mpr (C i b.2 hi h2 ei si))
    · rw [if_neg ei] at e
      by_cases ej : lab j = lab b.2
      · rw [if_pos ej] at e
        exact C b.2 j h2 hj ej.symm (hbb.mp (C i b.1 hi h1 e si))
      · rw [if_neg ej] at e
        exact C i j hi hj e si
structure Live (n : Nat) (lab : Nat → Nat) (live : List Nat) : Prop where
  nd : live.Nodup
  all : ∀ i, i < n → lab i ∈ live
  has : ∀ l ∈ live, ∃ i, i < n ∧ lab i = l
theorem Live.step {n : Nat} {lab : Nat → Nat} {live : List Nat} (h : Live n lab live) {b : Nat × Nat} (h1 : b.1 < n) (h2 : b.2 < n) : ∃ live', Live n (relab lab b) live' ∧ live'.length + (if lab b.1 = lab b.2 then 0 else 1) = live.length := by
  by_cases e : lab b.1 = lab b.2
  · have : relab lab b = lab := by
      funext i
      unfold relab
      split
      · rename_i q
        rw [e, q]
      · rfl
    exact ⟨live, by rw [this]; exact h, by simp [e]⟩
  · refine ⟨live.erase (lab b.2), ⟨h.nd.erase _, fun i hi => ?_, fun l hl => ?_⟩, ?_⟩
    · unfold relab
      split
      · exact (List.mem_erase_of_ne e).mpr (h.all _ h1)
      · rename_i q
        exact (List.mem_erase_of_ne q).mpr (h.all _ hi)
    · have hne : l ≠ lab b.2 := fun q => by
        rw [q] at hl
        exact h.nd.not_mem_erase hl
      obtain ⟨i, hi, rfl⟩ := h.has l (List.mem_of_mem_erase hl)
      exact ⟨i, hi, by unfold relab; rw [if_neg hne]⟩
    · rw [if_neg e, List.length_erase_of_mem (h.all _ h2)]
      have := List.length_pos_of_mem (h.all _ h2)
      omega
def labs (lab : Nat → Nat) (bs : List (Nat × Nat)) : Nat → Nat := bs.foldl relab lab
def told : (Nat → Nat) → List (Nat × Nat) → List Bool
  | _, [] => []
  | lab, b :: bs => decide (lab b.1 = lab b.2) :: told (relab lab b) bs
theorem labs_snoc (lab : Nat → Nat) (bs : List (Nat × Nat)) (b : Nat × Nat) : labs lab (bs ++ [b]) = relab (labs lab bs) b := by simp [labs]
theorem told_snoc : ∀ (lab : Nat → Nat) (bs : List (Nat × Nat)) (b : Nat × Nat), told lab (bs ++ [b]) = told lab bs ++ [decide (labs lab bs b.1 = labs lab bs b.2)]
  | _, [], _ => rfl
  | lab, c :: bs, b => by
    rw [List.cons_append, told, told_snoc (relab lab c) bs b]
    rfl
theorem told_len : ∀ (lab : Nat → Nat) (bs : List (Nat × Nat)), (told lab bs).length = bs.length
  | _, [] => rfl
  | lab, b :: bs => by rw [told, List.length_cons, told_len, List.length_cons]
theorem Lab.all {n : Nat} {f lab : Nat → Nat} (h : Lab n f [] lab) : ∀ (cs bs : List (Nat × Nat)) , (∀ b ∈ cs, b.1 < n ∧ b.2 < n) → Lab n f bs (labs lab bs) → Lab n f (bs ++ cs) (labs lab (bs ++ cs))
  | [], bs, _, l => by rw [List.append_nil]; exact l
  | c :: cs, bs, hc, l => by
    have h1 := hc c List.mem_cons_self
    have := Lab.all h cs (bs ++ [c]) (fun b hb => hc b (List.mem_cons_of_mem _ hb)) (by rw [labs_snoc]; exact l.step h1.1 h1.2)
    rwa [List.append_assoc] at this
theorem Lab.labs {n : Nat} {f lab : Nat → Nat} (h : Lab n f [] lab) {bs : List (Nat × Nat)} (hb : ∀ b ∈ bs, b.1 < n ∧ b.2 < n) : Lab n f bs (labs lab bs) := Lab.all h bs [] hb h
theorem live_count {n : Nat} : ∀ (bs : List (Nat × Nat)) (lab : Nat → Nat) (live : List Nat), (∀ b ∈ bs, b.1 < n ∧ b.2 < n) → Live n lab live → ∃ live', Live n (labs lab bs) live' ∧ ((told lab bs).filter id).length + live.length = bs.length + live'.length
  | [], lab, live, _, h => ⟨live, h, by simp [told]⟩
  | b :: bs, lab, live, hb, h => by
    obtain ⟨l1, L1, e1⟩ := h.step (hb b List.mem_cons_self).1 (hb b List.mem_cons_self).2
    obtain ⟨l2, L2, e2⟩ := live_count bs _ l1 (fun c hc => hb c (List.mem_cons_of_mem _ hc)) L1
    refine ⟨l2, L2, ?_⟩
    rw [told, List.length_cons]
    by_cases e : lab b.1 = lab b.2
    · rw [if_pos e] at e1
      simp [e]
      omega
    · rw [if_neg e] at e1
      simp [e]
      omega
/-- the pieces of a word alone -/
theorem lab_word {w : Tx} (W : BrW w) : Lab w.length (par w) [] (opn w) where
  left i hi := opn_par W hi
  bow b hb := by cases hb
  cls S hf _ i j hi hj e si := by
    rcases opn_eq W hi hj e with rfl | rfl
    · exact si
    · exact hf i hi si
theorem live_word {w : Tx} (W : BrW w) : Live w.length (opn w) (ops w w.length) where
  nd := ops_nodup
  all i hi := by
    by_cases h : w[i]? = some 40
    · rw [opn_open h]
      exact mem_ops.mpr ⟨hi, h⟩
    · obtain ⟨p, hp, rfl⟩ := W.closer hi h
      rw [opn_mate W hp]
      exact mem_ops.mpr ⟨(List.getElem?_eq_some_iff.mp hp).1, hp⟩
  has l hl := by
    obtain ⟨h1, h2⟩ := mem_ops.mp hl
    exact ⟨l, h1, opn_open h2⟩
theorem bows_in {w : Tx} (W : BrW w) : ∀ b ∈ bows w, b.1 < w.length ∧ b.2 < w.length := by
  intro b hb
  obtain ⟨h1, h2⟩ := mem_bows.mp hb
  have M := W.is_mate h1
  have := M.lt
  have := M.hq
  omega
theorem is_word_wd {w : Tx} (W : BrW w) (hl : w.length ≤ 40) (L : Hh) : callI m_is_word [.str w] L = some (.ok (.bl true), L) := by
  refine callI_pure (by simp) (by simp [D.deps, D.dep]) (run_pure (by simp) ?_) (by simp)
  unfold c_is_word
  have h1 : ¬ (40 : Int) < w.length := by omega
  have h2 : w.length ≤ 100000 := by omega
  apply Res_seq; simp [h1, h2]
  apply Res_seq; simp
  apply Res_seq; simp [sFor_at]
  refine for_items (fun k e l => k ≤ w.length ∧ ∃ d, e = [some (.str w), some (.int (ht w k)), d] ∧ l = []) _ ⟨by omega, none, by simp, rfl⟩ ?_ ?_
  · rintro k x e l hx ⟨_, d, rfl, rfl⟩
    rw [List.getElem?_map] at hx
    obtain ⟨c, hc, rfl⟩ := Option.map_eq_some_iff.mp hx
    have hk : k < w.length := (List.getElem?_eq_some_iff.mp hc).1
    have h3 := W.nn (k + 1) (by omega)
    have h4 := ht_succ hc
    rw [tgt_var]
    rcases W.sg c (List.mem_of_getElem? hc) with rfl | rfl
    · simp [up] at h4
      have h5 : ¬ ht w k + 1 < 0 := by omega
      simp [sSeq_at, h5]
      exact ⟨by omega, by omega⟩
    · simp [up] at h4
      have h5 : ¬ ht w k - 1 < 0 := by omega
      simp [sSeq_at, h5]
      exact ⟨by omega, by omega⟩
  · rintro e l ⟨_, d, rfl, rfl⟩
    have := W.fin
    simp [this]
theorem pairs_run {w : Tx} (W : BrW w) (hl : w.length ≤ 40) : m_pairs [.str w] [] = some (.ok (.ref 0), [.lst ((bows w).map bowD)]) := by
  refine run_list (pures_map fun a _ => pure_bowD) ?_
  unfold c_pairs
  have h2 : w.length ≤ 100000 := by omega
  apply Res_seq; simp [is_word_wd W hl]
  apply Res_seq; simp
  apply Res_seq; simp
  apply Res_seq; simp [sFor_at, h2, big_of (i := w.length) (by omega)]
  refine for_range0 (fun k e l => k ≤ w.length ∧ ∃ a fs, e = [some (.str w), some (.ref 0), some (.ref 1), a] ∧ l = [.lst (fs.map bowD), .lst ((wait w k).map fun p => .int (p : Nat))] ∧ Shut w k fs) _ ⟨by omega, none, [], rfl, rfl, Shut.nil⟩ ?_ ?_
  · rintro k e l hk ⟨_, a, fs, rfl, rfl, S⟩
    rw [tgt_var]
    have hg : w[k]? = some w[k] := List.getElem?_eq_getElem hk
    have hl1 : fs.length < 10000 := by have := shut_len W S; omega
    have hl2 : (wait w k).length < 10000 := by
      have h1 : (wait w k).length ≤ (ops w k).length := List.length_filter_le _ _
      have h3 : (ops w k).length ≤ k := by
        have := (List.length_filter_le (fun p => decide (w[p]? = some 40)) (List.range k))
        simpa [ops] using this
      omega
    rw [sIf_at]
    by_cases h : w[k] = 40
    · have hh : w[k]? = some 40 := by rw [hg, h]
      simp [h2, atI_nat hg, h, hl2]
      refine ⟨by omega, fs, ⟨rfl, ?_⟩, S.open W hh⟩
      rw [wait_open W hh]
      simp
    · have hh : ¬ w[k]? = some 40 := by rw [hg]; simpa using h
      obtain ⟨p, e1, e2, e3, e4⟩ := wait_close W hk hh
      simp [h2, atI_nat hg, h, hl1, e1]
      exact ⟨by omega, fs ++ [(p, k)], by simp [bowD_eq], S.close W e3 e2⟩
  · rintro e l ⟨_, a, fs, rfl, rfl, S⟩
    have hl1 : fs.length ≤ 10000 := by have := shut_len W S; omega
    have h3 := opSorted_rows (n := 0) (L := [.lst (fs.map bowD), .lst ((wait w w.length).map fun p => .int (p : Nat))]) (rs := fs.map bowR) (by simp [bowD]) (by simpa using hl1) (by
      intro r hr
      obtain ⟨b, _, rfl⟩ := List.mem_map.mp hr
      exact List.cons_ne_nil _ _)
    rw [S.sort W] at h3
    simp at h3
    simp [h3]
    simp [bowD]
theorem pairs_call {w : Tx} (W : BrW w) (hl : w.length ≤ 40) (L : Hh) : callI m_pairs [.str w] L = some (.ok (.ref L.length), L ++ [.lst ((bows w).map bowD)]) :=
  callI_list (by simp) (by simp [D.deps, D.dep]) (pairs_run W hl) (pures_map fun a _ => pure_bowD)
/-- the dict of all partners -/
def ParD (w : Tx) (ps : NK) : Prop := ∀ i, atK ps i = if i < w.length then some (.int (par w i : Nat)) else none
theorem wait_mem {w : Tx} {k p : Nat} : p ∈ wait w k ↔ (p < k ∧ w[p]? = some 40) ∧ k ≤ mate w p := by simp [wait]
theorem ops_le {w : Tx} {k : Nat} : (ops w k).length ≤ k := by
  have := (List.length_filter_le (fun p => decide (w[p]? = some 40)) (List.range k))
  simpa [ops] using this
theorem wait_le {w : Tx} {k : Nat} : (wait w k).length ≤ k := Nat.le_trans (List.length_filter_le _ _) ops_le
/-- behind k ends: the ends whose bow is shut -/
def ParK (w : Tx) (k : Nat) (ps : NK) : Prop := ∀ i, atK ps i = if i < k ∧ par w i < k then some (.int (par w i : Nat)) else none
theorem ParK.all {w : Tx} (W : BrW w) {ps : NK} (h : ParK w w.length ps) : ParD w ps := fun i => by
  rw [h i]
  by_cases hi : i < w.length
  · rw [if_pos hi, if_pos ⟨hi, W.prg.lt i hi⟩]
  · rw [if_neg hi, if_neg (fun q => hi q.1)]
theorem ParK.opens {w : Tx} (W : BrW w) {k : Nat} {ps : NK} (h : ParK w k ps) (e : w[k]? = some 40) : ParK w (k + 1) ps := fun i => by
  rw [h i]
  have M := W.is_mate e
  have hk := M.lt
  have hq := M.hq
  by_cases h1 : i < k ∧ par w i < k
  · rw [if_pos h1, if_pos ⟨by omega, by omega⟩]
  · rw [if_neg h1, if_neg]
    rintro ⟨h2, h3⟩
    by_cases h4 : i = k
    · subst h4
      rw [par_open e] at h3
      omega
    · have h5 : par w i = k := by
        refine Decidable.byContradiction fun q => h1 ⟨by omega, by omega⟩
      have h6 := W.prg.inv i (by omega)
      rw [h5, par_open e] at h6
      omega
theorem ParK.shuts {w : Tx} (W : BrW w) {k p : Nat} {ps : NK} (h : ParK w k ps) (hk : k < w.length) (e : w[p]? = some 40) (em : mate w p = k) : ParK w (k + 1) (putD (putD ps (.inl (k : Int)) (.int (p : Nat))) (.inl (p : Int)) (.int (k : Nat))) := fun i => by
  have M := W.is_mate e
  rw [em] at M
  have hl := M.lt
  have e1 : par w k = p := by rw [← em, par_mate W e]
  have e2 : par w p = k := by rw [par_open e, em]
  rw [at_put, at_put, h i]
  by_cases h1 : i = p
  · subst h1
    rw [if_pos rfl, e2, if_pos ⟨by omega, by omega⟩]
  · rw [if_neg h1]
    by_cases h2 : i = k
    · subst h2
      rw [if_pos rfl, e1, if_pos ⟨by omega, by omega⟩]
    · rw [if_neg h2]
      by_cases h3 : i < k ∧ par w i < k
      · rw [if_pos h3, if_pos ⟨by omega, by omega⟩]
      · rw [if_neg h3, if_neg]
        rintro ⟨h4, h5⟩
        have h6 : par w i = k := by
          refine Decidable.byContradiction fun q => h3 ⟨by omega, by omega⟩
        have h7 := W.prg.inv i (by omega)
        rw [h6, e1] at h7
        exact h1 h7.symm
theorem across_run {w : Tx} (W : BrW w) (hl : w.length ≤ 40) : ∃ ps, PureK ps ∧ ParD w ps ∧ m__law_across [.str w] [] = some (.ok (.ref 0), [.dK ps]) := by
  refine run_dict (P := ParD w) ?_
  unfold c__law_across
  have h2 : w.length ≤ 100000 := by omega
  apply Res_seq; simp
  apply Res_seq; simp
  apply Res_seq; simp [sFor_at, h2, big_of (i := w.length) (by omega)]
  refine for_range0 (fun k e l => k ≤ w.length ∧ ∃ a ps, e = [some (.str w), some (.ref 0), some (.ref 1), a] ∧ l = [.dK ps, .lst ((wait w k).map fun p => .int (p : Nat))] ∧ PureK ps ∧ ParK w k ps ∧ ps.length ≤ 2 * k) _ ⟨by omega, none, [], rfl, rfl, PureK.nil, fun i => by simp [at_nil], by simp⟩ ?_ ?_
  · rintro k e l hk ⟨_, a, ps, rfl, rfl, hp, S, hb⟩
    rw [tgt_var]
    have hg : w[k]? = some w[k] := List.getElem?_eq_getElem hk
    have hl2 : (wait w k).length < 10000 := by have := wait_le (w := w) (k := k); omega
    rw [sIf_at]
    by_cases h : w[k] = 40
    · have hh : w[k]? = some 40 := by rw [hg, h]
      simp [h2, atI_nat hg, h, hl2]
      refine ⟨by omega, ps, ⟨rfl, ?_⟩, hp, S.opens W hh, by omega⟩
      rw [wait_open W hh]
      simp
    · have hh : ¬ w[k]? = some 40 := by rw [hg]; simpa using h
      obtain ⟨p, e1, e2, e3, e4⟩ := wait_close W hk hh
      have p1 : dPut [.dK ps, .lst ((wait w (k + 1)).map fun p => .int (p : Nat))] 0 (.int (k : Int)) (.int (p : Nat)) = some [.dK (putD ps (.inl (k : Int)) (.int (p : Nat))), .lst ((wait w (k + 1)).map fun p => .int (p : Nat))] := by
        rw [dput_nat rfl (by omega)]
        rfl
      have hb1 := putD_len ps (.inl (k : Int)) (.int (p : Nat))
      have hb2 := putD_len (putD ps (.inl (k : Int)) (.int (p : Nat))) (.inl (p : Int)) (.int (k : Nat))
      have p2 : dPut [.dK (putD ps (.inl (k : Int)) (.int (p : Nat))), .lst ((wait w (k + 1)).map fun p => .int (p : Nat))] 0 (.int (p : Int)) (.int (k : Nat)) = some [.dK (putD (putD ps (.inl (k : Int)) (.int (p : Nat))) (.inl (p : Int)) (.int (k : Nat))), .lst ((wait w (k + 1)).map fun p => .int (p : Nat))] := by
        rw [dput_nat rfl (by omega)]
        rfl
      have g1 : dGet [.dK (putD ps (.inl (k : Int)) (.int (p : Nat))), .lst ((wait w (k + 1)).map fun p => .int (p : Nat))] (.ref 0) (.int (k : Int)) = some (some (.int (p : Nat))) := by rw [dget_nat rfl, at_put, if_pos rfl]
      simp [h2, atI_nat hg, h, e1, sSeq_at, p1, g1, p2]
      exact ⟨by omega, (hp.put _ ⟨by simp, rfl⟩).put _ ⟨by simp, rfl⟩, S.shuts W hk e3 e2, by omega⟩
  · rintro e l ⟨_, a, ps, rfl, rfl, hp, S, _⟩
    simp
    exact ⟨hp, S.all W⟩
theorem across_call {w : Tx} (W : BrW w) (hl : w.length ≤ 40) : ∃ ps, PureK ps ∧ ParD w ps ∧ ∀ L, callI m__law_across [.str w] L = some (.ok (.ref L.length), L ++ [.dK ps]) := by
  obtain ⟨ps, h1, h2, h3⟩ := across_run W hl
  exact ⟨ps, h1, h2, fun L => callI_dict (by simp) (by simp [D.deps, D.dep]) h3 h1⟩
def cell2 (ns : List Int) (k : Nat) : Int := if k < ns.length then ns.getD k 0 else 7 * k + 4
theorem cell_at_run (ns : List Int) (k : Nat) (hk : k ≤ 1000) : m__law_cell_at [.scr ns, .int k] [] = some (.ok (.int (cell2 ns k)), []) := by
  refine run_pure (by simp) ?_
  simp only [c__law_cell_at]
  by_cases h : k < ns.length
  · have e : ns[k]? = some (cell2 ns k) := by simp [cell2, List.getElem?_eq_getElem h, h]
    simp [sSeq_at, h, atI_nat e]
  · have e : cell2 ns k = 7 * k + 4 := by simp [cell2, h]
    simp [sSeq_at, h, e]
theorem cell_at_call (ns : List Int) (k : Nat) (hk : k ≤ 1000) (L : Hh) : callI m__law_cell_at [.scr ns, .int k] L = some (.ok (.int (cell2 ns k)), L) := callI_scr (cell_at_run ns k hk)
theorem digits_run (c : Int) (m : Nat) (hm : m ≤ 1000) : ∃ ds : List Int, ds.length = m ∧ (∀ d ∈ ds, 0 ≤ d ∧ d < 5040) ∧ m__law_digits [.int c, .int m] [] = some (.ok (.ref 0), [.lst (ds.map .int)]) := by
  have key : Res (c__law_digits (([D.int c, D.int m]).map some ++ List.replicate (5 - [D.int c, D.int m].length) none) []) (fun o _ l => ∃ ds : List Int, ds.length = m ∧ (∀ d ∈ ds, 0 ≤ d ∧ d < 5040) ∧ o = .rt (.ref 0) ∧ l[0]? = some (.lst (ds.map .int))) := by
    unfold c__law_digits
    apply Res_seq; simp
    apply Res_seq
    refine Res.mono (Q := fun o e l => o = .nx ∧ l = [] ∧ ∃ (rest : Int) (x4 : Option D), e = [some (.int c), some (.int m), some (.int rest), none, x4]) ?_ ?_
    · have hyes : Res (sSeq (sSet 2 (eC (.int 1))) (sFor (iRange1 (eC (.int 9))) (gVar 4) (sSet 2 (eBin opAdd (eBin opMul (eVar 2) (eC (.int 65537))) (eBin opMod (eBin opMul (eBin opMod (eBin opMul (eBin opAdd (eVar 0) (eBin opMul (eVar 4) (eVar 4))) (eC (.int 48271))) (eC (.int 1000003))) (eC (.int 69621))) (eC (.int 999983)))))) [some (.int c), some (.int m), some (.int (c / 2)), none, none] []) (fun o e l => o = .nx ∧ l = [] ∧ ∃ (rest : Int) (x4 : Option D), e = [some (.int c), some (.int m), some (.int rest), none, x4]) := by
        apply Res_seq; simp [sFor_at]
        refine for_range0 (n := 9) (fun k e l => l = [] ∧ ∃ (rest : Int) (x4 : Option D), e = [some (.int c), some (.int m), some (.int rest), none, x4]) _ ⟨rfl, 1, none, rfl⟩ ?_ ?_
        · rintro k e l hk ⟨rfl, rest, x4, rfl⟩
          rw [tgt_var]
          simp [small_of (i := k) (by omega)]
        · rintro e l ⟨rfl, rest, x4, rfl⟩
          exact ⟨rfl, rfl, rest, x4, rfl⟩
      rw [sIf_at]
      by_cases h1 : c % 2 = 0
      · simp [h1]
        exact hyes
      · by_cases h2 : c < 1000000000000
        · simp [h1, h2]
          exact hyes
        · simp [h1, h2]
    · rintro o e l ⟨rfl, rfl, rest, x4, rfl⟩
      dsimp only
      apply Res_seq; simp
      apply Res_seq; simp [sFor_at, big_of (i := m) (by omega)]
      refine for_range0 (fun k e l => k ≤ m ∧ ∃ (rest : Int) (ds : List Int) (x4 : Option D), e = [some (.int c), some (.int m), some (.int rest), some (.ref 0), x4] ∧ l = [.lst (ds.map .int)] ∧ ds.length = k ∧ ∀ d ∈ ds, 0 ≤ d ∧ d < 5040) _ ⟨by omega, rest, [], x4, rfl, rfl, rfl, by simp⟩ ?_ ?_
      · rintro k e l hk ⟨_, rest, ds, x4, rfl, rfl, hl, hb⟩
        rw [tgt_var]
        simp [sSeq_at, show ds.length < 10000 by omega]
        refine ⟨by omega, ds ++ [rest % 5040], by simp, by simp [hl], fun d hd => ?_⟩
        rcases List.mem_append.mp hd with hd | hd
        · exact hb d hd
        · rw [List.mem_singleton.mp hd]
          omega
      · rintro e l ⟨_, rest, ds, x4, rfl, rfl, hl, hb⟩
        simp
        exact ⟨ds, hl, hb, rfl⟩
  obtain ⟨o, e, l, h1, ds, hl, hb, rfl, h2⟩ := key
  refine ⟨ds, hl, hb, ?_⟩
  unfold m__law_digits
  rw [run_rt h1, List.length_nil, gc_list h2 pures_int]
theorem digits_call (c : Int) (m : Nat) (hm : m ≤ 1000) : ∃ ds : List Int, ds.length = m ∧ (∀ d ∈ ds, 0 ≤ d ∧ d < 5040) ∧ ∀ L, callI m__law_digits [.int c, .int m] L = some (.ok (.ref L.length), L ++ [.lst (ds.map .int)]) := by
  obtain ⟨ds, h1, h2, h3⟩ := digits_run c m hm
  exact ⟨ds, h1, h2, fun L => callI_list (by simp) (by simp [D.deps, D.dep]) h3 pures_int⟩
theorem word_run (c : Int) (m : Nat) (hm : m ≤ 20) : ∃ w, BrW w ∧ w.length = 2 * m ∧ m__law_word [.int c, .int (2 * (m : Int))] [] = some (.ok (.str w), []) := by
  obtain ⟨ds, hd1, hd2, hd3⟩ := digits_call c (2 * m) (by omega)
  have hd3' : ∀ L, callI m__law_digits [.int c, .int (2 * (m : Int))] L = some (.ok (.ref L.length), L ++ [.lst (ds.map .int)]) := hd3
  have key : Res (c__law_word (([D.int c, D.int (2 * (m : Int))]).map some ++ List.replicate (6 - [D.int c, D.int (2 * (m : Int))].length) none) []) (fun o _ _ => ∃ w, BrW w ∧ w.length = 2 * m ∧ o = .rt (.str w)) := by
    unfold c__law_word
    apply Res_seq; simp [hd3']
    apply Res_seq; simp
    apply Res_seq; simp
    apply Res_seq
    simp [sFor_at, show big (2 * (m : Int)) = true from big_of (by omega), show (2 * (m : Int)).toNat = 2 * m by omega]
    refine for_range0 (fun k e l => ∃ w d5, e = [some (.int c), some (.int (2 * (m : Int))), some (.ref 0), some (.str w), some (.int (ht w w.length)), d5] ∧ l = [.lst (ds.map .int)] ∧ w.length = k ∧ (∀ c ∈ w, c = 40 ∨ c = 41) ∧ (∀ j, j ≤ w.length → 0 ≤ ht w j) ∧ ht w w.length ≤ 2 * m - k ∧ (ht w w.length - k) % 2 = 0) _ ?_ ?_ ?_
    · exact ⟨[], none, by simp, rfl, by simp, by simp, by simp, by simp; omega, by simp⟩
    · rintro k e l hk ⟨w, d5, rfl, rfl, hl, hs, hn, hb, hp⟩
      rw [tgt_var]
      have hh : ∀ x : Nat, (x = 40 ∨ x = 41) → 0 ≤ ht w w.length + up x → ht w w.length + up x ≤ 2 * m - (k + 1 : Nat) → (ht w w.length + up x - (k + 1 : Nat)) % 2 = 0 → (∃ w' d5, [some (D.int c), some (.int (2 * (m : Int))), some (.ref 0), some (.str (w ++ [x])), some (.int (ht w w.length + up x)), some (.int k)] = [some (D.int c), some (.int (2 * (m : Int))), some (.ref 0), some (.str w'), some (.int (ht w' w'.length)), d5] ∧ ([.lst (ds.map .int)] : Hh) = [.lst (ds.map .int)] ∧ w'.length = k + 1 ∧ (∀ c ∈ w', c = 40 ∨ c = 41) ∧ (∀ j, j ≤ w'.length → 0 ≤ ht w' j) ∧ ht w' w'.length ≤ 2 * m - (k + 1 : Nat) ∧ (ht w' w'.length - (k + 1 : Nat)) % 2 = 0) := by
        intro x hx h1 h2 h3
        have e : ht (w ++ [x]) (w ++ [x]).length = ht w w.length + up x := by
          rw [List.length_append]
          exact ht_snoc
        refine ⟨w ++ [x], _, by rw [e], rfl, by simp [hl], ?_, ?_, by rw [e]; exact h2, by rw [e]; exact h3⟩
        · intro y hy
          rcases List.mem_append.mp hy with hy | hy
          · exact hs y hy
          · rw [List.mem_singleton.mp hy]
            exact hx
        · intro j hj
          rw [List.length_append] at hj
          rcases Nat.lt_or_ge w.length j with h4 | h4
          · have : j = (w ++ [x]).length := by simp at hj ⊢; omega
            rw [this, e]
            exact h1
          · rw [ht_append h4]
            exact hn j h4
      have h0 := hn _ (Nat.le_refl _)
      have hlen : w.length + 1 ≤ 100000 := by omega
      have hdk : ds[k]? = some ds[k] := List.getElem?_eq_getElem (by omega)
      rw [sIf_at]
      by_cases h1 : ht w w.length = 0
      · have := hh 40 (.inl rfl) (by simp [up]; omega) (by simp [up]; omega) (by simp [up]; omega)
        simp [up] at this
        simp [sSeq_at, h1, hlen]
        simpa [h1] using this
      · by_cases h3 : ht w w.length < 2 * m - k
        · by_cases h2 : ds[k] % 2 = 0
          · have := hh 40 (.inl rfl) (by simp [up]; omega) (by simp [up]; omega) (by simp [up]; omega)
            simp [up] at this
            simp [sSeq_at, h1, h2, h3, hlen, atI_nat, hdk]
            simpa [h1, h2, Int.sub_eq_add_neg] using this
          · have := hh 41 (.inr rfl) (by simp [up]; omega) (by simp [up]; omega) (by simp [up]; omega)
            simp [up] at this
            simp [sSeq_at, h1, h2, h3, hlen, atI_nat, hdk]
            simpa [h1, h2, Int.sub_eq_add_neg] using this
        · have := hh 41 (.inr rfl) (by simp [up]; omega) (by simp [up]; omega) (by simp [up]; omega)
          simp [up] at this
          simp [sSeq_at, h1, h3, hlen]
          simpa [h1, Int.sub_eq_add_neg] using this
    · rintro e l ⟨w, d5, rfl, rfl, hl, hs, hn, hb, hp⟩
      simp
      refine ⟨⟨hs, hn, ?_⟩, hl⟩
      have := hn _ (Nat.le_refl _)
      omega
  obtain ⟨o, e, l, h1, w, W, hl, rfl⟩ := key
  refine ⟨w, W, hl, ?_⟩
  unfold m__law_word
  rw [run_rt h1]
  simp [gc_pure]
theorem word_call (c : Int) (m : Nat) (hm : m ≤ 20) : ∃ w, BrW w ∧ w.length = 2 * m ∧ ∀ L, callI m__law_word [.int c, .int (2 * (m : Int))] L = some (.ok (.str w), L) := by
  obtain ⟨w, h1, h2, h3⟩ := word_run c m hm
  exact ⟨w, h1, h2, fun L => callI_pure (by simp) (by simp [D.deps, D.dep]) h3 (by simp)⟩
theorem forL_nil0 {s : Src} {g : Tg} {b : Sm} {env : Env} {L : Hh} : forL s g b [] env L = if s.stays L = true then some (.nx, env, L) else none := rfl
theorem callI_ex {f : Fn} {xs : List D} {L L2 : Hh} {c : String} (h : D.pures xs = true) (hd : D.deps xs ≤ 8) (e : f xs [] = some (.ex ⟨c, []⟩, L2)) : callI f xs L = some (.ex ⟨c, []⟩, L) := by
  rw [callI_flat h hd, e]
  simp
/-- no word -/
structure NoWd (x : D) : Prop where
  pu : x.pure = true
  dp : x.dep ≤ 7
  no : ∀ L, callI m_is_word [x] L = some (.ok (.bl false), L)
theorem NoWd.of {x : D} (h1 : x.pure = true) (h2 : x.dep ≤ 7) (h : Res (c_is_word (([x]).map some ++ List.replicate (3 - [x].length) none) []) (fun o _ _ => o = .rt (.bl false))) : NoWd x :=
  ⟨h1, h2, fun L => callI_pure (by simp [h1]) (by simp [D.deps]; omega) (run_pure (by simp) h) (by simp)⟩
theorem pairs_no {x : D} (h : NoWd x) (L : Hh) : callI m_pairs [x] L = some (.ex ⟨"NoWord", []⟩, L) := by
  have h3 : Res (c_pairs (([x]).map some ++ List.replicate (4 - [x].length) none) []) (fun o _ _ => o = .ex ⟨"NoWord", []⟩) := by
    unfold c_pairs
    simp [sSeq_at, h.no]
  obtain ⟨L2, e⟩ := run_ex h3
  exact callI_ex (by simp [h.pu]) (by have := h.dp; simp [D.deps]; omega) e
theorem no_non : NoWd .non := NoWd.of (by simp) (by simp [D.dep]) (by unfold c_is_word; simp [sSeq_at])
theorem no_int (i : Int) : NoWd (.int i) := NoWd.of (by simp) (by simp [D.dep]) (by unfold c_is_word; simp [sSeq_at])
theorem no_lst (w : Tx) : NoWd (.lst [.str w]) := NoWd.of (by simp) (by simp [D.dep, D.deps]) (by unfold c_is_word; simp [sSeq_at])
theorem no_long {w : Tx} (h : 40 < w.length) (h2 : w.length ≤ 1000) : NoWd (.str w) := NoWd.of (by simp) (by simp [D.dep]) (by
  unfold c_is_word
  simp [sSeq_at, show (40 : Int) < w.length by omega, show w.length ≤ 100000 by omega])
theorem no_open : NoWd (.str [40]) := NoWd.of (by simp) (by simp [D.dep]) (by
  unfold c_is_word
  apply Res_seq; simp
  apply Res_seq; simp
  apply Res_seq; simp [sFor_at, forL_cons, forL_nil0, tgt, Src.stays, sSeq_at])
theorem no_shut {w : Tx} (h : w.length ≤ 100) : NoWd (.str (41 :: w)) := by
  by_cases hl : w.length < 40
  · refine NoWd.of (by simp) (by simp [D.dep]) ?_
    unfold c_is_word
    apply Res_seq; simp [show w.length + 1 ≤ 100000 by omega, show ¬ (40 : Int) < w.length + 1 by omega]
    apply Res_seq; simp
    apply Res_seq; simp [sFor_at, forL_cons, tgt, Src.stays, sSeq_at]
  · exact no_long (by simp; omega) (by simp; omega)
/-- a pair more -/
theorem BrW.more {w : Tx} (W : BrW w) : BrW (w ++ [40, 41]) where
  sg c hc := by
    rcases List.mem_append.mp hc with hc | hc
    · exact W.sg c hc
    · simpa using hc
  nn k hk := by
    rcases Nat.lt_or_ge w.length k with h | h
    · rw [List.length_append] at hk
      simp at hk
      have f1 : ht (w ++ [40, 41]) w.length = 0 := by rw [ht_append (Nat.le_refl _), W.fin]
      have f2 : ht (w ++ [40, 41]) (w.length + 1) = 1 := by
        rw [ht_succ (c := 40) (by simp), f1]
        rfl
      rcases Nat.lt_or_ge (w.length + 1) k with h2 | h2
      · have : k = w.length + 1 + 1 := by omega
        rw [this, ht_succ (c := 41) (by simp), f2]
        decide
      · have : k = w.length + 1 := by omega
        rw [this, f2]
        decide
    · rw [ht_append h]
      exact W.nn k h
  fin := by
    have f1 : ht (w ++ [40, 41]) w.length = 0 := by rw [ht_append (Nat.le_refl _), W.fin]
    have f2 : ht (w ++ [40, 41]) (w.length + 1) = 1 := by
      rw [ht_succ (c := 40) (by simp), f1]
      rfl
    have : (w ++ [40, 41]).length = w.length + 1 + 1 := by simp
    rw [this, ht_succ (c := 41) (by simp), f2]
    rfl
/-- any text that is no word -/
theorem NoWd.str {s : Tx} (h : ¬ BrW s) (hl : s.length ≤ 1000) : NoWd (.str s) := by
  by_cases h40 : 40 < s.length
  · exact no_long h40 hl
  refine NoWd.of (by simp) (by simp [D.dep]) ?_
  unfold c_is_word
  apply Res_seq; simp [show ¬ (40 : Int) < s.length by omega, show s.length ≤ 100000 by omega]
  apply Res_seq; simp
  apply Res_seq; simp [sFor_at]
  refine for_items (fun k e l => k ≤ s.length ∧ (∃ d, e = [some (.str s), some (.int (ht s k)), d]) ∧ l = [] ∧ (∀ i c, i < k → s[i]? = some c → c = 40 ∨ c = 41) ∧ ∀ i, i ≤ k → 0 ≤ ht s i) _ ⟨by omega, ⟨none, by simp⟩, rfl, fun i c hi => by omega, fun i hi => by rw [show i = 0 by omega]; simp⟩ ?_ ?_
  · rintro k x e l hx ⟨_, ⟨d, rfl⟩, rfl, hs, hn⟩
    rw [List.getElem?_map] at hx
    obtain ⟨c, hc, rfl⟩ := Option.map_eq_some_iff.mp hx
    have hk : k < s.length := (List.getElem?_eq_some_iff.mp hc).1
    have h4 := ht_succ hc
    rw [tgt_var]
    have go : (c = 40 ∨ c = 41) → 0 ≤ ht s (k + 1) → (∀ i c, i < k + 1 → s[i]? = some c → c = 40 ∨ c = 41) ∧ ∀ i, i ≤ k + 1 → 0 ≤ ht s i := fun h1 h2 => by
      refine ⟨fun i c' hi hc' => ?_, fun i hi => ?_⟩
      · rcases Nat.lt_or_ge i k with h3 | h3
        · exact hs i c' h3 hc'
        · rw [show i = k by omega, hc] at hc'
          cases hc'
          exact h1
      · rcases Nat.lt_or_ge i (k + 1) with h3 | h3
        · exact hn i (by omega)
        · rw [show i = k + 1 by omega]
          exact h2
    by_cases c1 : c = 40
    · subst c1
      simp [up] at h4
      have h0 := hn k (Nat.le_refl _)
      have h5 : ¬ ht s k + 1 < 0 := by omega
      simp [sSeq_at, h5]
      exact ⟨by omega, by omega, (go (.inl rfl) (by omega)).1, (go (.inl rfl) (by omega)).2⟩
    · by_cases c2 : c = 41
      · subst c2
        simp [up] at h4
        by_cases h5 : ht s k - 1 < 0
        · simp [sSeq_at, h5]
        · simp [sSeq_at, h5]
          exact ⟨by omega, by omega, (go (.inr rfl) (by omega)).1, (go (.inr rfl) (by omega)).2⟩
      · simp [sSeq_at, c1, c2]
  · rintro e l ⟨_, ⟨d, rfl⟩, rfl, hs, hn⟩
    rw [List.length_map] at hs hn ⊢
    have hf : ht s s.length ≠ 0 := fun hf => h ⟨fun c hc => by
      obtain ⟨i, hi⟩ := List.getElem?_of_mem hc
      exact hs i c (List.getElem?_eq_some_iff.mp hi).1 hi, fun k hk => hn k hk, hf⟩
    simp [hf]
def crs (a b : Int × Int) : Bool := decide (a.1 < b.1) && (decide (b.1 < a.2) && decide (a.2 < b.2))
theorem cross_call {a b : Int × Int} {L : Hh} : callI m_cross [bowI a, bowI b] L = some (.ok (.bl (crs a b)), L) := by
  refine callI_pure (by simp) (by simp [D.deps]) (run_pure (by simp) ?_) (by simp)
  simp only [c_cross, bowI, crs]
  by_cases h1 : a.1 < b.1 <;> by_cases h2 : b.1 < a.2 <;> by_cases h3 : a.2 < b.2 <;> simp [h1, h2, h3]
theorem crossing_run (bs : List (Int × Int)) : ∃ r, m_crossing [.lst (bs.map bowI)] [] = some (.ok r, []) ∧ ((r = .non ∧ ∀ a ∈ bs, ∀ b ∈ bs, crs a b = false) ∨ ∃ a ∈ bs, ∃ b ∈ bs, crs a b = true ∧ r = .tup [bowI a, bowI b]) := by
  have key : Res (c_crossing (([D.lst (bs.map bowI)]).map some ++ List.replicate (3 - [D.lst (bs.map bowI)].length) none) []) (fun o _ _ => ∃ r, o = .rt r ∧ ((r = .non ∧ ∀ a ∈ bs, ∀ b ∈ bs, crs a b = false) ∨ ∃ a ∈ bs, ∃ b ∈ bs, crs a b = true ∧ r = .tup [bowI a, bowI b])) := by
    unfold c_crossing
    apply Res_seq; simp [sFor_at]
    refine for_items (fun k e l => l = [] ∧ (∃ x y, e = [some (.lst (bs.map bowI)), x, y]) ∧ ∀ (i : Nat) (a : Int × Int), i < k → bs[i]? = some a → ∀ b ∈ bs, crs a b = false) _ ⟨rfl, ⟨none, none, rfl⟩, fun i a h => by omega⟩ ?_ ?_
    · rintro k x e l hx ⟨rfl, ⟨x1, y1, rfl⟩, hno⟩
      rw [List.getElem?_map] at hx
      obtain ⟨a, ha, rfl⟩ := Option.map_eq_some_iff.mp hx
      have ham := List.mem_of_getElem? ha
      rw [tgt_var]
      simp [sFor_at]
      refine for_items (fun j e l => l = [] ∧ (∃ y, e = [some (.lst (bs.map bowI)), some (bowI a), y]) ∧ ∀ (i : Nat) (b : Int × Int), i < j → bs[i]? = some b → crs a b = false) _ ⟨rfl, ⟨y1, rfl⟩, fun i a h => by omega⟩ ?_ ?_
      · rintro j y e l hy ⟨rfl, ⟨y2, rfl⟩, hno2⟩
        rw [List.getElem?_map] at hy
        obtain ⟨b, hb, rfl⟩ := Option.map_eq_some_iff.mp hy
        have hbm := List.mem_of_getElem? hb
        rw [tgt_var]
        by_cases h : crs a b = true
        · simp [cross_call, h]
          exact ⟨a.1, a.2, ham, b.1, b.2, hbm, h, rfl, rfl⟩
        · simp only [Bool.not_eq_true] at h
          simp [cross_call, h]
          intro i p q hi he
          rcases Nat.lt_or_ge i j with h1 | h1
          · exact hno2 i (p, q) h1 he
          · have : i = j := by omega
            subst this
            rw [hb] at he
            cases he
            exact h
      · rintro e l ⟨rfl, ⟨y2, rfl⟩, hno2⟩
        simp
        intro i p q hi he
        rcases Nat.lt_or_ge i k with h1 | h1
        · intro r s hrs
          exact hno i (p, q) h1 he (r, s) hrs
        · have : i = k := by omega
          subst this
          rw [ha] at he
          cases he
          intro r s hrs
          obtain ⟨j, hj⟩ := List.getElem?_of_mem hrs
          exact hno2 j (r, s) (by simpa using (List.getElem?_eq_some_iff.mp hj).1) hj
    · rintro e l ⟨rfl, ⟨x1, y1, rfl⟩, hno⟩
      simp
      intro p q hpq r s hrs
      obtain ⟨j, hj⟩ := List.getElem?_of_mem hpq
      exact hno j (p, q) (by simpa using (List.getElem?_eq_some_iff.mp hj).1) hj (r, s) hrs
  obtain ⟨o, e, l, h1, r, rfl, h2⟩ := key
  refine ⟨r, ?_, h2⟩
  unfold m_crossing
  rw [run_rt h1]
  have hp : r.pure = true := by
    rcases h2 with ⟨rfl, _⟩ | ⟨a, _, b, _, _, rfl⟩ <;> simp
  simp [gc_pure hp]
theorem crossing_call (bs : List (Int × Int)) : ∃ r, (∀ (n : Nat) (L : Hh), L[n]? = some (.lst (bs.map bowI)) → callI m_crossing [.ref n] L = some (.ok r, L)) ∧ ((r = .non ∧ ∀ a ∈ bs, ∀ b ∈ bs, crs a b = false) ∨ ∃ a ∈ bs, ∃ b ∈ bs, crs a b = true ∧ r = .tup [bowI a, bowI b]) := by
  obtain ⟨r, h1, h2⟩ := crossing_run bs
  refine ⟨r, fun n L e => ?_, h2⟩
  have hp : r.pure = true := by
    rcases h2 with ⟨rfl, _⟩ | ⟨a, _, b, _, _, rfl⟩ <;> simp
  have hn : r.nolst = true := by
    rcases h2 with ⟨rfl, _⟩ | ⟨a, _, b, _, _, rfl⟩ <;> simp [bowI, D.nolst, D.nolsts]
  rw [callI_lent (ds := [.lst (bs.map bowI)]) (by simp [frz_bows e]) h1 hn rfl, shift_pure hp]
  simp
theorem is_whole_int {i : Int} {L : Hh} : callI m_is_whole [.int i] L = some (.ok (.bl true), L) :=
  callI_pure (by simp) (by simp [D.deps, D.dep]) (run_pure (by simp) (by simp [c_is_whole])) (by simp)
theorem are_bows_run (bs : List (Int × Int)) (hb : bs.length ≤ 20) (h : ∀ b ∈ bs, b.1 < b.2) : m_are_bows [.lst (bs.map bowI)] [] = some (.ok (.bl true), []) := by
  refine run_pure (by simp) ?_
  unfold c_are_bows
  have h1 : ¬ (20 : Int) < bs.length := by omega
  apply Res_seq; simp [h1]
  apply Res_seq; simp [sFor_at]
  refine for_items (fun k e l => l = [] ∧ ∃ x, e = [some (.lst (bs.map bowI)), x]) _ ⟨rfl, none, rfl⟩ ?_ ?_
  · rintro k x e l hx ⟨rfl, x1, rfl⟩
    rw [List.getElem?_map] at hx
    obtain ⟨b, hb, rfl⟩ := Option.map_eq_some_iff.mp hx
    have h2 := h b (List.mem_of_getElem? hb)
    have h3 : ¬ b.2 ≤ b.1 := by omega
    rw [tgt_var]
    simp [sSeq_at, bowI, is_whole_int, h3]
  · rintro e l ⟨rfl, x1, rfl⟩
    simp
theorem are_bows_call {bs : List (Int × Int)} (hb : bs.length ≤ 20) (h : ∀ b ∈ bs, b.1 < b.2) (L : Hh) : callI m_are_bows [.lst (bs.map bowI)] L = some (.ok (.bl true), L) :=
  callI_pure (by simp [pures_bowI]) (by have := deps_bowI (bs := bs); simp [D.deps, D.dep]; omega) (are_bows_run bs hb h) (by simp)
theorem word_of_run {w : Tx} (W : BrW w) (hw : w.length ≤ 40) (bs : List (Nat × Nat)) (hp : bs.Perm (bows w)) : m_word_of [.lst (bs.map bowD)] [] = some (.ok (.str w), []) := by
  have hb := bows_half W
  have hbl : bs.length ≤ 20 := by
    have := hp.length_eq
    omega
  have hmem : ∀ b ∈ bs, w[b.1]? = some 40 ∧ mate w b.1 = b.2 := fun b h => mem_bows.mp (hp.mem_iff.mp h)
  refine run_pure (by simp) ?_
  unfold c_word_of
  have ha := are_bows_call (bs := bs.map bI) (by simpa using hbl) (fun b h => by
    obtain ⟨c, hc, rfl⟩ := List.mem_map.mp h
    have h1 := hmem c hc
    have := (W.is_mate h1.1).lt
    simp [bI]
    omega)
  rw [← map_bowD] at ha
  apply Res_seq; simp [ha]
  apply Res_seq; simp
  apply Res_seq; simp [sFor_at]
  refine for_items (fun k e l => k ≤ bs.length ∧ ∃ (n : Nat) (x2 x3 x4 x5 : Option D), e = [some (.lst (bs.map bowD)), some (.ref n), x2, none, none, none] ∧ l[n]? = some (.lst ((((bs.take k).flatMap fun b => [b.1, b.2]).map fun i : Nat => (i : Int)).map .int)) ∧ 0 < l.length) _ ⟨by omega, 0, none, none, none, none, rfl, rfl, by simp⟩ ?_ ?_
  · rintro k x e l hx ⟨_, n, x2, x3, x4, x5, rfl, hn, hl⟩
    rw [List.getElem?_map] at hx
    obtain ⟨b, hb, rfl⟩ := Option.map_eq_some_iff.mp hx
    have hk : k < bs.length := (List.getElem?_eq_some_iff.mp hb).1
    have hnl : n < l.length := (List.getElem?_eq_some_iff.mp hn).1
    rw [tgt_var]
    have hlen : (((bs.take k).flatMap fun b => [b.1, b.2])).length ≤ 2 * k := by
      have : ∀ l : List (Nat × Nat), (l.flatMap fun b => [b.1, b.2]).length = 2 * l.length := by
        intro l
        induction l with
        | nil => rfl
        | cons x l ih => simp [ih]; omega
      rw [this, List.length_take]
      omega
    have hadd := opAdd_lists (x := .ref n) (y := .ref l.length) (L := l ++ [.lst [.int b.1, .int b.2]]) (a := (((bs.take k).flatMap fun b => [b.1, b.2]).map fun i : Nat => (i : Int)).map .int) (b := [.int b.1, .int b.2])
      (by simp [List.getElem?_append_left hnl, hn]) (by simp) (by simp only [List.length_map, List.length_cons, List.length_nil]; omega)
    simp [bowD_eq] at hadd ⊢
    simp [hadd]
    refine ⟨by omega, ?_⟩
    rw [List.take_add_one, hb]
    simp
  · rintro e l ⟨_, n, x2, x3, x4, x5, rfl, hn, hl⟩
    rw [List.length_map, List.take_length] at hn
    have hperm := ends_perm W hp
    have hsort : ((bs.flatMap fun b => [b.1, b.2]).map fun i : Nat => (i : Int)).mergeSort leI = (List.range w.length).map fun i : Nat => (i : Int) := sortI_eq (hperm.map _) (by
      refine List.Pairwise.map _ (fun a b h => ?_) List.pairwise_lt_range
      simp [leI]
      omega)
    have hlen : (bs.flatMap fun b => [b.1, b.2]).length = w.length := by
      have := hperm.length_eq
      simpa using this
    dsimp only
    have h1 := opSorted_ints (x := .ref n) (L := l) (ns := (bs.flatMap fun b => [b.1, b.2]).map fun i : Nat => (i : Int)) (by simp [hn]) (by simp only [List.length_map]; omega)
    rw [hsort] at h1
    have hnl : n < l.length := (List.getElem?_eq_some_iff.mp hn).1
    have hrange : rangeL 0 w.length = ((List.range w.length).map fun i : Nat => (i : Int)).map .int := by simp [rangeL, Function.comp_def]
    generalize hws : (((List.range w.length).map fun i : Nat => (i : Int)).map D.int) = ws at h1 hrange
    have hwp : D.pures ws = true := by rw [← hws]; exact pures_int
    have hwd : D.deps ws ≤ 7 := by rw [← hws]; have := deps_int (ns := (List.range w.length).map fun i : Nat => (i : Int)); omega
    have hlen2 : (((bs.flatMap fun b => [b.1, b.2]).map fun i : Nat => (i : Int)).map D.int).length = w.length := by simp only [List.length_map]; exact hlen
    generalize hes : (((bs.flatMap fun b => [b.1, b.2]).map fun i : Nat => (i : Int)).map D.int) = es at hn hlen2
    have hn1 : (l ++ [Cell.lst ws])[n]? = some (.lst es) := by rw [List.getElem?_append_left hnl]; exact hn
    have hn2 : (l ++ [Cell.lst ws] ++ [Cell.lst ws])[n]? = some (.lst es) := by rw [List.getElem?_append_left (by simp; omega)]; exact hn1
    have heq : eqD (l ++ [Cell.lst ws] ++ [Cell.lst ws]) (.ref l.length) (.ref (l.length + 1)) = some true := eqD_same (by simp) (by simp) hwp hwd
    simp only [List.append_assoc, List.cons_append, List.nil_append] at heq
    apply Res_seq
    simp [h1, hn1, hlen2, hrange, heq, big_of (i := w.length) (by omega), show (w.length : Int) ≤ 10000 by omega]
    generalize hl2 : (l ++ [Cell.lst ws, Cell.lst ws]) = l2
    have hn3 : l2[n]? = some (.lst es) := by rw [← hl2, List.getElem?_append_left hnl]; exact hn
    have hnl2 : n < l2.length := (List.getElem?_eq_some_iff.mp hn3).1
    apply Res_seq
    have hlc := lc_plain (s := .cell n es) (g := gVar 5) (t := tTrue) (e := eC (.str [41])) (env := [some (.lst (bs.map bowD)), some (.ref n), x2, none, none, none]) (L := l2) (fun _ => some (.str [41])) (by simp only [xs_cell]; omega)
      (fun acc' => by rw [stays_cell, List.getElem?_append_left hnl2]; exact hn3) (fun x hx acc' => ⟨_, rfl, .inr ⟨_, rfl, rfl, rfl⟩⟩)
    rw [sSet_at, eLc_at, iSeq_at]
    simp [hn3, wipeE]
    simp at hlc
    rw [hlc]
    simp
    apply Res_seq
    simp [sFor_at]
    refine for_items (fun k e l => k ≤ bs.length ∧ ∃ x2 : Option D, e = [some (.lst (bs.map bowD)), some (.ref n), x2, some (.ref l2.length), none, none] ∧ l = l2 ++ [.lst (sgD w.length ((bs.map (·.1)).take k))]) _ ⟨by omega, x2, rfl, ?_⟩ ?_ ?_
    · rw [List.take_zero, sgD_nil, ← hlen2, List.map_const']
    · rintro k x e l hx ⟨_, x2, rfl, rfl⟩
      rw [List.getElem?_map] at hx
      obtain ⟨b, hb, rfl⟩ := Option.map_eq_some_iff.mp hx
      have hk : k < bs.length := (List.getElem?_eq_some_iff.mp hb).1
      have h1 := hmem b (List.mem_of_getElem? hb)
      have hbw : b.1 < w.length := (List.getElem?_eq_some_iff.mp h1.1).1
      rw [tgt_var]
      have hix := ixN_of (n := w.length) (i := b.1) (by omega) (by omega)
      simp [bowD_eq, hix, sgD_set]
      refine ⟨by omega, ?_⟩
      rw [List.take_add_one, List.getElem?_map, hb]
      rfl
    · rintro e l ⟨_, x2, rfl, rfl⟩
      have hfin : sgD w.length ((bs.map (·.1)).take (bs.map bowD).length) = (w.map fun c => [c]).map D.str := by
        rw [List.length_map, show bs.length = (bs.map (·.1)).length by simp, List.take_length]
        refine sgD_all W fun i hi => ?_
        rw [List.mem_map]
        constructor
        · rintro ⟨b, hb, rfl⟩
          exact (hmem b hb).1
        · intro h4
          exact ⟨(i, mate w i), hp.mem_iff.mpr (mem_bows.mpr ⟨h4, rfl⟩), rfl⟩
      rw [hfin]
      dsimp only
      apply Res_seq
      have hj := join_ones (w := w) (by omega) (n := l2.length) (L := l2 ++ [.lst ((w.map fun c => [c]).map D.str)]) (by simp)
      generalize hws2 : (w.map fun c => [c]).map D.str = ws2 at hj
      simp [hj]
      apply Res_seq
      have hrow : bs.map bowD = (bs.map bowR).map rowD := by simp [bowD]
      have hso := opSorted_rowsL (x := .lst (bs.map bowD)) (L := l2 ++ [.lst ws2] ++ [.lst ((bows w).map bowD)]) (rs := bs.map bowR) (by rw [← hrow]; rfl) (by simp only [List.length_map]; omega) (by
        intro r hr
        obtain ⟨b, _, rfl⟩ := List.mem_map.mp hr
        exact List.cons_ne_nil _ _)
      rw [sort_eq (hp.map bowR) bows_sorted] at hso
      have hr2 : ((bows w).map bowR).map rowD = (bows w).map bowD := by simp [bowD]
      rw [hr2] at hso
      have hpb : D.pures ((bows w).map bowD) = true := pures_map fun a _ => pure_bowD
      have hdb : D.deps ((bows w).map bowD) ≤ 7 := by
        have : D.deps ((bows w).map bowD) ≤ 2 := deps_map fun a _ => by simp
        omega
      have heq2 : eqD (l2 ++ [.lst ws2] ++ [.lst ((bows w).map bowD)] ++ [.lst ((bows w).map bowD)]) (.ref (l2.length + 1)) (.ref (l2.length + 1 + 1)) = some true := by
        rw [List.append_assoc, List.append_assoc]
        exact eqD_same (by rw [at_end1]; rfl) (by rw [at_end2]; rfl) hpb hdb
      simp at hso heq2
      simp [pairs_call W hw, hso, heq2]
theorem word_of_call {w : Tx} (W : BrW w) (hw : w.length ≤ 40) (bs : List (Nat × Nat)) (hp : bs.Perm (bows w)) {n : Nat} {L : Hh} (e : L[n]? = some (.lst (bs.map bowD))) : callI m_word_of [.ref n] L = some (.ok (.str w), L) := by
  rw [callI_lent (ds := [.lst (bs.map bowD)]) (by rw [map_bowD] at e ⊢; simp [frz_bows e]) (word_of_run W hw bs hp) (by simp [D.nolst]) rfl]
  simp [D.shift]
/-! bows that do not cross, at all ends: a word -/
structure Pairing (n : Nat) (bs : List (Nat × Nat)) : Prop where
  nd : bs.Nodup
  lt : ∀ b ∈ bs, b.1 < b.2 ∧ b.2 < n
  all : ∀ i, i < n → ∃ b ∈ bs, i = b.1 ∨ i = b.2
  one : ∀ b ∈ bs, ∀ c ∈ bs, (b.1 = c.1 ∨ b.1 = c.2 ∨ b.2 = c.1 ∨ b.2 = c.2) → b = c
  nc : ∀ b ∈ bs, ∀ c ∈ bs, ¬ (b.1 < c.1 ∧ c.1 < b.2 ∧ b.2 < c.2)
def wOf (n : Nat) (bs : List (Nat × Nat)) : Tx := (List.range n).map fun i => if i ∈ bs.map (·.1) then 40 else 41
/-- the bows that are open at k -/
def opB (bs : List (Nat × Nat)) (k : Nat) : Nat := bs.countP fun b => decide (b.1 < k ∧ k ≤ b.2)
theorem countP_one {α : Type} [DecidableEq α] {p q : α → Bool} {b : α} : ∀ {l : List α}, l.Nodup → b ∈ l → (∀ c ∈ l, c ≠ b → p c = q c) → p b = false → q b = true → l.countP q = l.countP p + 1
  | [], _, h, _, _, _ => by cases h
  | c :: l, nd, h, hc, h1, h2 => by
    rw [List.nodup_cons] at nd
    rw [List.countP_cons, List.countP_cons]
    by_cases e : c = b
    · subst e
      have : l.countP q = l.countP p := List.countP_congr fun x hx => by
        rw [hc x (List.mem_cons_of_mem _ hx) fun e => nd.1 (e ▸ hx)]
      rw [this, h1, h2]
      simp
    · have hb : b ∈ l := (List.mem_cons.mp h).resolve_left fun z => e z.symm
      have ih := countP_one (p := p) (q := q) nd.2 hb (fun x hx => hc x (List.mem_cons_of_mem _ hx)) h1 h2
      rw [ih, hc c List.mem_cons_self e]
      omega
section
variable {n : Nat} {bs : List (Nat × Nat)}
theorem wOf_len : (wOf n bs).length = n := by simp [wOf]
theorem wOf_get {i : Nat} (h : i < n) : (wOf n bs)[i]? = some (if i ∈ bs.map (·.1) then 40 else 41) := by
  rw [wOf, List.getElem?_map, List.getElem?_range h]
  rfl
theorem Pairing.ht (P : Pairing n bs) : ∀ k, k ≤ n → ht (wOf n bs) k = opB bs k
  | 0, _ => by
    have : opB bs 0 = 0 := by
      unfold opB
      rw [List.countP_eq_zero]
      intro b _
      simp
    rw [this]
    simp [Rg.ht]
  | k + 1, hk => by
    have ih := P.ht k (by omega)
    rw [ht_succ (wOf_get (by omega)), ih]
    obtain ⟨b, hb, hkb⟩ := P.all k (by omega)
    have hlt := P.lt b hb
    have other : ∀ c ∈ bs, c ≠ b → c.1 ≠ k ∧ c.2 ≠ k := fun c hc hne => by
      constructor
      · intro e
        exact hne (P.one c hc b hb (by rcases hkb with h | h <;> omega))
      · intro e
        exact hne (P.one c hc b hb (by rcases hkb with h | h <;> omega))
    by_cases h : k = b.1
    · have hm : k ∈ bs.map (·.1) := List.mem_map.mpr ⟨b, hb, h.symm⟩
      rw [if_pos hm]
      have : opB bs (k + 1) = opB bs k + 1 := countP_one P.nd hb (fun c hc hne => by
        have := other c hc hne
        rw [decide_eq_decide]
        omega) (by simp; omega) (by simp; omega)
      rw [this]
      simp [up]
    · have h2 : k = b.2 := hkb.resolve_left h
      have hm : k ∉ bs.map (·.1) := fun hm => by
        obtain ⟨c, hc, e⟩ := List.mem_map.mp hm
        by_cases e2 : c = b
        · subst e2
          omega
        · exact (other c hc e2).1 e
      rw [if_neg hm]
      have : opB bs k = opB bs (k + 1) + 1 := countP_one P.nd hb (fun c hc hne => by
        have := other c hc hne
        rw [decide_eq_decide]
        omega) (by simp; omega) (by simp; omega)
      rw [this]
      simp [up]
      omega
theorem Pairing.word (P : Pairing n bs) : BrW (wOf n bs) where
  sg c hc := by
    obtain ⟨i, _, rfl⟩ := List.mem_map.mp hc
    split <;> simp
  nn k hk := by
    rw [wOf_len] at hk
    rw [P.ht k hk]
    omega
  fin := by
    rw [wOf_len, P.ht n (Nat.le_refl _)]
    have : opB bs n = 0 := by
      unfold opB
      rw [List.countP_eq_zero]
      intro b hb
      have := P.lt b hb
      simp
      omega
    rw [this]
    rfl
theorem Pairing.mate (P : Pairing n bs) {b : Nat × Nat} (hb : b ∈ bs) : Mate (wOf n bs) b.1 b.2 := by
  obtain ⟨h1, h2⟩ := P.lt b hb
  have self : ∀ c ∈ bs, c.1 = b.1 ∨ c.1 = b.2 ∨ c.2 = b.1 ∨ c.2 = b.2 → c = b := fun c hc h => P.one c hc b hb h
  refine ⟨h1, by rw [wOf_len]; exact h2, ?_, ?_, fun r hr hr2 => ?_⟩
  · rw [wOf_get (by omega), if_pos (List.mem_map.mpr ⟨b, hb, rfl⟩)]
  · rw [P.ht _ (by omega), P.ht _ (by omega)]
    congr 1
    refine List.countP_congr fun c hc => ?_
    have n1 := P.nc b hb c hc
    have n2 := P.nc c hc b hb
    have n3 := P.lt c hc
    have n4 := self c hc
    by_cases e : c = b
    · subst e
      simp
    · have : c.1 ≠ b.1 ∧ c.1 ≠ b.2 ∧ c.2 ≠ b.1 ∧ c.2 ≠ b.2 := ⟨fun z => e (n4 (.inl z)), fun z => e (n4 (.inr (.inl z))), fun z => e (n4 (.inr (.inr (.inl z)))), fun z => e (n4 (.inr (.inr (.inr z))))⟩
      simp
      omega
  · rw [P.ht _ (by omega), P.ht _ (by omega)]
    have key : opB bs b.1 < opB bs r := by
      unfold opB
      have h3 : bs.countP (fun c => decide (c.1 < b.1 ∧ b.1 ≤ c.2)) + 1 = bs.countP (fun c => decide (c.1 < b.1 ∧ b.1 ≤ c.2) || decide (c = b)) := by
        refine (countP_one P.nd hb (fun c hc hne => by simp [hne]) (by simp) (by simp)).symm
      have h4 : bs.countP (fun c => decide (c.1 < b.1 ∧ b.1 ≤ c.2) || decide (c = b)) ≤ bs.countP (fun c => decide (c.1 < r ∧ r ≤ c.2)) := by
        refine List.countP_mono_left fun c hc h => ?_
        simp at h ⊢
        rcases h with h | rfl
        · have n2 := P.nc c hc b hb
          have n4 := self c hc
          by_cases e : c = b
          · subst e
            omega
          · have : c.2 ≠ b.1 ∧ c.2 ≠ b.2 := ⟨fun z => e (n4 (.inr (.inr (.inl z)))), fun z => e (n4 (.inr (.inr (.inr z))))⟩
            omega
        · omega
      omega
    omega
theorem Pairing.perm (P : Pairing n bs) : bs.Perm (bows (wOf n bs)) := by
  refine (List.perm_ext_iff_of_nodup P.nd bows_nodup).mpr fun c => ?_
  rw [mem_bows]
  constructor
  · intro hc
    have M := P.mate hc
    exact ⟨M.op, mate_eq M⟩
  · rintro ⟨h1, h2⟩
    have hn : c.1 < n := by
      have := (List.getElem?_eq_some_iff.mp h1).1
      rwa [wOf_len] at this
    rw [wOf_get hn] at h1
    by_cases e : c.1 ∈ bs.map (·.1)
    · obtain ⟨b, hb, eb⟩ := List.mem_map.mp e
      have M := P.mate hb
      rw [eb] at M
      have := mate_eq M
      rw [h2] at this
      have : c = b := Prod.ext eb.symm this
      rw [this]
      exact hb
    · rw [if_neg e] at h1
      exact absurd h1 (by simp)
end
theorem bows_pairing {w : Tx} (W : BrW w) : Pairing w.length (bows w) where
  nd := bows_nodup
  lt b hb := by
    obtain ⟨h1, h2⟩ := mem_bows.mp hb
    have M := W.is_mate h1
    rw [h2] at M
    exact ⟨M.lt, M.hq⟩
  all i hi := by
    by_cases h : w[i]? = some 40
    · exact ⟨(i, mate w i), mem_bows.mpr ⟨h, rfl⟩, .inl rfl⟩
    · obtain ⟨p, hp, rfl⟩ := W.closer hi h
      exact ⟨(p, mate w p), mem_bows.mpr ⟨hp, rfl⟩, .inr rfl⟩
  one b hb c hc h := by
    obtain ⟨b1, b2⟩ := mem_bows.mp hb
    obtain ⟨c1, c2⟩ := mem_bows.mp hc
    have Mb := W.is_mate b1
    have Mc := W.is_mate c1
    rw [b2] at Mb
    rw [c2] at Mc
    rcases h with h | h | h | h
    · exact Prod.ext h (by rw [← b2, ← c2, h])
    · exact absurd (h ▸ b1) Mc.clo
    · exact absurd (h.symm ▸ c1) Mb.clo
    · rw [h] at Mb
      exact Prod.ext (Mb.inj Mc) h
  nc b hb c hc h := by
    obtain ⟨b1, b2⟩ := mem_bows.mp hb
    obtain ⟨c1, c2⟩ := mem_bows.mp hc
    have Mb := W.is_mate b1
    have Mc := W.is_mate c1
    rw [b2] at Mb
    rw [c2] at Mc
    have h1 := Mc.ab (b.2 + 1) (by omega) (by omega)
    have h2 := Mb.ret
    have h3 := Mb.ab c.1 (by omega) (by omega)
    omega
/-- two bows drawn anew over their four ends -/
def turnTwo (p q : Nat × Nat) : List (Nat × Nat) := if q.2 < p.2 then [(p.1, q.1), (q.2, p.2)] else [(p.1, q.2), (p.2, q.1)]
/-- .. are again bows over all ends, where they do not cross -/
theorem Pairing.turn {n : Nat} {bs rest : List (Nat × Nat)} {p q : Nat × Nat} (P : Pairing n bs) (hp : bs.Perm (p :: q :: rest)) (hpq : p.1 < q.1) (nc : ∀ b ∈ rest ++ turnTwo p q, ∀ c ∈ rest ++ turnTwo p q, ¬ (b.1 < c.1 ∧ c.1 < b.2 ∧ b.2 < c.2)) : Pairing n (rest ++ turnTwo p q) := by
  have nd := hp.nodup_iff.mp P.nd
  rw [List.nodup_cons, List.nodup_cons] at nd
  obtain ⟨n1, n2, n3⟩ := nd
  have mp : p ∈ bs := hp.mem_iff.mpr (by simp)
  have mq : q ∈ bs := hp.mem_iff.mpr (by simp)
  have mr : ∀ b ∈ rest, b ∈ bs := fun b hb => hp.mem_iff.mpr (by simp [hb])
  have hne : p ≠ q := fun e => n1 (by simp [e])
  have lp := P.lt p mp
  have lq := P.lt q mq
  have four : p.1 ≠ q.2 ∧ p.2 ≠ q.1 ∧ p.2 ≠ q.2 := ⟨fun e => hne (P.one p mp q mq (.inr (.inl e))), fun e => hne (P.one p mp q mq (.inr (.inr (.inl e)))), fun e => hne (P.one p mp q mq (.inr (.inr (.inr e))))⟩
  have ncr := P.nc p mp q mq
  have apart : ∀ b ∈ rest, (b.1 ≠ p.1 ∧ b.1 ≠ p.2 ∧ b.2 ≠ p.1 ∧ b.2 ≠ p.2) ∧ b.1 ≠ q.1 ∧ b.1 ≠ q.2 ∧ b.2 ≠ q.1 ∧ b.2 ≠ q.2 := fun b hb => by
    have e1 : b ≠ p := fun e => n1 (by rw [← e]; simp [hb])
    have e2 : b ≠ q := fun e => n2 (e ▸ hb)
    exact ⟨⟨fun z => e1 (P.one b (mr b hb) p mp (.inl z)), fun z => e1 (P.one b (mr b hb) p mp (.inr (.inl z))), fun z => e1 (P.one b (mr b hb) p mp (.inr (.inr (.inl z)))), fun z => e1 (P.one b (mr b hb) p mp (.inr (.inr (.inr z))))⟩,
      fun z => e2 (P.one b (mr b hb) q mq (.inl z)), fun z => e2 (P.one b (mr b hb) q mq (.inr (.inl z))), fun z => e2 (P.one b (mr b hb) q mq (.inr (.inr (.inl z)))), fun z => e2 (P.one b (mr b hb) q mq (.inr (.inr (.inr z))))⟩
  -- what the two new ones are
  have tt : ∃ a b c d, turnTwo p q = [(a, b), (c, d)] ∧ a < b ∧ b < n ∧ c < d ∧ d < n ∧ a ≠ c ∧ a ≠ d ∧ b ≠ c ∧ b ≠ d ∧ (∀ x, (x = p.1 ∨ x = p.2 ∨ x = q.1 ∨ x = q.2) ↔ (x = a ∨ x = b ∨ x = c ∨ x = d)) := by
    unfold turnTwo
    by_cases h : q.2 < p.2
    · rw [if_pos h]
      exact ⟨_, _, _, _, rfl, by omega, by omega, by omega, by omega, by omega, by omega, by omega, by omega, fun x => by omega⟩
    · rw [if_neg h]
      exact ⟨_, _, _, _, rfl, by omega, by omega, by omega, by omega, by omega, by omega, by omega, by omega, fun x => by omega⟩
  obtain ⟨a, b, c, d, et, t1, t2, t3, t4, t5, t6, t7, t8, hx⟩ := tt
  rw [et] at nc ⊢
  have apart2 : ∀ z ∈ rest, (z.1 ≠ a ∧ z.1 ≠ b ∧ z.1 ≠ c ∧ z.1 ≠ d) ∧ z.2 ≠ a ∧ z.2 ≠ b ∧ z.2 ≠ c ∧ z.2 ≠ d := fun z hz => by
    have h1 := apart z hz
    have h2 := hx z.1
    have h3 := hx z.2
    omega
  refine ⟨?_, ?_, ?_, ?_, nc⟩
  · rw [List.nodup_append]
    refine ⟨n3, by simp; omega, fun z hz y hy e => ?_⟩
    subst e
    have h1 := apart2 z hz
    simp at hy
    rcases hy with rfl | rfl <;> simp at h1
  · intro z hz
    rcases List.mem_append.mp hz with hz | hz
    · exact P.lt z (mr z hz)
    · simp at hz
      rcases hz with rfl | rfl
      · exact ⟨t1, t2⟩
      · exact ⟨t3, t4⟩
  · intro i hi
    obtain ⟨z, hz, hi⟩ := P.all i hi
    have hz' := hp.mem_iff.mp hz
    simp at hz'
    have hxi := hx i
    rcases hz' with rfl | rfl | hz'
    · have : i = a ∨ i = b ∨ i = c ∨ i = d := by omega
      rcases this with h | h | h | h
      · exact ⟨(a, b), by simp, .inl h⟩
      · exact ⟨(a, b), by simp, .inr h⟩
      · exact ⟨(c, d), by simp, .inl h⟩
      · exact ⟨(c, d), by simp, .inr h⟩
    · have : i = a ∨ i = b ∨ i = c ∨ i = d := by omega
      rcases this with h | h | h | h
      · exact ⟨(a, b), by simp, .inl h⟩
      · exact ⟨(a, b), by simp, .inr h⟩
      · exact ⟨(c, d), by simp, .inl h⟩
      · exact ⟨(c, d), by simp, .inr h⟩
    · exact ⟨z, by simp [hz'], hi⟩
  · intro z hz y hy h
    rcases List.mem_append.mp hz with hz | hz <;> rcases List.mem_append.mp hy with hy | hy
    · exact P.one z (mr z hz) y (mr y hy) h
    · have h1 := apart2 z hz
      simp at hy
      rcases hy with rfl | rfl <;> simp at h <;> omega
    · have h1 := apart2 y hy
      simp at hz
      rcases hz with rfl | rfl <;> simp at h <;> omega
    · simp at hz hy
      rcases hz with rfl | rfl <;> rcases hy with rfl | rfl <;> simp at h ⊢ <;> omega
/-- all but two of a row -/
def exc {α : Type} (i j : Nat) (bs : List α) (d : α) : List α := ((List.range bs.length).filter fun k => decide (k ≠ i ∧ k ≠ j)).map fun k => bs.getD k d
theorem exc_perm {α : Type} {i j : Nat} {bs : List α} {d p q : α} (hij : i < j) (hp : bs[i]? = some p) (hq : bs[j]? = some q) : bs.Perm (p :: q :: exc i j bs d) := by
  have hi : i < bs.length := (List.getElem?_eq_some_iff.mp hp).1
  have hj : j < bs.length := (List.getElem?_eq_some_iff.mp hq).1
  have h1 : (List.range bs.length).Perm (i :: j :: (List.range bs.length).filter fun k => decide (k ≠ i ∧ k ≠ j)) := by
    refine (List.perm_ext_iff_of_nodup List.nodup_range ?_).mpr fun k => ?_
    · rw [List.nodup_cons, List.nodup_cons]
      refine ⟨by simp; omega, by simp, List.Pairwise.filter _ List.nodup_range⟩
    · simp
      omega
  have h2 : (List.range bs.length).map (fun k => bs.getD k d) = bs := by
    refine List.ext_getElem? fun k => ?_
    rw [List.getElem?_map]
    rcases Nat.lt_or_ge k bs.length with h | h
    · rw [List.getElem?_range h]
      simp [h]
    · rw [List.getElem?_eq_none (by simpa using h), List.getElem?_eq_none h]
      rfl
  have h3 := h1.map fun k => bs.getD k d
  rw [h2] at h3
  simpa [exc, hp, hq] using h3
theorem exc_len {α : Type} {i j : Nat} {bs : List α} {d : α} : (exc i j bs d).length ≤ bs.length := by
  unfold exc
  rw [List.length_map]
  have := List.length_filter_le (fun k => decide (k ≠ i ∧ k ≠ j)) (List.range bs.length)
  simpa using this
theorem filterMap_pick {α β : Type} (t : α → Bool) (g : α → β) : ∀ l : List α, (l.filterMap fun a => if t a = true then some (g a) else none) = (l.filter t).map g
  | [] => rfl
  | a :: l => by
    have ih := filterMap_pick t g l
    by_cases h : t a = true
    · simp [h, ih]
    · simp [h, ih]
theorem turned_two_run (p q : Nat × Nat) : m_turned_two [bowD p, bowD q] [] = some (.ok (.ref 0), [.lst ((turnTwo p q).map bowD)]) := by
  refine run_list (pures_map fun a _ => pure_bowD) ?_
  unfold c_turned_two turnTwo
  by_cases h : q.2 < p.2
  · simp [bowD_eq, sSeq_at, h]
  · simp [bowD_eq, sSeq_at, h]
theorem turned_two_call (p q : Nat × Nat) (L : Hh) : callI m_turned_two [bowD p, bowD q] L = some (.ok (.ref L.length), L ++ [.lst ((turnTwo p q).map bowD)]) :=
  callI_list (by simp) (by simp [D.deps]) (turned_two_run p q) (pures_map fun a _ => pure_bowD)
theorem crs_not {a b : Nat × Nat} (h : crs (bI a) (bI b) = false) : ¬ (a.1 < b.1 ∧ b.1 < a.2 ∧ a.2 < b.2) := by
  intro ⟨h1, h2, h3⟩
  simp [crs, bI, h1, h2, h3] at h
/-- the caught NoBow is of no other class -/
theorem alone_run_NoBow (a : Nat) : m__law_alone "NoBow" a none [.exn "NoBow" [.int (a : Nat)]] [] = some (.ok (.bl true), []) := by
  refine run_pure (by simp) ?_
  unfold c__law_alone
  apply Res_seq; simp [List.lookup]
  apply Res_seq; simp [List.lookup, opAdd, look]
  apply Res_seq; simp [List.lookup, opAdd, look]
  have hlc := lc_plain (s := .cell 4 ([false, false, false, false, true, false, false, false, false, false, false].map D.bl)) (g := gVar 2) (t := tVal (eVar 2)) (e := eVar 2) (env := [some (.exn "NoBow" [.int (a : Nat)]), some (.ref 4), none]) (L := [.lst ([false, false, false, false].map D.bl), .lst ([true, false, false, false].map D.bl), .lst ([false, false, false, false, true, false, false, false].map D.bl), .lst ([false, false, false].map D.bl), .lst ([false, false, false, false, true, false, false, false, false, false, false].map D.bl)]) (fun d => if d = .bl true then some d else none) (by simp) (fun acc' => by simp [Src.stays]) (fun x hx acc' => by
    obtain ⟨b, _, rfl⟩ := List.mem_map.mp hx
    refine ⟨_, rfl, ?_⟩
    cases b
    · exact .inl (by simp)
    · exact .inr ⟨_, by simp; rfl, by simp⟩)
  simp [Src.xs] at hlc
  have hat : atI ([false, false, false, false, true, false, false, false, false, false, false].map D.bl) 10 = some (.bl false) := rfl
  simp only [List.map_cons, List.map_nil] at hat
  simp [eLc, wipeE, hlc, hat]
theorem alone_NoBow (a : Nat) (H : Hh) : callI (m__law_alone "NoBow" a none) [.exn "NoBow" [.int (a : Nat)]] H = some (.ok (.bl true), H) := by
  unfold callI
  simp [alone_run_NoBow, D.shift, D.nolst]
/-- the caught Crossed is of no other class -/
theorem alone_run_Crossed (a dx : Nat) (d : D) : m__law_alone "Crossed" a (some dx) [.exn "Crossed" [.int (a : Nat), .exn "bows" [.int (dx : Nat), d]]] [] = some (.ok (.bl true), []) := by
  refine run_pure (by simp) ?_
  unfold c__law_alone
  apply Res_seq; simp [List.lookup]
  apply Res_seq; simp [List.lookup, opAdd, look]
  apply Res_seq; simp [List.lookup, opAdd, look]
  have hlc := lc_plain (s := .cell 4 ([false, true, false, false, false, false, false, false, false, false, false].map D.bl)) (g := gVar 2) (t := tVal (eVar 2)) (e := eVar 2) (env := [some (.exn "Crossed" [.int (a : Nat), .exn "bows" [.int (dx : Nat), d]]), some (.ref 4), none]) (L := [.lst ([false, true, false, false].map D.bl), .lst ([false, false, false, false].map D.bl), .lst ([false, true, false, false, false, false, false, false].map D.bl), .lst ([false, false, false].map D.bl), .lst ([false, true, false, false, false, false, false, false, false, false, false].map D.bl)]) (fun d => if d = .bl true then some d else none) (by simp) (fun acc' => by simp [Src.stays]) (fun x hx acc' => by
    obtain ⟨b, _, rfl⟩ := List.mem_map.mp hx
    refine ⟨_, rfl, ?_⟩
    cases b
    · exact .inl (by simp)
    · exact .inr ⟨_, by simp; rfl, by simp⟩)
  simp [Src.xs] at hlc
  have hat : atI ([false, true, false, false, false, false, false, false, false, false, false].map D.bl) 10 = some (.bl false) := rfl
  simp only [List.map_cons, List.map_nil] at hat
  simp [eLc, wipeE, hlc, hat]
theorem alone_Crossed (a dx : Nat) (d : D) (H : Hh) : callI (m__law_alone "Crossed" a (some dx)) [.exn "Crossed" [.int (a : Nat), .exn "bows" [.int (dx : Nat), d]]] H = some (.ok (.bl true), H) := by
  unfold callI
  simp [alone_run_Crossed, D.shift, D.nolst]
def aftB (w : Tx) (i j : Nat) (p q : Nat × Nat) : List (Nat × Nat) := exc i j (bows w) (0, 0) ++ turnTwo p q
theorem turned_exact {w : Tx} (W : BrW w) (hl : w.length ≤ 40) {i j : Nat} (hij : i < j) (hj : j < (bows w).length) {p q : Nat × Nat} (hp : (bows w)[i]? = some p) (hq : (bows w)[j]? = some q) :
    Res (c_turned (([D.str w, D.int i, D.int j]).map some ++ List.replicate (7 - [D.str w, D.int i, D.int j].length) none) []) (fun o _ _ => (∃ a ∈ aftB w i j p q, ∃ b ∈ aftB w i j p q, crs (bI a) (bI b) = true ∧ o = .ex ⟨"Crossed", [("bows", .tup [bowD a, bowD b])]⟩) ∨
      ((∀ a ∈ aftB w i j p q, ∀ b ∈ aftB w i j p q, crs (bI a) (bI b) = false) ∧ o = .rt (.str (wOf w.length (aftB w i j p q))))) := by
  have hh := bows_half W
  have hperm := exc_perm (d := (0, 0)) hij hp hq
  have hrl := exc_len (i := i) (j := j) (bs := bows w) (d := (0, 0))
  have hpq : p.1 < q.1 := by
    have h1 : (bows w).map (·.1) = ops w w.length := by simp [bows, Function.comp_def]
    have h2 := ops_sorted (w := w) (k := w.length)
    rw [← h1] at h2
    have h3 := List.pairwise_iff_getElem.mp h2 i j (by simp; omega) (by simpa using hj) hij
    obtain ⟨_, e1⟩ := List.getElem?_eq_some_iff.mp hp
    obtain ⟨_, e2⟩ := List.getElem?_eq_some_iff.mp hq
    simpa [e1, e2] using h3
  unfold aftB
  unfold c_turned
  apply Res_seq; simp [pairs_call W hl]
  apply Res_seq; simp [is_whole_int, show i < j from hij, hj]
  apply Res_seq
  generalize hB : bows w = B at *
  have hR : ((rangeL 0 B.length).filterMap fun x => if (fun x : D => decide (x ≠ .int (i : Nat) ∧ x ≠ .int (j : Nat))) x = true then some ((fun x : D => match x with | .int k => bowD (B.getD k.toNat (0, 0)) | d => d) x) else none) = (exc i j B (0, 0)).map bowD := by
    rw [filterMap_pick]
    unfold exc
    have e1 : rangeL 0 B.length = (List.range B.length).map fun k : Nat => D.int (k : Nat) := by simp [rangeL, Function.comp_def]
    rw [e1, List.filter_map, List.map_map, List.map_map]
    have e2 : ((fun x : D => decide (x ≠ .int (i : Nat) ∧ x ≠ .int (j : Nat))) ∘ fun k : Nat => D.int (k : Nat)) = fun k : Nat => decide (k ≠ i ∧ k ≠ j) := by
      funext k
      simp only [Function.comp_apply, decide_eq_decide, ne_eq, D.int.injEq]
      omega
    rw [e2]
    refine List.map_congr_left fun k _ => ?_
    simp
  have hlc := lc_plain (s := .items (rangeL 0 B.length)) (g := gVar 6) (t := tAnd (tVal (eBin opNe (eVar 6) (eVar 1))) (tVal (eBin opNe (eVar 6) (eVar 2)))) (e := eBin opIx (eVar 3) (eVar 6)) (env := [some (.str w), some (.int (i : Nat)), some (.int (j : Nat)), some (.ref 0), none, none, none]) (L := [.lst (B.map bowD)]) (fun x => if (fun x : D => decide (x ≠ .int (i : Nat) ∧ x ≠ .int (j : Nat))) x = true then some ((fun x : D => match x with | .int k => bowD (B.getD k.toNat (0, 0)) | d => d) x) else none) (by simp; omega) (fun acc' => rfl) (fun x hx acc' => by
    simp [rangeL] at hx
    obtain ⟨k, hk, rfl⟩ := hx
    refine ⟨_, rfl, ?_⟩
    by_cases h1 : k = i
    · subst h1
      exact .inl (by simp)
    · have c1 : ¬ (k : Int) = i := by omega
      by_cases h2 : k = j
      · subst h2
        exact .inl (by simp [c1])
      · have c1 : ¬ (k : Int) = i := by omega
        have c2 : ¬ (k : Int) = j := by omega
        refine .inr ⟨bowD (B.getD k (0, 0)), by simp [c1, c2], by simp [c1, c2], ?_⟩
        have hg : B[k]? = some B[k] := List.getElem?_eq_getElem hk
        have hat : atI (B.map bowD) (k : Int) = some (bowD B[k]) := atI_nat (by rw [List.getElem?_map, hg]; rfl)
        simp [hg, hat])
  simp only [Src.xs] at hlc
  rw [hR] at hlc
  have hD : opAdd (.ref 1) (.ref 2) [.lst (B.map bowD), .lst ((exc i j B (0, 0)).map bowD), .lst ((turnTwo p q).map bowD)] = some (.ok (.ref 3), [.lst (B.map bowD), .lst ((exc i j B (0, 0)).map bowD), .lst ((turnTwo p q).map bowD), .lst ((exc i j B (0, 0) ++ turnTwo p q).map bowD)]) := by
    have h2 : (turnTwo p q).length = 2 := by unfold turnTwo; split <;> rfl
    rw [List.map_append]
    exact opAdd_lists (x := .ref 1) (y := .ref 2) (L := [.lst (B.map bowD), .lst ((exc i j B (0, 0)).map bowD), .lst ((turnTwo p q).map bowD)]) (a := (exc i j B (0, 0)).map bowD) (b := (turnTwo p q).map bowD) rfl rfl (by simp only [List.length_map]; omega)
  simp at hlc
  have hp1 : atI (B.map bowD) (i : Int) = some (bowD p) := atI_nat (by rw [List.getElem?_map, hp]; rfl)
  have hq1 : atI (B.map bowD) (j : Int) = some (bowD q) := atI_nat (by rw [List.getElem?_map, hq]; rfl)
  simp [eLc_at, wipeE, big_of (i := B.length) (by omega), hlc, hp1, hq1, turned_two_call, hD]
  generalize hX : exc i j B (0, 0) = X at *
  obtain ⟨r, hc, hr⟩ := crossing_call ((X ++ turnTwo p q).map bI)
  have hc3 : callI m_crossing [.ref 3] [.lst (B.map bowD), .lst (X.map bowD), .lst ((turnTwo p q).map bowD), .lst ((X ++ turnTwo p q).map bowD)] = some (.ok r, [.lst (B.map bowD), .lst (X.map bowD), .lst ((turnTwo p q).map bowD), .lst ((X ++ turnTwo p q).map bowD)]) := hc 3 _ (by rw [← map_bowD]; rfl)
  rw [List.map_append] at hc3
  apply Res_seq
  simp [hc3]
  rcases hr with ⟨rfl, hr⟩ | ⟨a, ha, b, hb, hab, rfl⟩
  · apply Res_seq; simp
    have hP : Pairing w.length (X ++ turnTwo p q) := Pairing.turn (bows_pairing W) (hB ▸ hperm) hpq fun b hb c hc => crs_not (hr _ (List.mem_map_of_mem hb) _ (List.mem_map_of_mem hc))
    have hw := word_of_call hP.word (by rw [wOf_len]; exact hl) _ hP.perm (n := 3) (L := [.lst (B.map bowD), .lst (X.map bowD), .lst ((turnTwo p q).map bowD), .lst ((X ++ turnTwo p q).map bowD)]) rfl
    rw [List.map_append] at hw
    simp [hw]
    exact fun a a2 ha b b2 hb => hr _ (List.mem_map_of_mem (List.mem_append.mpr ha)) _ (List.mem_map_of_mem (List.mem_append.mpr hb))
  · obtain ⟨a', ha', rfl⟩ := List.mem_map.mp ha
    obtain ⟨b', hb', rfl⟩ := List.mem_map.mp hb
    apply Res_seq; simp [sRaiseF]
    exact ⟨a'.1, a'.2, List.mem_append.mp ha', b'.1, b'.2, List.mem_append.mp hb', hab, rfl, rfl⟩
/-! what the law reckons: bows, bows behind a turn, those that cross, the text -/
def bwF (w : Tx) : D → Option D
  | .int i => if w[i.toNat]? = some 40 then some (bowD (i.toNat, mate w i.toNat)) else none
  | _ => none
theorem lbowsof_run {w : Tx} (W : BrW w) (hl : w.length ≤ 40) : m__law_bows_of [.str w] [] = some (.ok (.ref 0), [.lst ((bows w).map bowD)]) := by
  obtain ⟨ps, hp, hd, hc⟩ := across_call W hl
  refine run_list (pures_map fun a _ => pure_bowD) ?_
  unfold c__law_bows_of
  have hc0 := hc []
  simp at hc0
  apply Res_seq; simp [hc0]
  have hlc := lc_plain (s := .items (rangeL 0 w.length)) (g := gVar 2) (t := tVal (eBin opEq (eBin opIx (eVar 0) (eVar 2)) (eC (.str [40])))) (e := eTup (aCons (eVar 2) (aCons (eBin opIx (eVar 1) (eVar 2)) (aNil)))) (env := [some (.str w), some (.ref 0), none]) (L := [.dK ps]) (bwF w) (by simp; omega) (fun _ => rfl) (fun x hx acc' => by
    rw [xs_items] at hx
    obtain ⟨i, hi, rfl⟩ := List.mem_map.mp hx
    have hi := List.mem_range.mp hi
    have e0 : (0 : Int) + (i : Nat) = (i : Nat) := by omega
    rw [e0]
    have hat : atI w (i : Int) = some w[i] := atI_get rfl (List.getElem?_eq_getElem hi)
    have hg : w[i]? = some w[i] := List.getElem?_eq_getElem hi
    have hbf : bwF w (.int (i : Int)) = if w[i]? = some 40 then some (bowD (i, mate w i)) else none := rfl
    have hdg : dGet ([.dK ps] ++ [.lst acc']) (.ref 0) (.int (i : Int)) = some (some (.int (par w i : Nat))) := by
      rw [dget_nat (ps := ps) rfl, hd i, if_pos hi]
    refine ⟨_, rfl, ?_⟩
    rw [hbf, hg]
    by_cases h : w[i] = 40
    · refine .inr ⟨bowD (i, mate w i), by rw [if_pos (by rw [h])], by simp [hat, h, show w.length ≤ 100000 by omega], ?_⟩
      have hpm : par w i = mate w i := par_open (by rw [hg, h])
      rw [hpm] at hdg
      simp at hdg
      simp [hdg, bowD_eq]
    · exact .inl ⟨by rw [if_neg (by simpa using h)], by simp [hat, h, show w.length ≤ 100000 by omega]⟩)
  have hf : (Src.items (rangeL 0 w.length)).xs.filterMap (bwF w) = (bows w).map bowD := by
    unfold bows ops rangeL
    rw [xs_items, List.filterMap_map, List.map_map]
    generalize List.range w.length = l
    induction l with
    | nil => rfl
    | cons i l ih =>
      have e0 : (0 : Int) + (i : Nat) = (i : Nat) := by omega
      have hbf : bwF w (.int (i : Int)) = if w[i]? = some 40 then some (bowD (i, mate w i)) else none := rfl
      rw [List.filterMap_cons, List.filter_cons, Function.comp_apply, e0, hbf]
      by_cases h : w[i]? = some 40
      · rw [if_pos h, if_pos (by simpa using h), List.map_cons, ← ih]
        rfl
      · rw [if_neg h, if_neg (by simpa using h)]
        exact ih
  rw [hf] at hlc
  simp [eLc_at, show w.length ≤ 100000 by omega, big_of (i := (w.length : Int)) (by omega), wipeE]
  simp at hlc
  rw [hlc]
  simp
theorem lbowsof_call {w : Tx} (W : BrW w) (hl : w.length ≤ 40) (L : Hh) : callI m__law_bows_of [.str w] L = some (.ok (.ref L.length), L ++ [.lst ((bows w).map bowD)]) :=
  callI_list rfl (by simp [D.deps, D.dep]) (lbowsof_run W hl) (pures_map fun a _ => pure_bowD)
def exF (i j : Nat) (B : List (Nat × Nat)) : D → Option D
  | .int k => if k.toNat ≠ i ∧ k.toNat ≠ j then some (bowD (B.getD k.toNat (0, 0))) else none
  | _ => none
theorem lafter_run {B : List (Nat × Nat)} (hB : B.length ≤ 100) {i j : Nat} {p q : Nat × Nat} (hp : B[i]? = some p) (hq : B[j]? = some q) : m__law_after [.lst (B.map bowD), .int (i : Int), .int (j : Int)] [] = some (.ok (.ref 0), [.lst ((exc i j B (0, 0) ++ turnTwo p q).map bowD)]) := by
  refine run_list (pures_map fun a _ => pure_bowD) ?_
  have hp1 : atI (B.map bowD) (i : Int) = some (.tup [.int (p.1 : Nat), .int (p.2 : Nat)]) := atI_nat (by rw [List.getElem?_map, hp]; rfl)
  have hq1 : atI (B.map bowD) (j : Int) = some (.tup [.int (q.1 : Nat), .int (q.2 : Nat)]) := atI_nat (by rw [List.getElem?_map, hq]; rfl)
  unfold c__law_after
  apply Res_seq; simp [hp1, gTup, gCons, gNil]
  apply Res_seq; simp [hq1, gTup, gCons, gNil]
  apply Res_seq
  have hlc := lc_plain (s := .items (rangeL 0 B.length)) (g := gVar 8) (t := tAnd (tVal (eBin opNe (eVar 8) (eVar 1))) (tVal (eBin opNe (eVar 8) (eVar 2)))) (e := eBin opIx (eVar 0) (eVar 8)) (env := [some (.lst (B.map bowD)), some (.int (i : Int)), some (.int (j : Int)), none, some (.int (p.1 : Nat)), some (.int (p.2 : Nat)), some (.int (q.1 : Nat)), some (.int (q.2 : Nat)), none]) (L := []) (exF i j B) (by simp; omega) (fun _ => rfl) (fun x hx acc' => by
    rw [xs_items] at hx
    obtain ⟨k, hk, rfl⟩ := List.mem_map.mp hx
    have hk := List.mem_range.mp hk
    have e0 : (0 : Int) + (k : Nat) = (k : Nat) := by omega
    rw [e0]
    have hg : B[k]? = some B[k] := List.getElem?_eq_getElem hk
    have hat : atI (B.map bowD) (k : Int) = some (bowD B[k]) := atI_nat (by rw [List.getElem?_map, hg]; rfl)
    have hxf : exF i j B (.int (k : Int)) = if k ≠ i ∧ k ≠ j then some (bowD (B.getD k (0, 0))) else none := rfl
    have hgd : B.getD k (0, 0) = B[k] := by rw [List.getD_eq_getElem?_getD, hg]; rfl
    refine ⟨_, rfl, ?_⟩
    rw [hxf, hgd]
    by_cases h1 : k = i
    · subst h1
      exact .inl ⟨by simp, by simp⟩
    · have c1 : ¬ (k : Int) = i := by omega
      by_cases h2 : k = j
      · subst h2
        exact .inl ⟨by simp, by simp [c1]⟩
      · have c2 : ¬ (k : Int) = j := by omega
        exact .inr ⟨bowD B[k], by simp [h1, h2], by simp [c1, c2], by simp [hat]⟩)
  have hf : (Src.items (rangeL 0 B.length)).xs.filterMap (exF i j B) = (exc i j B (0, 0)).map bowD := by
    unfold exc rangeL
    rw [xs_items, List.filterMap_map, List.map_map]
    generalize List.range B.length = l
    induction l with
    | nil => rfl
    | cons k l ih =>
      have e0 : (0 : Int) + (k : Nat) = (k : Nat) := by omega
      have hxf : exF i j B (.int (k : Int)) = if k ≠ i ∧ k ≠ j then some (bowD (B.getD k (0, 0))) else none := rfl
      rw [List.filterMap_cons, List.filter_cons, Function.comp_apply, e0, hxf]
      by_cases h : k ≠ i ∧ k ≠ j
      · rw [if_pos h, if_pos (by simpa using h), List.map_cons, ← ih]
        rfl
      · rw [if_neg h, if_neg (by simpa using h)]
        exact ih
  rw [hf] at hlc
  have hel := exc_len (i := i) (j := j) (bs := B) (d := (0, 0))
  generalize exc i j B (0, 0) = E at *
  simp [eLc_at, big_of (i := (B.length : Int)) (by omega), wipeE]
  simp at hlc
  rw [hlc]
  simp
  apply Res_seq
  unfold turnTwo
  have hadd : ∀ xs : List D, xs.length = 2 → opAdd (.ref 0) (.ref 1) [.lst (E.map bowD), .lst xs] = some (.ok (.ref 2), [.lst (E.map bowD), .lst xs, .lst (E.map bowD ++ xs)]) := fun xs h => by
    rw [opAdd_rr (L := [.lst (E.map bowD), .lst xs]) (n := 0) (m := 1) rfl rfl, if_pos (by simp; omega)]
    rfl
  by_cases h : q.2 < p.2
  · simp [h, hadd, bowD_eq]
  · simp [h, hadd, bowD_eq]
theorem lafter_call {B : List (Nat × Nat)} (hB : B.length ≤ 100) {i j : Nat} {p q : Nat × Nat} (hp : B[i]? = some p) (hq : B[j]? = some q) {L : Hh} {k : Nat} (hk : L[k]? = some (.lst (B.map bowD))) : callI m__law_after [.ref k, .int (i : Int), .int (j : Int)] L = some (.ok (.ref L.length), L ++ [.lst ((exc i j B (0, 0) ++ turnTwo p q).map bowD)]) := by
  have hb : B.map bowD = (B.map bI).map bowI := map_bowD
  have hf := frz_cell hk (pures_map fun a _ => pure_bowD) (by rw [hb]; have := deps_bowI (bs := B.map bI); omega)
  have hz : ∀ i : Int, frz L (.int i) = some (.int i) := fun _ => rfl
  have hrun := lafter_run hB hp hq
  generalize exc i j B (0, 0) ++ turnTwo p q = A at *
  rw [callI_lent (ds := [.lst (B.map bowD), .int (i : Int), .int (j : Int)]) (by simp [hf, hz]) hrun rfl (by rw [map_bowD]; simp only [List.all_cons, List.all_nil, Cell.nolst, nolsts_bowI, Bool.and_true])]
  simp [D.shift, Cell.shift, shifts_pure (pures_map fun (a : Nat × Nat) _ => pure_bowD)]
/-- the pairs that cross -/
def crsL (A : List (Nat × Nat)) : List ((Nat × Nat) × (Nat × Nat)) := A.flatMap fun a => (A.filter fun b => crs (bI a) (bI b)).map fun b => (a, b)
def pr2 (x : (Nat × Nat) × (Nat × Nat)) : D := .tup [bowD x.1, bowD x.2]
theorem crsL_mem {A : List (Nat × Nat)} {a b : Nat × Nat} : (a, b) ∈ crsL A ↔ a ∈ A ∧ b ∈ A ∧ crs (bI a) (bI b) = true := by
  unfold crsL
  simp only [List.mem_flatMap, List.mem_map, List.mem_filter]
  constructor
  · rintro ⟨x, hx, y, ⟨hy, hc⟩, e⟩
    cases e
    exact ⟨hx, hy, hc⟩
  · rintro ⟨h1, h2, h3⟩
    exact ⟨a, h1, b, ⟨h2, h3⟩, rfl⟩
def CrI (A : List (Nat × Nat)) (k : Nat) (e : Env) (l : Hh) : Prop := k ≤ A.length ∧ ∃ x2 x3 x4 x5 : Option D, e = [some (.lst (A.map bowD)), some (.ref 0), x2, x3, x4, x5] ∧ l = [.lst (((A.take k).flatMap fun a => (A.filter fun b => crs (bI a) (bI b)).map fun b => (a, b)).map pr2)]
def CsI (A : List (Nat × Nat)) (pre : List ((Nat × Nat) × (Nat × Nat))) (a : Nat × Nat) (k : Nat) (e : Env) (l : Hh) : Prop := k ≤ A.length ∧ ∃ x4 x5 : Option D, e = [some (.lst (A.map bowD)), some (.ref 0), some (.int (a.1 : Nat)), some (.int (a.2 : Nat)), x4, x5] ∧ l = [.lst ((pre ++ ((A.take k).filter fun b => crs (bI a) (bI b)).map fun b => (a, b)).map pr2)]
theorem tgt_pair {i j : Nat} {b : Sm} {x y : D} {env : Env} {L : Hh} : tgt (gTup 2 (gCons (gVar i) (gCons (gVar j) (gNil)))) b (.tup [x, y]) env L = b ((env.set i (some x)).set j (some y)) L := by
  simp [tgt, gTup, gCons, gNil]
theorem crsL_len (A A2 : List (Nat × Nat)) : (A2.flatMap fun a => (A.filter fun b => crs (bI a) (bI b)).map fun b => (a, b)).length ≤ A2.length * A.length := by
  induction A2 with
  | nil => simp
  | cons a A2 ih =>
    rw [List.flatMap_cons, List.length_append, List.length_map, List.length_cons, Nat.succ_mul]
    have := List.length_filter_le (fun b => crs (bI a) (bI b)) A
    omega
theorem lcross_run {A : List (Nat × Nat)} (hA : A.length ≤ 50) : m__law_crossing [.lst (A.map bowD)] [] = some (.ok (.ref 0), [.lst ((crsL A).map pr2)]) := by
  have hpu : ∀ X : List ((Nat × Nat) × (Nat × Nat)), D.pures (X.map pr2) = true := fun X => pures_map fun a _ => by simp [pr2]
  refine run_list (hpu _) ?_
  unfold c__law_crossing
  apply Res_seq; simp
  apply Res_seq
  rw [sFor_at]
  simp
  refine for_items (CrI A) _ ⟨by omega, none, none, none, none, rfl, rfl⟩ ?_ ?_
  · rintro k x e l hx ⟨_, x2, x3, x4, x5, rfl, rfl⟩
    rw [List.getElem?_map] at hx
    obtain ⟨a, ha, rfl⟩ := Option.map_eq_some_iff.mp hx
    have hk := (List.getElem?_eq_some_iff.mp ha).1
    rw [bowD_eq, tgt_pair]
    simp only [List.set_cons_succ, List.set_cons_zero]
    rw [sFor_at]
    simp
    have hpl := crsL_len A (A.take k)
    have hkl : (A.take k).length * A.length ≤ 50 * 50 := Nat.mul_le_mul (by rw [List.length_take]; omega) hA
    generalize hP : ((A.take k).flatMap fun a => (A.filter fun b => crs (bI a) (bI b)).map fun b => (a, b)) = P at *
    refine for_items (CsI A P a) _ ⟨by omega, x4, x5, rfl, by simp⟩ ?_ ?_
    · rintro j x e l hx ⟨_, x4, x5, rfl, rfl⟩
      rw [List.getElem?_map] at hx
      obtain ⟨b, hb, rfl⟩ := Option.map_eq_some_iff.mp hx
      have hj := (List.getElem?_eq_some_iff.mp hb).1
      rw [bowD_eq, tgt_pair]
      simp only [List.set_cons_succ, List.set_cons_zero]
      have hfl := List.length_filter_le (fun b => crs (bI a) (bI b)) (A.take j)
      have htl : (A.take j).length ≤ 50 := by rw [List.length_take]; omega
      have htake : ((A.take (j + 1)).filter fun b => crs (bI a) (bI b)) = if crs (bI a) (bI b) = true then ((A.take j).filter fun b => crs (bI a) (bI b)) ++ [b] else (A.take j).filter fun b => crs (bI a) (bI b) := by
        rw [List.take_add_one, hb, List.filter_append]
        by_cases c : crs (bI a) (bI b) = true
        · simp [c]
        · simp [c]
      have hcs : ∀ L, tVal (eChain (eVar 2) (chMore opLt (eVar 4) (chMore opLt (eVar 3) (chEnd opLt (eVar 5))))) [some (.lst (A.map bowD)), some (.ref 0), some (.int (a.1 : Nat)), some (.int (a.2 : Nat)), some (.int (b.1 : Nat)), some (.int (b.2 : Nat))] L = some (.ok (crs (bI a) (bI b)), L) := fun L => by
        unfold crs bI
        by_cases h1 : a.1 < b.1 <;> by_cases h2 : b.1 < a.2 <;> by_cases h3 : a.2 < b.2 <;> simp [h1, h2, h3]
      rw [sIf_at, hcs]
      generalize hF : ((A.take j).filter fun b => crs (bI a) (bI b)) = F at *
      by_cases c : crs (bI a) (bI b) = true
      · rw [if_pos c] at htake
        have hlen : ((P ++ F.map fun b => (a, b)).map pr2).length < 10000 := by
          rw [List.length_map, List.length_append, List.length_map]
          omega
        simp only [List.length_map, List.length_append] at hlen
        simp [c, hlen]
        refine ⟨by omega, _, _, rfl, ?_⟩
        rw [htake]
        simp [pr2, bowD_eq]
      · rw [if_neg c] at htake
        have c' : crs (bI a) (bI b) = false := by simpa using c
        simp [c']
        exact ⟨by omega, _, _, rfl, by rw [htake]; simp⟩
    · rintro e l ⟨_, x4, x5, rfl, rfl⟩
      rw [List.length_map]
      refine ⟨by omega, _, _, _, _, rfl, ?_⟩
      rw [List.take_length, List.take_add_one, ha, List.flatMap_append, hP]
      simp
  · rintro e l ⟨_, x2, x3, x4, x5, rfl, rfl⟩
    rw [List.length_map, List.take_length]
    simp
    rfl
theorem lcross_call {A : List (Nat × Nat)} (hA : A.length ≤ 50) {L : Hh} {k : Nat} (hk : L[k]? = some (.lst (A.map bowD))) : callI m__law_crossing [.ref k] L = some (.ok (.ref L.length), L ++ [.lst ((crsL A).map pr2)]) := by
  have hb : A.map bowD = (A.map bI).map bowI := map_bowD
  have hf := frz_cell hk (pures_map fun a _ => pure_bowD) (by rw [hb]; have := deps_bowI (bs := A.map bI); omega)
  have hn : ∀ X : List ((Nat × Nat) × (Nat × Nat)), D.nolsts (X.map pr2) = true := fun X => by
    induction X with
    | nil => rfl
    | cons x X ih => simp [D.nolsts, pr2, D.nolst, bowD_eq]; exact ih
  rw [callI_lent (ds := [.lst (A.map bowD)]) (by simp [hf]) (lcross_run hA) rfl (by simp [Cell.nolst, hn])]
  simp [D.shift, Cell.shift, shifts_pure (pures_map fun (a : (Nat × Nat) × (Nat × Nat)) _ => show (pr2 a).pure = true by simp [pr2])]
/-- the text -/
def TxI (A : List (Nat × Nat)) (n : Nat) (k : Nat) (e : Env) (l : Hh) : Prop := k ≤ A.length ∧ ∃ x3 x4 x5 : Option D, e = [some (.lst (A.map bowD)), some (.int (n : Int)), some (.ref 0), x3, x4, x5] ∧ l = [.lst (sgD n ((A.take k).map (·.1)))]
theorem ltext_run {A : List (Nat × Nat)} {n : Nat} (hn : n ≤ 1000) (hA : ∀ b ∈ A, b.1 < n) : m__law_text [.lst (A.map bowD), .int (n : Int)] [] = some (.ok (.str (wOf n A)), []) := by
  refine run_pure rfl ?_
  unfold c__law_text
  have hlc := lc_plain (s := .items (rangeL 0 n)) (g := gVar 5) (t := tTrue) (e := eC (.str [41])) (env := [some (.lst (A.map bowD)), some (.int (n : Int)), none, none, none, none]) (L := []) (fun _ => some (.str [41])) (by simp; omega) (fun _ => rfl) (fun x hx acc' => ⟨_, rfl, .inr ⟨_, rfl, by simp, by simp⟩⟩)
  have hf : (Src.items (rangeL 0 n)).xs.filterMap (fun _ => some (D.str [41])) = sgD n [] := by
    rw [xs_items, sgD_nil]
    unfold rangeL
    rw [List.filterMap_map]
    have : ∀ l : List Nat, l.filterMap ((fun _ => some (D.str [41])) ∘ fun k : Nat => D.int (0 + (k : Nat))) = List.replicate l.length (.str [41]) := fun l => by
      induction l with
      | nil => rfl
      | cons a l ih => rw [List.filterMap_cons, Function.comp_apply, ih]; rfl
    rw [this, List.length_range]
  rw [hf] at hlc
  apply Res_seq
  simp [eLc_at, big_of (i := (n : Int)) (by omega), wipeE]
  simp at hlc
  rw [hlc]
  simp
  apply Res_seq
  rw [sFor_at]
  simp
  refine Res.mono (for_items (TxI A n) (fun o e l => o = .nx ∧ TxI A n A.length e l) ⟨by omega, none, none, none, rfl, rfl⟩ ?_ ?_) ?_
  · rintro k x e l hx ⟨_, x3, x4, x5, rfl, rfl⟩
    rw [List.getElem?_map] at hx
    obtain ⟨a, ha, rfl⟩ := Option.map_eq_some_iff.mp hx
    have hk := (List.getElem?_eq_some_iff.mp ha).1
    have han := hA a (List.mem_of_getElem? ha)
    rw [bowD_eq, tgt_pair]
    simp only [List.set_cons_succ, List.set_cons_zero]
    have hix : ixN n (a.1 : Int) = some a.1 := by
      rw [ixN_of (by omega) (by omega)]
      rfl
    simp [hix]
    refine ⟨by omega, _, _, _, rfl, ?_⟩
    rw [sgD_set, List.take_add_one, ha]
    simp
  · rintro e l h
    rw [List.length_map] at h
    exact ⟨rfl, h⟩
  · rintro o e l ⟨rfl, _, x3, x4, x5, rfl, rfl⟩
    rw [List.take_length]
    have hs : sgD n (A.map (·.1)) = ((wOf n A).map fun c => [c]).map D.str := by
      unfold sgD wOf
      rw [List.map_map, List.map_map]
      rfl
    rw [hs]
    have hj := join_ones (w := wOf n A) (by rw [wOf_len]; omega) (n := 0) (L := [.lst (((wOf n A).map fun c => [c]).map D.str)]) rfl
    simp at hj
    simp [hj]
theorem ltext_call {A : List (Nat × Nat)} {n : Nat} (hn : n ≤ 1000) (hA : ∀ b ∈ A, b.1 < n) {L : Hh} {k : Nat} (hk : L[k]? = some (.lst (A.map bowD))) : callI m__law_text [.ref k, .int (n : Int)] L = some (.ok (.str (wOf n A)), L) := by
  have hb : A.map bowD = (A.map bI).map bowI := map_bowD
  have hf := frz_cell hk (pures_map fun a _ => pure_bowD) (by rw [hb]; have := deps_bowI (bs := A.map bI); omega)
  have hz : ∀ i : Int, frz L (.int i) = some (.int i) := fun _ => rfl
  rw [callI_lent (ds := [.lst (A.map bowD), .int (n : Int)]) (by simp [hf, hz]) (ltext_run hn hA) rfl rfl]
  simp [D.shift]
theorem not_snoc {w : Tx} (W : BrW w) : ¬ BrW (w ++ [41]) := fun h => by
  have h1 := h.fin
  rw [List.length_append, List.length_singleton, ht_snoc, W.fin] at h1
  exact absurd h1 (by decide)
theorem ht_cons {w : Tx} {c : Nat} : ht (c :: w) (c :: w).length = up c + ht w w.length := by
  unfold ht
  rw [List.take_length, List.take_length]
  simp
theorem not_cons {w : Tx} (W : BrW w) : ¬ BrW (40 :: w) := fun h => by
  have h1 := h.fin
  rw [ht_cons, W.fin] at h1
  exact absurd h1 (by decide)
theorem not_cons1 {w : Tx} (W : BrW w) : ¬ BrW (41 :: w) := fun h => by
  have h1 := h.fin
  rw [ht_cons, W.fin] at h1
  exact absurd h1 (by decide)
theorem not_open {w : Tx} (W : BrW w) : ¬ BrW (w ++ [40]) := fun h => by
  have h1 := h.fin
  rw [List.length_append, List.length_singleton, ht_snoc, W.fin] at h1
  exact absurd h1 (by decide)
theorem atI_lit (n : Nat) {xs : List D} : atI xs (n : Nat) = xs[n]? := by
  rcases Nat.lt_or_ge n xs.length with h | h
  · rw [atI_nat (List.getElem?_eq_getElem h), List.getElem?_eq_getElem h]
  · rw [List.getElem?_eq_none h]
    unfold atI ixN
    simp
    omega
/-! turned, refused and told -/
theorem turned_ex {x i j : D} {c : String} (hx : x.pure = true) (hi : i.pure = true) (hj : j.pure = true) (dx : x.dep ≤ 6) (di : i.dep ≤ 6) (dj : j.dep ≤ 6) (h : Res (c_turned (([x, i, j]).map some ++ List.replicate (7 - [x, i, j].length) none) []) (fun o _ _ => o = .ex ⟨c, []⟩)) (L : Hh) : callI m_turned [x, i, j] L = some (.ex ⟨c, []⟩, L) := by
  obtain ⟨L2, e⟩ := run_ex h
  exact callI_ex (by simp [hx, hi, hj]) (by simp [D.deps]; omega) e
theorem turned_noword {x i j : D} (h : NoWd x) (dx : x.dep ≤ 6) (hi : i.pure = true) (hj : j.pure = true) (di : i.dep ≤ 6) (dj : j.dep ≤ 6) (L : Hh) : callI m_turned [x, i, j] L = some (.ex ⟨"NoWord", []⟩, L) := by
  refine turned_ex h.pu hi hj dx di dj ?_ L
  unfold c_turned
  simp [sSeq_at, pairs_no h]
def NWh (x : D) : Prop := ∀ L, callI m_is_whole [x] L = some (.ok (.bl false), L)
theorem turned_nobow {w : Tx} (W : BrW w) (hl : w.length ≤ 40) {i j : D} (hi : i.pure = true) (hj : j.pure = true) (di : i.dep ≤ 6) (dj : j.dep ≤ 6) (h : NWh i ∨ ∃ a : Int, i = .int a ∧ (NWh j ∨ ∃ b : Int, j = .int b ∧ ¬ (0 ≤ a ∧ a < b ∧ b < ((bows w).length : Int)))) (L : Hh) : callI m_turned [.str w, i, j] L = some (.ex ⟨"NoBow", []⟩, L) := by
  refine turned_ex rfl hi hj (by simp [D.dep]) di dj ?_ L
  unfold c_turned
  apply Res_seq; simp [pairs_call W hl]
  apply Res_seq
  rcases h with h | ⟨a, rfl, h⟩
  · have h' : ∀ L, callI m_is_whole [i] L = some (.ok (.bl false), L) := h
    simp [h']
  · rcases h with h | ⟨b, rfl, h⟩
    · have h' : ∀ L, callI m_is_whole [j] L = some (.ok (.bl false), L) := h
      simp [is_whole_int, h']
    · by_cases h1 : 0 ≤ a
      · by_cases h2 : a < b
        · have h3 : ¬ b < ((bows w).length : Int) := fun z => h ⟨h1, h2, z⟩
          simp [is_whole_int, h1, h2, h3]
        · simp [is_whole_int, h1, h2]
      · simp [is_whole_int, h1]
theorem tsaid_ex {x i j fx fi fj : D} {L : Hh} {cl : String} {sd : Tx} (hc : (cl = "NoWord" ∧ sd = [119, 111, 114, 100]) ∨ (cl = "NoBow" ∧ sd = [98, 111, 119])) (hx : frz L x = some fx) (hi : frz L i = some fi) (hj : frz L j = some fj) (h : ∀ L, callI m_turned [fx, fi, fj] L = some (.ex ⟨cl, []⟩, L)) : callI m__law_said [x, i, j] L = some (.ok (.tup [.str sd, .non]), L) := by
  have h1 : m__law_said [fx, fi, fj] [] = some (.ok (.tup [.str sd, .non]), []) := by
    refine run_pure (by simp) ?_
    unfold c__law_said
    rcases hc with ⟨rfl, rfl⟩ | ⟨rfl, rfl⟩
    · rw [sTryMx_ex (e := ⟨"NoWord", []⟩) (env1 := [some fx, some fi, some fj, none]) (L1 := []) (by simp [h])]
      simp [hmGo, plainS, List.lookup]
    · rw [sTryMx_ex (e := ⟨"NoBow", []⟩) (env1 := [some fx, some fi, some fj, none]) (L1 := []) (by simp [h])]
      simp [hmGo, plainS, List.lookup]
  rw [callI_lent (ds := [fx, fi, fj]) (by simp [hx, hi, hj]) h1 rfl rfl]
  simp [D.shift, D.shifts]
theorem tany_bow {x i j fx fi fj : D} {L : Hh} (hx : frz L x = some fx) (hi : frz L i = some fi) (hj : frz L j = some fj) (h : ∀ L, callI m_turned [fx, fi, fj] L = some (.ex ⟨"NoBow", []⟩, L)) : callI m__law_by_any [x, i, j] L = some (.ok (.bl true), L) := by
  have h2 : m__law_by_any [fx, fi, fj] [] = some (.ok (.bl true), []) := by
    refine run_pure (by simp) ?_
    unfold c__law_by_any
    apply Res_seq
    rw [sTryAs_ex (c := "NoBow") (env1 := [some fx, some fi, some fj, none]) (L1 := []) (r := some (.rt (.bl true), [some fx, some fi, some fj, none], [])) (by simp [h]) rfl (fun a => by
      unfold suiteS
      simp [alone_NoBow])]
    simp
  rw [callI_lent (ds := [fx, fi, fj]) (by simp [hx, hi, hj]) h2 rfl rfl]
  simp [D.shift]
/-- two of a word's bows: told, or crossed -/
theorem tsaid_ok {w : Tx} (W : BrW w) (hl : w.length ≤ 40) {i j : Nat} (hij : i < j) (hj : j < (bows w).length) {p q : Nat × Nat} (hp : (bows w)[i]? = some p) (hq : (bows w)[j]? = some q) :
    (∃ a ∈ aftB w i j p q, ∃ b ∈ aftB w i j p q, crs (bI a) (bI b) = true ∧ (∀ L, callI m__law_said [.str w, .int (i : Int), .int (j : Int)] L = some (.ok (.tup [.str [99, 114, 111, 115, 115, 101, 100], .tup [bowD a, bowD b]]), L)) ∧ ∀ L, callI m__law_by_any [.str w, .int (i : Int), .int (j : Int)] L = some (.ok (.bl true), L)) ∨
      ((∀ a ∈ aftB w i j p q, ∀ b ∈ aftB w i j p q, crs (bI a) (bI b) = false) ∧ ∀ L, callI m__law_said [.str w, .int (i : Int), .int (j : Int)] L = some (.ok (.tup [.str [116, 111, 108, 100], .str (wOf w.length (aftB w i j p q))]), L)) := by
  obtain ⟨o, e, l, h, hr⟩ := turned_exact W hl hij hj hp hq
  rcases hr with ⟨a, ha, b, hb, hab, rfl⟩ | ⟨hno, rfl⟩
  · refine .inl ⟨a, ha, b, hb, hab, ?_, ?_⟩
    · have hct : ∀ L, callI m_turned [.str w, .int (i : Int), .int (j : Int)] L = some (.ex ⟨"Crossed", [("bows", .tup [bowD a, bowD b])]⟩, L) := fun L => by
        have h5 : m_turned [.str w, .int (i : Int), .int (j : Int)] [] = some (.ex ⟨"Crossed", [("bows", .tup [bowD a, bowD b])]⟩, l) := by
          unfold m_turned run
          rw [h]
        rw [callI_flat (by simp) (by simp [D.deps, D.dep]), h5]
        simp [bowD_eq, D.nolst, D.nolsts]
      refine fun L => callI_pure rfl (by simp [D.deps, D.dep]) (run_pure (by simp) ?_) (by simp)
      unfold c__law_said
      rw [sTryMx_ex (e := ⟨"Crossed", [("bows", .tup [bowD a, bowD b])]⟩) (env1 := [some (.str w), some (.int (i : Int)), some (.int (j : Int)), none]) (L1 := []) (by simp [hct])]
      have hlk : List.lookup "Crossed" [("NoWord", false), ("NoBow", false), ("Crossed", true)] = some true := rfl
      simp only [hmGo, hlk]
      rw [namedS_fl (r := some (.rt (.tup [.str [99, 114, 111, 115, 115, 101, 100], .tup [bowD a, bowD b]]), [some (.str w), some (.int (i : Int)), some (.int (j : Int)), none], [])) (by simp [bowD_eq, D.nolst, D.nolsts]) (fun dx a' => by
        unfold suiteS
        simp [opFld])]
      simp
    · have hct : ∀ L, callI m_turned [.str w, .int (i : Int), .int (j : Int)] L = some (.ex ⟨"Crossed", [("bows", .tup [bowD a, bowD b])]⟩, L) := fun L => by
        have h5 : m_turned [.str w, .int (i : Int), .int (j : Int)] [] = some (.ex ⟨"Crossed", [("bows", .tup [bowD a, bowD b])]⟩, l) := by
          unfold m_turned run
          rw [h]
        rw [callI_flat (by simp) (by simp [D.deps, D.dep]), h5]
        simp [bowD_eq, D.nolst, D.nolsts]
      refine fun L => callI_pure rfl (by simp [D.deps, D.dep]) (run_pure rfl ?_) rfl
      unfold c__law_by_any
      apply Res_seq
      rw [sTryAs_fl (c := "Crossed") (fn := "bows") (d := .tup [bowD a, bowD b]) (env1 := [some (.str w), some (.int (i : Int)), some (.int (j : Int)), none]) (L1 := []) (r := some (.rt (.bl true), [some (.str w), some (.int (i : Int)), some (.int (j : Int)), none], [])) (by simp [hct]) rfl (by simp) (by simp [bowD_eq, D.nolst, D.nolsts]) (fun a' dx => by
        unfold suiteS
        simp [alone_Crossed])]
      simp
  · refine .inr ⟨hno, ?_⟩
    have hct : ∀ L, callI m_turned [.str w, .int (i : Int), .int (j : Int)] L = some (.ok (.str (wOf w.length (aftB w i j p q))), L) := fun L => callI_pure rfl (by simp [D.deps, D.dep]) (run_pure rfl ⟨_, _, _, h, rfl⟩) rfl
    refine fun L => callI_pure rfl (by simp [D.deps, D.dep]) (run_pure (by simp) ?_) (by simp)
    unfold c__law_said
    rw [sTryMx_no (o := .rt (.tup [.str [116, 111, 108, 100], .str (wOf w.length (aftB w i j p q))])) (env1 := [some (.str w), some (.int (i : Int)), some (.int (j : Int)), none]) (L1 := []) (by simp [hct]) (fun e z => by cases z)]
    simp
theorem odd5 (m : Nat) (hm : m ≤ 100) (c : Int) : ∃ x, atI [D.non, .int (-1), .int (m : Int), .bl true, .str [48], .tup [.int 0], .int 1000000000000000000000000000000] (c % 7) = some x ∧ x.pure = true ∧ x.dep ≤ 6 ∧ (NWh x ∨ ∃ i : Int, x = .int i ∧ (i < 0 ∨ ((m : Int) ≤ i ∧ (i = (m : Int) ∨ i = 1000000000000000000000000000000)))) := by
  have nw : ∀ x : D, x.pure = true → x.dep ≤ 6 → m_is_whole [x] [] = some (.ok (.bl false), []) → NWh x := fun x h1 h2 h3 L => callI_pure (by simp [h1]) (by simp [D.deps]; omega) h3 rfl
  obtain ⟨r, hr, hr7⟩ : ∃ r : Nat, c % 7 = (r : Int) ∧ r < 7 := ⟨(c % 7).toNat, by omega, by omega⟩
  rw [hr, atI_lit]
  rcases (by omega : r = 0 ∨ r = 1 ∨ r = 2 ∨ r = 3 ∨ r = 4 ∨ r = 5 ∨ r = 6) with rfl | rfl | rfl | rfl | rfl | rfl | rfl
  · exact ⟨.non, rfl, rfl, by simp [D.dep], .inl (nw _ rfl (by simp [D.dep]) (run_pure rfl (by unfold c_is_whole; simp)))⟩
  · exact ⟨.int (-1), rfl, rfl, by simp [D.dep], .inr ⟨-1, rfl, .inl (by omega)⟩⟩
  · exact ⟨.int m, rfl, rfl, by simp [D.dep], .inr ⟨m, rfl, .inr ⟨by omega, .inl rfl⟩⟩⟩
  · exact ⟨.bl true, rfl, rfl, by simp [D.dep], .inl (nw _ rfl (by simp [D.dep]) (run_pure rfl (by unfold c_is_whole; simp)))⟩
  · exact ⟨.str [48], rfl, rfl, by simp [D.dep], .inl (nw _ rfl (by simp [D.dep]) (run_pure rfl (by unfold c_is_whole; simp)))⟩
  · exact ⟨.tup [.int 0], rfl, rfl, by simp [D.dep, D.deps], .inl (nw _ rfl (by simp [D.dep, D.deps]) (run_pure rfl (by unfold c_is_whole; simp)))⟩
  · exact ⟨.int 1000000000000000000000000000000, rfl, rfl, by simp [D.dep], .inr ⟨_, rfl, .inr ⟨by omega, .inr rfl⟩⟩⟩
theorem odd_word {w : Tx} (W : BrW w) (hl : w.length ≤ 40) (c : Int) (L : Hh) (k : Nat) (hk : L[k]? = some (.lst [.str [40, 41]])) : ∃ x fx, atI [D.str (w ++ [40]), .non, .int 7, .str (41 :: w), .ref k] (c % 5) = some x ∧ frz L x = some fx ∧ NoWd fx ∧ fx.dep ≤ 6 := by
  obtain ⟨r, hr, hr7⟩ : ∃ r : Nat, c % 5 = (r : Int) ∧ r < 5 := ⟨(c % 5).toNat, by omega, by omega⟩
  rw [hr, atI_lit]
  rcases (by omega : r = 0 ∨ r = 1 ∨ r = 2 ∨ r = 3 ∨ r = 4) with rfl | rfl | rfl | rfl | rfl
  · exact ⟨_, .str (w ++ [40]), rfl, rfl, NoWd.str (not_open W) (by simp; omega), by simp [D.dep]⟩
  · exact ⟨_, .non, rfl, rfl, no_non, by simp [D.dep]⟩
  · exact ⟨_, .int 7, rfl, rfl, no_int 7, by simp [D.dep]⟩
  · exact ⟨_, .str (41 :: w), rfl, rfl, NoWd.str (not_cons1 W) (by simp; omega), by simp [D.dep]⟩
  · exact ⟨_, .lst [.str [40, 41]], rfl, frz_cell hk rfl (by simp [D.deps, D.dep]), no_lst [40, 41], by simp [D.dep, D.deps]⟩
theorem eqv_pr2 {a b : (Nat × Nat) × (Nat × Nat)} : D.eqv (pr2 a) (pr2 a) = true := eqv_refl (by simp [pr2])
theorem in_pr2 {L : Hh} {n : Nat} {X : List ((Nat × Nat) × (Nat × Nat))} (h : L[n]? = some (.lst (X.map pr2))) {a : (Nat × Nat) × (Nat × Nat)} (ha : a ∈ X) : opInB L (pr2 a) (.ref n) = some true := by
  have hd : D.deps (X.map pr2) ≤ 3 := deps_map fun a _ => by simp [pr2, bowD_eq, D.dep, D.deps]
  have hpu : D.pures (X.map pr2) = true := pures_map fun a _ => by simp [pr2]
  have h1 := deep_cell h hpu (by omega)
  have h2 : deep 8 L (pr2 a) = some (pr2 a) := deep_flat (by simp [pr2]) (by simp [pr2, bowD_eq, D.dep, D.deps])
  have h3 : dGet L (.ref n) (pr2 a) = none := by simp [dGet, h]
  unfold opInB
  simp only [h3, h1, h2]
  congr 1
  rw [List.any_eq_true]
  exact ⟨pr2 a, List.mem_map_of_mem ha, eqv_pr2 (b := a)⟩
theorem law_data (ns : List Int) (h : ns.length ≤ 63) : ∃ L', m_law [.scr ns] [] = some (.ok (.bl true), L') := by
  refine run_some (by simp) ?_
  have hc : ∀ k : Nat, k ≤ 2 → ∀ L, callI m__law_cell_at [.scr ns, .int k] L = some (.ok (.int (cell2 ns k)), L) := fun k hk L => cell_at_call ns k (by omega) L
  have hc0 : ∀ L, callI m__law_cell_at [.scr ns, .int 0] L = some (.ok (.int (cell2 ns 0)), L) := hc 0 (by omega)
  have hc1 : ∀ L, callI m__law_cell_at [.scr ns, .int 1] L = some (.ok (.int (cell2 ns 1)), L) := hc 1 (by omega)
  have hc2 : ∀ L, callI m__law_cell_at [.scr ns, .int 2] L = some (.ok (.int (cell2 ns 2)), L) := hc 2 (by omega)
  unfold c_law
  obtain ⟨m1, hm1⟩ : ∃ m : Nat, cell2 ns 0 % 13 = (m : Int) := ⟨(cell2 ns 0 % 13).toNat, by omega⟩
  obtain ⟨m2, hm2⟩ : ∃ m : Nat, cell2 ns 0 / 78 % 8 = (m : Int) := ⟨(cell2 ns 0 / 78 % 8).toNat, by omega⟩
  apply Res_seq; simp [hc0, hm1, small_of (i := m1) (by omega)]
  apply Res_seq
  refine Res.mono (Q := fun o e l => o = .nx ∧ ∃ m : Nat, m ≤ 20 ∧ e = [some (.scr ns), some (.int (2 * (m : Int))), none, none, none, none, none, none, none, none, none] ∧ l = []) ?_ ?_
  · by_cases hq : cell2 ns 0 / 13 % 6 = 1
    · simp [hc0, hq, hm2, small_of (i := m2) (by omega)]
      exact ⟨m2 + 13, by omega, by omega⟩
    · simp [hc0, hq]
      exact ⟨m1, by omega, by omega⟩
  rintro o e l ⟨rfl, m, h2, rfl, rfl⟩
  obtain ⟨w, W, hw, hw1⟩ := word_call (cell2 ns 1) m h2
  have hbh := bows_half W
  have hlb := lbowsof_call W (by omega) []
  dsimp only
  generalize cell2 ns 0 = x0 at *
  generalize cell2 ns 1 = x1 at *
  generalize cell2 ns 2 = x2 at *
  apply Res_seq; simp [hc1, hw1]
  simp at hlb
  apply Res_seq; simp [hlb]
  apply Res_seq; simp [hc2]
  obtain ⟨x, hx1, hx2, hx3, hx4⟩ := odd5 (bows w).length (by omega) x2
  obtain ⟨y, fy, hy1, hy2, hy3, hy4⟩ := odd_word W (by omega) x2 [.lst ((bows w).map bowD), .lst [D.non, .int (-1), .int ((bows w).length : Int), .bl true, .str [48], .tup [.int 0], .int 1000000000000000000000000000000], .lst [.str [40, 41]], .lst [D.str (w ++ [40]), .non, .int 7, .str (41 :: w), .ref 2]] 2 rfl
  apply Res_seq
  simp [hx1]
  generalize hI : [D.non, .int (-1), .int ((bows w).length : Int), .bl true, .str [48], .tup [.int 0], .int 1000000000000000000000000000000] = IT at *
  have heq1 : ∀ (L : Hh) (s : Tx), eqD L (.tup [.str s, .non]) (.tup [.str s, .non]) = some true := fun L s => by
    unfold eqD
    rw [deep_flat rfl (by simp [D.dep, D.deps])]
    exact congrArg some (eqv_refl rfl)
  have hzi : ∀ (L : Hh) (i : Int), frz L (.int i) = some (.int i) := fun _ _ => rfl
  have hzs : ∀ (L : Hh) (s : Tx), frz L (.str s) = some (.str s) := fun _ _ => rfl
  have hzx : ∀ L : Hh, frz L x = some x := fun L => frz_flat hx2 (by omega)
  have hsw := tsaid_ex (.inl ⟨rfl, rfl⟩) hy2 (hzi _ 0) (hzx _) (turned_noword hy3 hy4 rfl hx2 (by simp [D.dep]) hx3)
  apply Res_seq
  rw [sIf_at]
  simp [show w.length + 1 ≤ 100000 by omega, show 1 + w.length ≤ 100000 by omega, hy1, hsw, heq1]
  generalize hJ : [Cell.lst IT, .lst [.str [40, 41]], .lst [D.str (w ++ [40]), .non, .int 7, .str (41 :: w), .ref 2]] = J at *
  -- no numbers of bows
  have nb := fun (i j : D) (hi : i.pure = true) (hj : j.pure = true) (di : i.dep ≤ 6) (dj : j.dep ≤ 6) hh => turned_nobow W (by omega) (i := i) (j := j) hi hj di dj hh
  have hall : ∀ z ∈ [D.tup [.int 0, x], .tup [x, .int ((bows w).length : Int)], .tup [x, .int (((bows w).length : Int) - 1)], .tup [x, .int 0], .tup [.int 1, .int 0], .tup [.int 0, .int 0]], ∃ i j, z = .tup [i, j] ∧ i.pure = true ∧ j.pure = true ∧ i.dep ≤ 6 ∧ j.dep ≤ 6 ∧ ∀ L, callI m_turned [.str w, i, j] L = some (.ex ⟨"NoBow", []⟩, L) := by
    have di : ∀ i : Int, (D.int i).dep ≤ 6 := fun i => by simp [D.dep]
    intro z hz
    simp only [List.mem_cons, List.not_mem_nil, or_false] at hz
    rcases hz with rfl | rfl | rfl | rfl | rfl | rfl
    · refine ⟨_, _, rfl, rfl, hx2, di _, hx3, nb _ _ rfl hx2 (di _) hx3 (.inr ⟨0, rfl, ?_⟩)⟩
      rcases hx4 with h | ⟨i, rfl, h⟩
      · exact .inl h
      · exact .inr ⟨i, rfl, by omega⟩
    · refine ⟨_, _, rfl, hx2, rfl, hx3, di _, nb _ _ hx2 rfl hx3 (di _) ?_⟩
      rcases hx4 with h | ⟨i, rfl, h⟩
      · exact .inl h
      · exact .inr ⟨i, rfl, .inr ⟨_, rfl, by omega⟩⟩
    · refine ⟨_, _, rfl, hx2, rfl, hx3, di _, nb _ _ hx2 rfl hx3 (di _) ?_⟩
      rcases hx4 with h | ⟨i, rfl, h⟩
      · exact .inl h
      · exact .inr ⟨i, rfl, .inr ⟨_, rfl, by omega⟩⟩
    · refine ⟨_, _, rfl, hx2, rfl, hx3, di _, nb _ _ hx2 rfl hx3 (di _) ?_⟩
      rcases hx4 with h | ⟨i, rfl, h⟩
      · exact .inl h
      · exact .inr ⟨i, rfl, .inr ⟨_, rfl, by omega⟩⟩
    · exact ⟨_, _, rfl, rfl, rfl, di _, di _, nb _ _ rfl rfl (di _) (di _) (.inr ⟨_, rfl, .inr ⟨_, rfl, by omega⟩⟩)⟩
    · exact ⟨_, _, rfl, rfl, rfl, di _, di _, nb _ _ rfl rfl (di _) (di _) (.inr ⟨_, rfl, .inr ⟨_, rfl, by omega⟩⟩)⟩
  apply Res_seq
  rw [sFor_at]
  simp
  generalize hPS : [D.tup [.int 0, x], .tup [x, .int ((bows w).length : Int)], .tup [x, .int (((bows w).length : Int) - 1)], .tup [x, .int 0], .tup [.int 1, .int 0], .tup [.int 0, .int 0]] = PS at *
  have hst : (Cell.lst ((bows w).map bowD) :: (J ++ [.lst PS]))[J.length + 1]? = some (.lst PS) := by simp
  generalize hK : J ++ [Cell.lst PS] = K at *
  have i0 : ∀ y z : D, atI [y, z] 0 = some y := fun _ _ => rfl
  have i1 : ∀ y z : D, atI [y, z] 1 = some z := fun _ _ => rfl
  refine Res.mono (for_cell (fun _ e l => ∃ x6 : Option D, e = [some (.scr ns), some (.int (2 * (m : Int))), some (.str w), some (.ref 0), some (.int x2), some x, x6, none, none, none, none] ∧ l = .lst ((bows w).map bowD) :: K) (fun o e l => o = .nx ∧ ∃ x6 : Option D, e = [some (.scr ns), some (.int (2 * (m : Int))), some (.str w), some (.ref 0), some (.int x2), some x, x6, none, none, none, none] ∧ l = .lst ((bows w).map bowD) :: K) ⟨none, rfl, rfl⟩ (fun k e l _ hI => by
    obtain ⟨_, _, rfl⟩ := hI
    exact hst) ?_ ?_) ?_
  · rintro k z e l hz ⟨x6, rfl, rfl⟩
    obtain ⟨a, b, rfl, p1, p2, d1, d2, hh⟩ := hall z (List.mem_of_getElem? hz)
    rw [tgt_var]
    simp only [List.set_cons_succ, List.set_cons_zero]
    have fa : ∀ L, frz L a = some a := fun L => frz_flat p1 (by omega)
    have fb : ∀ L, frz L b = some b := fun L => frz_flat p2 (by omega)
    have s1 := fun L => tsaid_ex (L := L) (.inr ⟨rfl, rfl⟩) (hzs _ w) (fa _) (fb _) hh
    have s2 := fun L => tany_bow (L := L) (hzs _ w) (fa _) (fb _) hh
    rw [sIf_at]
    simp [i0, i1, s1, s2, heq1]
  · rintro e l hI
    exact ⟨rfl, hI⟩
  rintro o e l ⟨rfl, x6, rfl, rfl⟩
  dsimp only
  have hlb0 : (Cell.lst ((bows w).map bowD) :: K)[0]? = some (.lst ((bows w).map bowD)) := rfl
  apply Res_seq
  rw [sIf_at]
  by_cases h02 : (bows w).length < 2
  · simp [show ((bows w).length : Int) < 2 by omega]
  simp [show ¬ ((bows w).length : Int) < 2 by omega]
  have hpos : (0 : Int) < ((bows w).length : Int) - 1 := by omega
  obtain ⟨j', hj', hjl⟩ : ∃ j : Nat, x2 / 7 % (((bows w).length : Int) - 1) = (j : Int) ∧ j + 1 < (bows w).length := ⟨(x2 / 7 % (((bows w).length : Int) - 1)).toNat, by
    have := Int.emod_nonneg (x2 / 7) (show ((bows w).length : Int) - 1 ≠ 0 by omega)
    omega, by
    have := Int.emod_nonneg (x2 / 7) (show ((bows w).length : Int) - 1 ≠ 0 by omega)
    have := Int.emod_lt_of_pos (x2 / 7) hpos
    omega⟩
  obtain ⟨i, hi, hij⟩ : ∃ i : Nat, x2 / 7 / (((bows w).length : Int) - 1) % (1 + (j' : Int)) = (i : Int) ∧ i < j' + 1 := ⟨(x2 / 7 / (((bows w).length : Int) - 1) % (1 + (j' : Int))).toNat, by
    have := Int.emod_nonneg (x2 / 7 / (((bows w).length : Int) - 1)) (show (1 + (j' : Int)) ≠ 0 by omega)
    omega, by
    have := Int.emod_nonneg (x2 / 7 / (((bows w).length : Int) - 1)) (show (1 + (j' : Int)) ≠ 0 by omega)
    have := Int.emod_lt_of_pos (x2 / 7 / (((bows w).length : Int) - 1)) (show (0 : Int) < 1 + (j' : Int) by omega)
    omega⟩
  have hfit : fits (((bows w).length : Int) - 1) = true := fits_of (by omega)
  apply Res_seq
  simp [hj', show (1 : Int) < ((bows w).length : Int) by omega]
  apply Res_seq
  simp [hi, hfit, show (1 : Int) < ((bows w).length : Int) by omega, show (0 : Int) < 1 + (j' : Int) by omega]
  have hj1 : (1 + (j' : Int)) = ((j' + 1 : Nat) : Int) := by omega
  rw [hj1]
  generalize hjj : j' + 1 = j at *
  obtain ⟨p, hp⟩ : ∃ p, (bows w)[i]? = some p := ⟨_, List.getElem?_eq_getElem (by omega)⟩
  obtain ⟨q, hq⟩ : ∃ q, (bows w)[j]? = some q := ⟨_, List.getElem?_eq_getElem hjl⟩
  have haf := lafter_call (B := bows w) (by omega) hp hq hlb0
  have hal : (aftB w i j p q).length ≤ 50 := by
    unfold aftB
    have := exc_len (i := i) (j := j) (bs := bows w) (d := (0, 0))
    rw [List.length_append]
    have : (turnTwo p q).length = 2 := by unfold turnTwo; split <;> rfl
    omega
  have hA : ∀ b ∈ aftB w i j p q, b.1 < w.length := by
    intro b hb
    have hbw : ∀ b ∈ bows w, b.1 < w.length ∧ b.2 < w.length := fun b hb => by
      have := (bows_pairing W).lt b hb
      omega
    unfold aftB at hb
    rcases List.mem_append.mp hb with hb | hb
    · have hpm := exc_perm (d := (0, 0)) hij hp hq
      exact (hbw b (hpm.mem_iff.mpr (List.mem_cons_of_mem _ (List.mem_cons_of_mem _ hb)))).1
    · have h1 := hbw p (List.mem_of_getElem? hp)
      have h2 := hbw q (List.mem_of_getElem? hq)
      unfold turnTwo at hb
      split at hb <;> simp only [List.mem_cons, List.not_mem_nil, or_false] at hb <;> rcases hb with rfl | rfl <;> dsimp only <;> omega
  have hsd := tsaid_ok W (by omega) hij hjl hp hq
  change callI m__law_after _ _ = some (.ok _, _ ++ [.lst ((aftB w i j p q).map bowD)]) at haf
  generalize aftB w i j p q = A at *
  apply Res_seq
  rw [sSet_at]
  simp [haf]
  have hA2 : (Cell.lst ((bows w).map bowD) :: (K ++ [.lst (A.map bowD)]))[K.length + 1]? = some (.lst (A.map bowD)) := by simp
  generalize hM : Cell.lst ((bows w).map bowD) :: (K ++ [.lst (A.map bowD)]) = M at *
  generalize hkk : K.length + 1 = kk at *
  have hcr := lcross_call hal hA2
  have hMk : ∀ J : Hh, (M ++ J)[kk]? = some (.lst (A.map bowD)) := fun J => by rw [List.getElem?_append_left (List.getElem?_eq_some_iff.mp hA2).1, hA2]
  have htx := fun J => ltext_call (n := w.length) (by omega) hA (hMk J)
  rw [hw] at htx
  rw [show ((2 * m : Nat) : Int) = 2 * (m : Int) by omega] at htx
  have heqn : eqD (M ++ [.lst ((crsL A).map pr2)] ++ [.lst []]) (.ref M.length) (.ref (M ++ [Cell.lst ((crsL A).map pr2)]).length) = some (decide (crsL A = [])) := by
    have hd : ∀ X : List ((Nat × Nat) × (Nat × Nat)), D.deps (X.map pr2) ≤ 3 := fun X => deps_map fun a _ => by simp [pr2, bowD_eq, D.dep, D.deps]
    have hpu : ∀ X : List ((Nat × Nat) × (Nat × Nat)), D.pures (X.map pr2) = true := fun X => pures_map fun a _ => by simp [pr2]
    rw [eqD_cells (xs := (crsL A).map pr2) (ys := []) (by simp) (by simp) (hpu _) (by have := hd (crsL A); omega) rfl (by simp [D.deps])]
    cases crsL A <;> rfl
  have hml : (M ++ [Cell.lst ((crsL A).map pr2)]).length = M.length + 1 := by simp
  rw [hml] at heqn
  have hMM : M ++ [Cell.lst ((crsL A).map pr2)] ++ [.lst []] = M ++ [Cell.lst ((crsL A).map pr2), .lst []] := by simp
  rw [hMM] at heqn
  rcases hsd with ⟨a, ha, b, hb, hab, hs1, hs2⟩ | ⟨hno, hs1⟩
  · have hmem : (a, b) ∈ crsL A := crsL_mem.mpr ⟨ha, hb, hab⟩
    have hne : decide (crsL A = []) = false := decide_eq_false fun z => by rw [z] at hmem; cases hmem
    rw [hne] at heqn
    have hcr2 := lcross_call (A := A) hal (hMk [.lst ((crsL A).map pr2), .lst []])
    have hin := in_pr2 (L := M ++ [.lst ((crsL A).map pr2), .lst []] ++ [.lst ((crsL A).map pr2)]) (n := (M ++ [Cell.lst ((crsL A).map pr2), .lst []]).length) (X := crsL A) (by simp) hmem
    have hpr : pr2 (a, b) = .tup [bowD a, bowD b] := rfl
    rw [hpr] at hin
    apply Res_seq
    simp [hs1]
    apply Res_seq
    rw [sIf_at]
    simp [hcr, heqn]
    generalize hM2 : M ++ [Cell.lst ((crsL A).map pr2), .lst []] = M2 at *
    simp [i0, i1, hcr2, hin, hs2]
  · have hnil : crsL A = [] := by
      rw [List.eq_nil_iff_forall_not_mem]
      rintro ⟨a, b⟩ hm
      obtain ⟨h1, h2, h3⟩ := crsL_mem.mp hm
      rw [hno a h1 b h2] at h3
      cases h3
    have hne : decide (crsL A = []) = true := decide_eq_true hnil
    rw [hne] at heqn
    have heq2 : ∀ (L : Hh) (s t : Tx), eqD L (.tup [.str s, .str t]) (.tup [.str s, .str t]) = some true := fun L s t => by
      unfold eqD
      rw [deep_flat rfl (by simp [D.dep, D.deps])]
      exact congrArg some (eqv_refl rfl)
    apply Res_seq
    simp [hs1]
    apply Res_seq
    rw [sIf_at]
    simp [hcr, heqn, htx, hw, heq2]
end Rg
namespace Rg
open PySem PySem.Spec L2
open PyProof.Rows hiding St
def topS (i : Nat) : Stmt := PySem.Challenge.pw_ringmaze_k23_turned.main.body.getD i (.Pass ⟨0, 0, 0, 0⟩)
abbrev s_cross : Stmt := topS 1
theorem sc_cross : FnScope ["one", "other"] ["one", "other"] (defScope s_cross) := ⟨rfl, rfl, rfl, by decide +kernel, rfl, by decide +kernel, by decide +kernel⟩
abbrev s_crossing : Stmt := topS 2
theorem sc_crossing : FnScope ["bows", "one", "other"] ["bows"] (defScope s_crossing) := ⟨rfl, rfl, rfl, by decide +kernel, rfl, by decide +kernel, by decide +kernel⟩
abbrev s_is_whole : Stmt := topS 16
theorem sc_is_whole : FnScope ["thing"] ["thing"] (defScope s_is_whole) := ⟨rfl, rfl, rfl, by decide +kernel, rfl, by decide +kernel, by decide +kernel⟩
abbrev s_is_word : Stmt := topS 19
theorem sc_is_word : FnScope ["thing", "deep", "sign"] ["thing"] (defScope s_is_word) := ⟨rfl, rfl, rfl, by decide +kernel, rfl, by decide +kernel, by decide +kernel⟩
abbrev s_pairs : Stmt := topS 20
theorem sc_pairs : FnScope ["word", "found", "waiting", "k"] ["word"] (defScope s_pairs) := ⟨rfl, rfl, rfl, by decide +kernel, rfl, by decide +kernel, by decide +kernel⟩
abbrev s_are_bows : Stmt := topS 21
theorem sc_are_bows : FnScope ["bows", "bow"] ["bows"] (defScope s_are_bows) := ⟨rfl, rfl, rfl, by decide +kernel, rfl, by decide +kernel, by decide +kernel⟩
abbrev s_word_of : Stmt := topS 22
theorem sc_word_of : FnScope ["bows", "ends", "bow", "signs", "word", "end"] ["bows"] (defScope s_word_of) := ⟨rfl, rfl, rfl, by decide +kernel, rfl, by decide +kernel, by decide +kernel⟩
abbrev s_turned_two : Stmt := topS 24
theorem sc_turned_two : FnScope ["one", "other"] ["one", "other"] (defScope s_turned_two) := ⟨rfl, rfl, rfl, by decide +kernel, rfl, by decide +kernel, by decide +kernel⟩
abbrev s_turned : Stmt := topS 25
theorem sc_turned : FnScope ["word", "i", "j", "bows", "after", "found", "k"] ["word", "i", "j"] (defScope s_turned) := ⟨rfl, rfl, rfl, by decide +kernel, rfl, by decide +kernel, by decide +kernel⟩
abbrev s__law_alone : Stmt := topS 27
theorem sc__law_alone : FnScope ["_law_e", "_law_kinds", "_law_kind"] ["_law_e"] (defScope s__law_alone) := ⟨rfl, rfl, rfl, by decide +kernel, rfl, by decide +kernel, by decide +kernel⟩
abbrev s__law_cell_at : Stmt := topS 28
theorem sc__law_cell_at : FnScope ["_law_script", "_law_k"] ["_law_script", "_law_k"] (defScope s__law_cell_at) := ⟨rfl, rfl, rfl, by decide +kernel, rfl, by decide +kernel, by decide +kernel⟩
abbrev s__law_digits : Stmt := topS 29
theorem sc__law_digits : FnScope ["_law_cell", "_law_many", "_law_rest", "_law_found", "_law_k"] ["_law_cell", "_law_many"] (defScope s__law_digits) := ⟨rfl, rfl, rfl, by decide +kernel, rfl, by decide +kernel, by decide +kernel⟩
abbrev s__law_word : Stmt := topS 30
theorem sc__law_word : FnScope ["_law_cell", "_law_ends", "_law_digits_here", "_law_word_here", "_law_deep", "_law_k"] ["_law_cell", "_law_ends"] (defScope s__law_word) := ⟨rfl, rfl, rfl, by decide +kernel, rfl, by decide +kernel, by decide +kernel⟩
abbrev s__law_across : Stmt := topS 31
theorem sc__law_across : FnScope ["_law_word_here", "_law_found", "_law_waiting", "_law_k"] ["_law_word_here"] (defScope s__law_across) := ⟨rfl, rfl, rfl, by decide +kernel, rfl, by decide +kernel, by decide +kernel⟩
abbrev s__law_said : Stmt := topS 33
theorem sc__law_said : FnScope ["_law_word_here", "_law_i", "_law_j", "_law_e"] ["_law_word_here", "_law_i", "_law_j"] (defScope s__law_said) := ⟨rfl, rfl, rfl, by decide +kernel, rfl, by decide +kernel, by decide +kernel⟩
abbrev s__law_by_any : Stmt := topS 34
theorem sc__law_by_any : FnScope ["_law_word_here", "_law_i", "_law_j", "_law_e"] ["_law_word_here", "_law_i", "_law_j"] (defScope s__law_by_any) := ⟨rfl, rfl, rfl, by decide +kernel, rfl, by decide +kernel, by decide +kernel⟩
abbrev s__law_bows_of : Stmt := topS 35
theorem sc__law_bows_of : FnScope ["_law_word_here", "_law_across_here", "_law_end"] ["_law_word_here"] (defScope s__law_bows_of) := ⟨rfl, rfl, rfl, by decide +kernel, rfl, by decide +kernel, by decide +kernel⟩
abbrev s__law_after : Stmt := topS 36
theorem sc__law_after : FnScope ["_law_bows", "_law_i", "_law_j", "_law_after_here", "_law_a", "_law_b", "_law_c", "_law_d", "_law_k"] ["_law_bows", "_law_i", "_law_j"] (defScope s__law_after) := ⟨rfl, rfl, rfl, by decide +kernel, rfl, by decide +kernel, by decide +kernel⟩
abbrev s__law_crossing : Stmt := topS 37
theorem sc__law_crossing : FnScope ["_law_bows", "_law_found", "_law_a", "_law_b", "_law_c", "_law_d"] ["_law_bows"] (defScope s__law_crossing) := ⟨rfl, rfl, rfl, by decide +kernel, rfl, by decide +kernel, by decide +kernel⟩
abbrev s__law_text : Stmt := topS 38
theorem sc__law_text : FnScope ["_law_bows", "_law_ends", "_law_signs", "_law_a", "_law_b", "_law_k"] ["_law_bows", "_law_ends"] (defScope s__law_text) := ⟨rfl, rfl, rfl, by decide +kernel, rfl, by decide +kernel, by decide +kernel⟩
abbrev s_law : Stmt := topS 39
theorem sc_law : FnScope ["_law_script", "_law_ends", "_law_word_here", "_law_bows", "_law_cell", "_law_odd", "_law_pair", "_law_j", "_law_i", "_law_after_here", "_law_found"] ["_law_script"] (defScope s_law) := ⟨rfl, rfl, rfl, by decide +kernel, rfl, by decide +kernel, by decide +kernel⟩
abbrev s_Crossed___init__ : Stmt := clsStmt (topS 6) 0
theorem sc_Crossed___init__ : FnScope ["self", "words", "bows"] ["self", "words", "bows"] (defScope s_Crossed___init__) := ⟨rfl, rfl, rfl, by decide +kernel, rfl, by decide +kernel, by decide +kernel⟩
section
variable {P : Program} {w : World} {K : PySem.W.Frag} {mg : Str → Option Value} {base : Heap}
theorem okx_Crossed {f C Db : Addr} {fd : FuncData} (F : Fun K "__init__" "Crossed.__init__" s_Crossed___init__ f fd) (T : OexC K C) (no : PySem.W.findIn K (.ref C) "bows" = some none) (gD : mg "RingError" = some (.ref Db)) (rd : PySem.W.readsIn K Db (.type "type") = true) (ga : PySem.W.specialIn K (.ref Db) "__getattribute__" = some (some (.builtin "type.__getattribute__"))) (vV : PySem.W.findCls K (.ref Db) (.type "type") "__init__" = some (.val (.builtin "ValueError.__init__"))) : FnOk P w K mg base (L2N.CX P w) 1 f fd ["self", "words", "bows"] (spI C "bows") := by
  obtain ⟨oc, od, kV, doc, pm, an, cdv, ct, osl, rfl, lk, hcd⟩ := F.ex
  refine fn_of lk hcd sc_Crossed___init__ (fun vs H Q E h => by obtain ⟨a, y0, y, e, _⟩ := h; rw [e]; rfl) fun A outer s H vs Q E hr hsp => ?_
  obtain ⟨a, y0, y, rfl, ha, hq⟩ := hsp
  refine ⟨_, pss_cons (ps_expr (pe_binit rfl gD (by decide) rd ga vV (pa_cons (pe_var (i := 0) rfl (Or.inl rfl)) (pa_cons (pe_var (i := 1) rfl (Or.inl rfl)) (pa_nil))))) (pss_one (ps_ost (pe_var (i := 0) rfl (Or.inl rfl)) (pe_var (i := 2) rfl (Or.inl rfl)) rfl)), ?_⟩
  exact ⟨_, rfl, _, rfl, a, C, [y0], rfl, (show 1 ≤ 1000 by decide), T, ha, _, rfl, _, rfl, a, C, rfl, T, no, .inl ⟨ha, hq⟩⟩
theorem ok_cross {f : Addr} {fd : FuncData} (F : Fun K "cross" "cross" s_cross f fd)  : FnOk P w K mg base (L2N.CX P w) 1 f fd ["one", "other"] (spG K mg 2 m_cross) := by
  refine fn_ok 2 F sc_cross rfl fun cdv A outer s H E hr => ?_
  exact pdss_one (pds_ret (pde_chain (pde_ix (pde_var 0) (pde_int) (un1 hr)) (pdc_more opd_lt (pde_ix (pde_var 1) (pde_int) (un1 hr)) (pdc_more opd_lt (pde_ix (pde_var 0) (pde_int) (un1 hr)) (pdc_end opd_lt (pde_ix (pde_var 1) (pde_int) (un1 hr)))))))
theorem ok_crossing {f : Addr} {fd : FuncData} (F : Fun K "crossing" "crossing" s_crossing f fd) (d_cross : DefOk P w K mg base "cross" 1 2 ["one", "other"] m_cross) : FnOk P w K mg base (L2N.CX P w) 2 f fd ["bows"] (spG K mg 1 m_crossing) := by
  refine fn_ok 3 F sc_crossing rfl fun cdv A outer s H E hr => ?_
  exact pdss_cons (pds_for (passes_of rfl) (pdi_seq (pde_var 0)) (pdg_var 1 sc_crossing.nd) (pdss_one (pds_for (passes_of rfl) (pdi_seq (pde_var 0)) (pdg_var 2 sc_crossing.nd) (pdss_one (pds_if (pdt_val (pde_callD d_cross (hr.mono (by first | decide | omega)) (pda_cons (pde_var 1) (pda_cons (pde_var 2) (pda_nil))))) (pdss_one (pds_ret (pde_tup (pda_cons (pde_var 1) (pda_cons (pde_var 2) (pda_nil)))))) (pdss_nil))))))
    (pdss_one (pds_ret (pde_non)))
theorem ok_is_whole {f : Addr} {fd : FuncData} (F : Fun K "is_whole" "is_whole" s_is_whole f fd) (z_isinstance : mg "isinstance" = none) (z_bool : mg "bool" = none) (z_int : mg "int" = none) : FnOk P w K mg base (L2N.CX P w) 1 f fd ["thing"] (spG K mg 1 m_is_whole) := by
  refine fn_ok 1 F sc_is_whole rfl fun cdv A outer s H E hr => ?_
  exact pdss_one (pds_ret (pde_and (pde_isTy .int z_isinstance z_int (pde_var 0)) (pde_one (pde_not (pde_isTy .bool z_isinstance z_bool (pde_var 0))))))
theorem ok_is_word {f : Addr} {fd : FuncData} (F : Fun K "is_word" "is_word" s_is_word f fd) (z_len : mg "len" = none) (z_isinstance : mg "isinstance" = none) (z_str : mg "str" = none) (k_MOST_ENDS : ∃ t, mg "MOST_ENDS" = some (.int 40 t)) : FnOk P w K mg base (L2N.CX P w) 1 f fd ["thing"] (spG K mg 1 m_is_word) := by
  refine fn_ok 3 F sc_is_word rfl fun cdv A outer s H E hr => ?_
  exact pdss_cons (pds_if (pdt_w (pdw_or (pdt_not (pdt_val (pde_isTy .str z_isinstance z_str (pde_var 0)))) (pdw_or1 (pdt_cmp opd_gt (pde_call1 callD_len (by decide +kernel) z_len (pde_var 0)) (pde_gint k_MOST_ENDS.choose_spec))))) (pdss_one (pds_ret (pde_bl))) (pdss_nil))
    (pdss_cons (pds_set 1 sc_is_word.nd (pde_int))
    (pdss_cons (pds_for (passes_of rfl) (pdi_seq (pde_var 0)) (pdg_var 2 sc_is_word.nd) (pdss_cons (pds_if (pdt_cmp (opd_eq hr.units) (pde_var 2) (pde_str [40])) (pdss_one (pds_aug 1 ip_add dop_ipI sc_is_word.nd (pde_int))) (pdss_one (pds_if (pdt_cmp (opd_eq hr.units) (pde_var 2) (pde_str [41])) (pdss_one (pds_aug 1 ip_sub dop_ipI sc_is_word.nd (pde_int))) (pdss_one (pds_ret (pde_bl))))))
    (pdss_one (pds_if (pdt_cmp opd_lt (pde_var 1) (pde_int)) (pdss_one (pds_ret (pde_bl))) (pdss_nil)))))
    (pdss_one (pds_ret (pde_cmp (opd_eq hr.units) (pde_var 1) (pde_int))))))
theorem ok_pairs {f : Addr} {fd : FuncData} (F : Fun K "pairs" "pairs" s_pairs f fd) (d_is_word : DefOk P w K mg base "is_word" 1 1 ["thing"] m_is_word) (z_sorted : mg "sorted" = none) (z_len : mg "len" = none) (z_range : mg "range" = none) (x_NoWord : ExcOk K mg "NoWord") : FnOk P w K mg base (L2N.CX P w) 2 f fd ["word"] (spG K mg 1 m_pairs) := by
  refine fn_ok 4 F sc_pairs rfl fun cdv A outer s H E hr => ?_
  exact pdss_cons (pds_if (pdt_not (pdt_val (pde_callD d_is_word (hr.mono (by first | decide | omega)) (pda_cons (pde_var 0) (pda_nil))))) (pdss_one (pds_raiseD x_NoWord)) (pdss_nil))
    (pdss_cons (pds_set 1 sc_pairs.nd (pde_lst (pda_nil)))
    (pdss_cons (pds_set 2 sc_pairs.nd (pde_lst (pda_nil)))
    (pdss_cons (pds_for (passes_of rfl) (pdi_range1 z_range (pde_call1 callD_len (by decide +kernel) z_len (pde_var 0))) (pdg_var 3 sc_pairs.nd) (pdss_one (pds_if (pdt_cmp (opd_eq hr.units) (pde_ix (pde_var 0) (pde_var 3) (un1 hr)) (pde_str [40])) (pdss_one (pds_expr (pde_mtL mtd_append PySem.F.slot_list_append PySem.F.type_list_append (pde_var 2) (pda_cons (pde_var 3) (pda_nil))))) (pdss_one (pds_expr (pde_mtL mtd_append PySem.F.slot_list_append PySem.F.type_list_append (pde_var 1) (pda_cons (pde_tup (pda_cons (pde_mtL0 mtd_pop PySem.F.slot_list_pop PySem.F.type_list_pop (pde_var 2)) (pda_cons (pde_var 3) (pda_nil)))) (pda_nil))))))))
    (pdss_one (pds_ret (pde_call1 (callD_sorted hr.units) (by decide +kernel) z_sorted (pde_var 1)))))))
theorem ok_are_bows {f : Addr} {fd : FuncData} (F : Fun K "are_bows" "are_bows" s_are_bows f fd) (d_is_whole : DefOk P w K mg base "is_whole" 1 1 ["thing"] m_is_whole) (z_len : mg "len" = none) (z_isinstance : mg "isinstance" = none) (z_tuple : mg "tuple" = none) (z_list : mg "list" = none) (k_MOST_ENDS : ∃ t, mg "MOST_ENDS" = some (.int 40 t)) : FnOk P w K mg base (L2N.CX P w) 2 f fd ["bows"] (spG K mg 1 m_are_bows) := by
  refine fn_ok 2 F sc_are_bows rfl fun cdv A outer s H E hr => ?_
  exact pdss_cons (pds_if (pdt_w (pdw_or (pdt_not (pdt_val (pde_isTy .list z_isinstance z_list (pde_var 0)))) (pdw_or1 (pdt_cmp opd_gt (pde_call1 callD_len (by decide +kernel) z_len (pde_var 0)) (pde_bin opd_div (pde_gint k_MOST_ENDS.choose_spec) (pde_int)))))) (pdss_one (pds_ret (pde_bl))) (pdss_nil))
    (pdss_cons (pds_for (passes_of rfl) (pdi_seq (pde_var 0)) (pdg_var 1 sc_are_bows.nd) (pdss_cons (pds_if (pdt_w (pdw_or (pdt_not (pdt_val (pde_isTy .tuple z_isinstance z_tuple (pde_var 1)))) (pdw_or1 (pdt_cmp (opd_ne hr.units) (pde_call1 callD_len (by decide +kernel) z_len (pde_var 1)) (pde_int))))) (pdss_one (pds_ret (pde_bl))) (pdss_nil))
    (pdss_one (pds_if (pdt_w (pdw_or (pdt_not (pdt_val (pde_callD d_is_whole (hr.mono (by first | decide | omega)) (pda_cons (pde_ix (pde_var 1) (pde_int) (un1 hr)) (pda_nil))))) (pdw_or (pdt_not (pdt_val (pde_callD d_is_whole (hr.mono (by first | decide | omega)) (pda_cons (pde_ix (pde_var 1) (pde_int) (un1 hr)) (pda_nil))))) (pdw_or1 (pdt_cmp opd_ge (pde_ix (pde_var 1) (pde_int) (un1 hr)) (pde_ix (pde_var 1) (pde_int) (un1 hr))))))) (pdss_one (pds_ret (pde_bl))) (pdss_nil)))))
    (pdss_one (pds_ret (pde_bl))))
theorem ok_word_of {f : Addr} {fd : FuncData} (F : Fun K "word_of" "word_of" s_word_of f fd) (d_pairs : DefOk P w K mg base "pairs" 2 1 ["word"] m_pairs) (d_are_bows : DefOk P w K mg base "are_bows" 2 1 ["bows"] m_are_bows) (z_sorted : mg "sorted" = none) (z_len : mg "len" = none) (z_range : mg "range" = none) (z_list : mg "list" = none) (x_NoWord : ExcOk K mg "NoWord") : FnOk P w K mg base (L2N.CX P w) 3 f fd ["bows"] (spG K mg 1 m_word_of) := by
  refine fn_ok 6 F sc_word_of rfl fun cdv A outer s H E hr => ?_
  exact pdss_cons (pds_if (pdt_not (pdt_val (pde_callD d_are_bows (hr.mono (by first | decide | omega)) (pda_cons (pde_var 0) (pda_nil))))) (pdss_one (pds_raiseD x_NoWord)) (pdss_nil))
    (pdss_cons (pds_set 1 sc_word_of.nd (pde_lst (pda_nil)))
    (pdss_cons (pds_for (passes_of rfl) (pdi_seq (pde_var 0)) (pdg_var 2 sc_word_of.nd) (pdss_one (pds_set 1 sc_word_of.nd (pde_bin opd_add (pde_var 1) (pde_lst (pda_cons (pde_ix (pde_var 2) (pde_int) (un1 hr)) (pda_cons (pde_ix (pde_var 2) (pde_int) (un1 hr)) (pda_nil))))))))
    (pdss_cons (pds_if (pdt_cmp (opd_ne hr.units) (pde_call1 (callD_sorted hr.units) (by decide +kernel) z_sorted (pde_var 1)) (pde_listR1 z_range z_list (pde_call1 callD_len (by decide +kernel) z_len (pde_var 1)))) (pdss_one (pds_raiseD x_NoWord)) (pdss_nil))
    (pdss_cons (pds_setLc 3 [("end", 5)] sc_word_of.nd (blkOk_by (own := [("end", 5)]) (N := ["bows", "ends", "bow", "signs", "word", "end"]) (sc := defScope s_word_of) (by decide +kernel)) (pdi_seq (pde_var 1)) (fun _ _ _ _ _ => pdg2_var 5 sc_word_of.nd) (fun _ _ _ _ _ => pdts_nil) (fun _ _ _ _ _ => pde_str [41]))
    (pdss_cons (pds_for (passes_of rfl) (pdi_seq (pde_var 0)) (pdg_var 2 sc_word_of.nd) (pdss_one (pds_asg (pde_str [40]) (pdg_sub (pde_var 3) (pde_ix (pde_var 2) (pde_int) (un1 hr)) (un1 hr)))))
    (pdss_cons (pds_set 4 sc_word_of.nd (pde_mtS mts_join PySem.F.slot_str_join PySem.F.type_str_join (pde_str []) (pde_var 3)))
    (pdss_cons (pds_if (pdt_cmp (opd_ne hr.units) (pde_callD d_pairs (hr.mono (by first | decide | omega)) (pda_cons (pde_var 4) (pda_nil))) (pde_call1 (callD_sorted hr.units) (by decide +kernel) z_sorted (pde_var 0))) (pdss_one (pds_raiseD x_NoWord)) (pdss_nil))
    (pdss_one (pds_ret (pde_var 4))))))))))
theorem ok_turned_two {f : Addr} {fd : FuncData} (F : Fun K "turned_two" "turned_two" s_turned_two f fd)  : FnOk P w K mg base (L2N.CX P w) 1 f fd ["one", "other"] (spG K mg 2 m_turned_two) := by
  refine fn_ok 2 F sc_turned_two rfl fun cdv A outer s H E hr => ?_
  exact pdss_cons (pds_if (pdt_cmp opd_lt (pde_ix (pde_var 1) (pde_int) (un1 hr)) (pde_ix (pde_var 0) (pde_int) (un1 hr))) (pdss_one (pds_ret (pde_lst (pda_cons (pde_tup (pda_cons (pde_ix (pde_var 0) (pde_int) (un1 hr)) (pda_cons (pde_ix (pde_var 1) (pde_int) (un1 hr)) (pda_nil)))) (pda_cons (pde_tup (pda_cons (pde_ix (pde_var 1) (pde_int) (un1 hr)) (pda_cons (pde_ix (pde_var 0) (pde_int) (un1 hr)) (pda_nil)))) (pda_nil)))))) (pdss_nil))
    (pdss_one (pds_ret (pde_lst (pda_cons (pde_tup (pda_cons (pde_ix (pde_var 0) (pde_int) (un1 hr)) (pda_cons (pde_ix (pde_var 1) (pde_int) (un1 hr)) (pda_nil)))) (pda_cons (pde_tup (pda_cons (pde_ix (pde_var 0) (pde_int) (un1 hr)) (pda_cons (pde_ix (pde_var 1) (pde_int) (un1 hr)) (pda_nil)))) (pda_nil))))))
theorem ok_turned {f : Addr} {fd : FuncData} (F : Fun K "turned" "turned" s_turned f fd) (d_word_of : DefOk P w K mg base "word_of" 3 1 ["bows"] m_word_of) (d_crossing : DefOk P w K mg base "crossing" 2 1 ["bows"] m_crossing) (d_turned_two : DefOk P w K mg base "turned_two" 1 2 ["one", "other"] m_turned_two) (d_is_whole : DefOk P w K mg base "is_whole" 1 1 ["thing"] m_is_whole) (d_pairs : DefOk P w K mg base "pairs" 2 1 ["word"] m_pairs) (z_len : mg "len" = none) (z_range : mg "range" = none) (x_NoBow : ExcOk K mg "NoBow") (xf_Crossed : ExcFOk P w K mg base "Crossed" "bows" 1) : FnOk P w K mg base (L2N.CX P w) 4 f fd ["word", "i", "j"] (spG K mg 3 m_turned) := by
  refine fn_ok 7 F sc_turned rfl fun cdv A outer s H E hr => ?_
  exact pdss_cons (pds_set 3 sc_turned.nd (pde_callD d_pairs (hr.mono (by first | decide | omega)) (pda_cons (pde_var 0) (pda_nil))))
    (pdss_cons (pds_if (pdt_w (pdw_or (pdt_not (pdt_val (pde_callD d_is_whole (hr.mono (by first | decide | omega)) (pda_cons (pde_var 1) (pda_nil))))) (pdw_or (pdt_not (pdt_val (pde_callD d_is_whole (hr.mono (by first | decide | omega)) (pda_cons (pde_var 2) (pda_nil))))) (pdw_or1 (pdt_not (pdt_chain (pde_int) (pdc_more opd_le (pde_var 1) (pdc_more opd_lt (pde_var 2) (pdc_end opd_lt (pde_call1 callD_len (by decide +kernel) z_len (pde_var 3))))))))))) (pdss_one (pds_raiseD x_NoBow)) (pdss_nil))
    (pdss_cons (pds_set 4 sc_turned.nd (pde_bin opd_add (pde_lc [("k", 6)] sc_turned.nd (blkOk_by (own := [("k", 6)]) (N := ["word", "i", "j", "bows", "after", "found", "k"]) (sc := defScope s_turned) (by decide +kernel)) (pdi_range1 z_range (pde_call1 callD_len (by decide +kernel) z_len (pde_var 3))) (fun _ _ _ _ _ => pdg2_var 6 sc_turned.nd) (fun _ _ _ _ _ => pdts_one (pdt_w (pdw_and (pdt_cmp (opd_ne hr.units) (pde_var 6) (pde_var 1)) (pdw_and1 (pdt_cmp (opd_ne hr.units) (pde_var 6) (pde_var 2)))))) (fun _ _ _ _ _ => pde_ix (pde_var 3) (pde_var 6) (un1 hr))) (pde_callD d_turned_two (hr.mono (by first | decide | omega)) (pda_cons (pde_ix (pde_var 3) (pde_var 1) (un1 hr)) (pda_cons (pde_ix (pde_var 3) (pde_var 2) (un1 hr)) (pda_nil))))))
    (pdss_cons (pds_set 5 sc_turned.nd (pde_callD d_crossing (hr.mono (by first | decide | omega)) (pda_cons (pde_var 4) (pda_nil))))
    (pdss_cons (pds_if (pdt_cmp opd_isnot (pde_var 5) (pde_non)) (pdss_one (pds_raiseF xf_Crossed (hr.mono (by first | decide | omega)) (pde_var 5))) (pdss_nil))
    (pdss_one (pds_ret (pde_callD d_word_of (hr.mono (by first | decide | omega)) (pda_cons (pde_var 4) (pda_nil)))))))))
theorem ok__law_alone {f : Addr} {fd : FuncData} (F : Fun K "_law_alone" "_law_alone" s__law_alone f fd) (z_len : mg "len" = none) (z_isinstance : mg "isinstance" = none) (z_ValueError : mg "ValueError" = none) (i_NoRow : IsN K mg "NoRow" [("NoWord", false), ("NoBow", false), ("Crossed", false)]) (i_NoName : IsN K mg "NoName" [("NoWord", false), ("NoBow", false), ("Crossed", false)]) (i_NoNumber : IsN K mg "NoNumber" [("NoWord", false), ("NoBow", false), ("Crossed", false)]) (i_NoCode : IsN K mg "NoCode" [("NoWord", false), ("NoBow", false), ("Crossed", false)]) (i_NoRound : IsN K mg "NoRound" [("NoWord", false), ("NoBow", false), ("Crossed", false)]) (i_NoBow : IsN K mg "NoBow" [("NoWord", false), ("NoBow", true), ("Crossed", false)]) (i_NoDrawing : IsN K mg "NoDrawing" [("NoWord", false), ("NoBow", false), ("Crossed", false)]) (i_NoWord : IsN K mg "NoWord" [("NoWord", true), ("NoBow", false), ("Crossed", false)]) (i_Crossed : IsN K mg "Crossed" [("NoWord", false), ("NoBow", false), ("Crossed", true)]) (i_NoMaze : IsN K mg "NoMaze" [("NoWord", false), ("NoBow", false), ("Crossed", false)]) (iv : IsX K mg (.type "ValueError") [("NoWord", true), ("NoBow", true), ("Crossed", true)]) : FnE P w K mg base (L2N.CX P w) 1 f fd ["_law_e"] (spE K mg 1 m__law_alone) := by
  refine fnE_ok (body := c__law_alone) 3 F sc__law_alone rfl fun cdv A outer s H E p c z hot px hr => ?_
  exact pdss_cons (pds_set 1 sc__law_alone.nd (pde_lst (pda_cons (pde_isN List.mem_cons_self px i_NoMaze z_isinstance (pde_var 0)) (pda_cons (pde_isN List.mem_cons_self px i_Crossed z_isinstance (pde_var 0)) (pda_cons (pde_isN List.mem_cons_self px i_NoWord z_isinstance (pde_var 0)) (pda_cons (pde_isN List.mem_cons_self px i_NoDrawing z_isinstance (pde_var 0)) (pda_nil)))))))
    (pdss_cons (pds_set 1 sc__law_alone.nd (pde_bin opd_add (pde_var 1) (pde_lst (pda_cons (pde_isN List.mem_cons_self px i_NoBow z_isinstance (pde_var 0)) (pda_cons (pde_isN List.mem_cons_self px i_NoRound z_isinstance (pde_var 0)) (pda_cons (pde_isN List.mem_cons_self px i_NoCode z_isinstance (pde_var 0)) (pda_cons (pde_isN List.mem_cons_self px i_NoNumber z_isinstance (pde_var 0)) (pda_nil))))))))
    (pdss_cons (pds_set 1 sc__law_alone.nd (pde_bin opd_add (pde_var 1) (pde_lst (pda_cons (pde_isN List.mem_cons_self px i_NoName z_isinstance (pde_var 0)) (pda_cons (pde_isN List.mem_cons_self px i_NoRow z_isinstance (pde_var 0)) (pda_cons (pde_not (pde_isPB List.mem_cons_self px z_ValueError iv z_isinstance (pde_var 0))) (pda_nil)))))))
    (pdss_one (pds_ret (pde_and (pde_cmp (opd_eq hr.units) (pde_call1 callD_len (by decide +kernel) z_len (pde_lcH [("_law_kind", 2)] ⟨p, ⟨hot.1, hot.2⟩, List.mem_cons_self⟩ sc__law_alone.nd (blkOk_by (own := [("_law_kind", 2)]) (N := ["_law_e", "_law_kinds", "_law_kind"]) (sc := defScope s__law_alone) (by decide +kernel)) (pdih_list (pde_var 1)) (fun _ _ _ _ _ => pdg2_var 2 sc__law_alone.nd) (fun _ _ _ _ _ => pdts_one (pdt_val (pde_var 2))) (fun _ _ _ _ _ => pde_var 2))) (pde_int)) (pde_one (pde_not (pde_ix (pde_var 1) (pde_int) (un1H hr)))))))))
theorem ok__law_cell_at {f : Addr} {fd : FuncData} (F : Fun K "_law_cell_at" "_law_cell_at" s__law_cell_at f fd) (z_len : mg "len" = none) : FnOk P w K mg base (L2N.CX P w) 1 f fd ["_law_script", "_law_k"] (spG K mg 2 m__law_cell_at) := by
  refine fn_ok 2 F sc__law_cell_at rfl fun cdv A outer s H E hr => ?_
  exact pdss_cons (pds_if (pdt_cmp opd_lt (pde_var 1) (pde_call1 callD_len (by decide +kernel) z_len (pde_var 0))) (pdss_one (pds_ret (pde_ix (pde_var 0) (pde_var 1) (un1 hr)))) (pdss_nil))
    (pdss_one (pds_ret (pde_bin opd_add (pde_bin opd_mul (pde_int) (pde_var 1)) (pde_int))))
theorem ok__law_digits {f : Addr} {fd : FuncData} (F : Fun K "_law_digits" "_law_digits" s__law_digits f fd) (z_range : mg "range" = none) : FnOk P w K mg base (L2N.CX P w) 1 f fd ["_law_cell", "_law_many"] (spG K mg 2 m__law_digits) := by
  refine fn_ok 5 F sc__law_digits rfl fun cdv A outer s H E hr => ?_
  exact pdss_cons (pds_set 2 sc__law_digits.nd (pde_bin opd_div (pde_var 0) (pde_int)))
    (pdss_cons (pds_if (pdt_w (pdw_or (pdt_cmp (opd_eq hr.units) (pde_bin opd_mod (pde_var 0) (pde_int)) (pde_int)) (pdw_or1 (pdt_cmp opd_lt (pde_var 0) (pde_bin opd_pow (pde_int) (pde_int)))))) (pdss_cons (pds_set 2 sc__law_digits.nd (pde_int))
    (pdss_one (pds_for (passes_of rfl) (pdi_range1 z_range (pde_int)) (pdg_var 4 sc__law_digits.nd) (pdss_one (pds_set 2 sc__law_digits.nd (pde_bin opd_add (pde_bin opd_mul (pde_var 2) (pde_int)) (pde_bin opd_mod (pde_bin opd_mul (pde_bin opd_mod (pde_bin opd_mul (pde_bin opd_add (pde_var 0) (pde_bin opd_mul (pde_var 4) (pde_var 4))) (pde_int)) (pde_int)) (pde_int)) (pde_int)))))))) (pdss_nil))
    (pdss_cons (pds_set 3 sc__law_digits.nd (pde_lst (pda_nil)))
    (pdss_cons (pds_for (passes_of rfl) (pdi_range1 z_range (pde_var 1)) (pdg_var 4 sc__law_digits.nd) (pdss_cons (pds_expr (pde_mtL mtd_append PySem.F.slot_list_append PySem.F.type_list_append (pde_var 3) (pda_cons (pde_bin opd_mod (pde_var 2) (pde_int)) (pda_nil))))
    (pdss_one (pds_set 2 sc__law_digits.nd (pde_bin opd_div (pde_var 2) (pde_int))))))
    (pdss_one (pds_ret (pde_var 3))))))
theorem ok__law_word {f : Addr} {fd : FuncData} (F : Fun K "_law_word" "_law_word" s__law_word f fd) (d__law_digits : DefOk P w K mg base "_law_digits" 1 2 ["_law_cell", "_law_many"] m__law_digits) (z_range : mg "range" = none) : FnOk P w K mg base (L2N.CX P w) 2 f fd ["_law_cell", "_law_ends"] (spG K mg 2 m__law_word) := by
  refine fn_ok 6 F sc__law_word rfl fun cdv A outer s H E hr => ?_
  exact pdss_cons (pds_set 2 sc__law_word.nd (pde_callD d__law_digits (hr.mono (by first | decide | omega)) (pda_cons (pde_var 0) (pda_cons (pde_var 1) (pda_nil)))))
    (pdss_cons (pds_set 3 sc__law_word.nd (pde_str []))
    (pdss_cons (pds_set 4 sc__law_word.nd (pde_int))
    (pdss_cons (pds_for (passes_of rfl) (pdi_range1 z_range (pde_var 1)) (pdg_var 5 sc__law_word.nd) (pdss_one (pds_if (pdt_w (pdw_or (pdt_cmp (opd_eq hr.units) (pde_var 4) (pde_int)) (pdw_or1 (pdt_w (pdw_and (pdt_cmp opd_lt (pde_var 4) (pde_bin opd_sub (pde_var 1) (pde_var 5))) (pdw_and1 (pdt_cmp (opd_eq hr.units) (pde_bin opd_mod (pde_ix (pde_var 2) (pde_var 5) (un1 hr)) (pde_int)) (pde_int)))))))) (pdss_cons (pds_set 3 sc__law_word.nd (pde_bin opd_add (pde_var 3) (pde_str [40])))
    (pdss_one (pds_set 4 sc__law_word.nd (pde_bin opd_add (pde_var 4) (pde_int))))) (pdss_cons (pds_set 3 sc__law_word.nd (pde_bin opd_add (pde_var 3) (pde_str [41])))
    (pdss_one (pds_set 4 sc__law_word.nd (pde_bin opd_sub (pde_var 4) (pde_int))))))))
    (pdss_one (pds_ret (pde_var 3))))))
theorem ok__law_across {f : Addr} {fd : FuncData} (F : Fun K "_law_across" "_law_across" s__law_across f fd) (z_len : mg "len" = none) (z_range : mg "range" = none) : FnOk P w K mg base (L2N.CX P w) 1 f fd ["_law_word_here"] (spG K mg 1 m__law_across) := by
  refine fn_ok 4 F sc__law_across rfl fun cdv A outer s H E hr => ?_
  exact pdss_cons (pds_set 1 sc__law_across.nd (pde_dictK))
    (pdss_cons (pds_set 2 sc__law_across.nd (pde_lst (pda_nil)))
    (pdss_cons (pds_for (passes_of rfl) (pdi_range1 z_range (pde_call1 callD_len (by decide +kernel) z_len (pde_var 0))) (pdg_var 3 sc__law_across.nd) (pdss_one (pds_if (pdt_cmp (opd_eq hr.units) (pde_ix (pde_var 0) (pde_var 3) (un1 hr)) (pde_str [40])) (pdss_one (pds_expr (pde_mtL mtd_append PySem.F.slot_list_append PySem.F.type_list_append (pde_var 2) (pda_cons (pde_var 3) (pda_nil))))) (pdss_cons (pds_asg (pde_mtL0 mtd_pop PySem.F.slot_list_pop PySem.F.type_list_pop (pde_var 2)) (pdg_sub (pde_var 1) (pde_var 3) (un1 hr)))
    (pdss_one (pds_asg (pde_var 3) (pdg_sub (pde_var 1) (pde_ix (pde_var 1) (pde_var 3) (un1 hr)) (un1 hr))))))))
    (pdss_one (pds_ret (pde_var 1)))))
theorem ok__law_said {f : Addr} {fd : FuncData} (F : Fun K "_law_said" "_law_said" s__law_said f fd) (d_turned : DefOk P w K mg base "turned" 4 3 ["word", "i", "j"] m_turned) (h_NoBow : HExc K mg "NoBow" [("NoWord", false), ("NoBow", true), ("Crossed", false)]) (h_NoWord : HExc K mg "NoWord" [("NoWord", true), ("NoBow", false), ("Crossed", false)]) (h_Crossed : HExc K mg "Crossed" [("NoWord", false), ("NoBow", false), ("Crossed", true)]) (fl_bows : FldC K mg ["Crossed"] "bows") : FnOk P w K mg base (L2N.CX P w) 5 f fd ["_law_word_here", "_law_i", "_law_j"] (spG K mg 3 m__law_said) := by
  refine fn_ok 4 F sc__law_said rfl fun cdv A outer s H E hr => ?_
  exact pdss_one (pds_tryMx (fun _ _ _ => pdss_one (pds_ret (pde_tup (pda_cons (pde_str [116, 111, 108, 100]) (pda_cons (pde_callD d_turned (hr.mono (by first | decide | omega)) (pda_cons (pde_var 0) (pda_cons (pde_var 1) (pda_cons (pde_var 2) (pda_nil))))) (pda_nil)))))) (.named 3 h_Crossed (fun a oe pn c z px => pdss_one (pds_ret (pde_tup (pda_cons (pde_str [99, 114, 111, 115, 115, 101, 100]) (pda_cons (pde_fld px fl_bows (pde_var 3)) (pda_nil)))))) (.plain h_NoWord (fun _ _ _ => pdss_one (pds_ret (pde_tup (pda_cons (pde_str [119, 111, 114, 100]) (pda_cons (pde_non) (pda_nil)))))) (.plain h_NoBow (fun _ _ _ => pdss_one (pds_ret (pde_tup (pda_cons (pde_str [98, 111, 119]) (pda_cons (pde_non) (pda_nil)))))) (.nil)))) sc__law_said.nd)
theorem ok__law_by_any {f : Addr} {fd : FuncData} (F : Fun K "_law_by_any" "_law_by_any" s__law_by_any f fd) (d_turned : DefOk P w K mg base "turned" 4 3 ["word", "i", "j"] m_turned) (d__law_alone : DefE P w K mg base "_law_alone" 1 1 ["_law_e"] m__law_alone) (h_RingError : HExc K mg "RingError" [("NoWord", true), ("NoBow", true), ("Crossed", true)]) : FnOk P w K mg base (L2N.CX P w) 5 f fd ["_law_word_here", "_law_i", "_law_j"] (spG K mg 3 m__law_by_any) := by
  refine fn_ok 4 F sc__law_by_any rfl fun cdv A outer s H E hr => ?_
  exact pdss_cons (pds_tryAs 3 h_RingError (fun _ _ _ => pdss_one (pds_expr (pde_callD d_turned (hr.mono (by first | decide | omega)) (pda_cons (pde_var 0) (pda_cons (pde_var 1) (pda_cons (pde_var 2) (pda_nil))))))) (fun a oe pn c z px => pdss_one (pds_ret (pde_callE (X := Cx.suite _ a ((a, oe) :: pn)) d__law_alone (roomH_suite (hr.mono (by first | decide | omega)) _) (px.hot rfl) List.mem_cons_self px (pda_cons (pde_var 3) (pda_nil))))) sc__law_by_any.nd)
    (pdss_one (pds_ret (pde_bl)))
theorem ok__law_bows_of {f : Addr} {fd : FuncData} (F : Fun K "_law_bows_of" "_law_bows_of" s__law_bows_of f fd) (d__law_across : DefOk P w K mg base "_law_across" 1 1 ["_law_word_here"] m__law_across) (z_len : mg "len" = none) (z_range : mg "range" = none) : FnOk P w K mg base (L2N.CX P w) 2 f fd ["_law_word_here"] (spG K mg 1 m__law_bows_of) := by
  refine fn_ok 3 F sc__law_bows_of rfl fun cdv A outer s H E hr => ?_
  exact pdss_cons (pds_set 1 sc__law_bows_of.nd (pde_callD d__law_across (hr.mono (by first | decide | omega)) (pda_cons (pde_var 0) (pda_nil))))
    (pdss_one (pds_ret (pde_lc [("_law_end", 2)] sc__law_bows_of.nd (blkOk_by (own := [("_law_end", 2)]) (N := ["_law_word_here", "_law_across_here", "_law_end"]) (sc := defScope s__law_bows_of) (by decide +kernel)) (pdi_range1 z_range (pde_call1 callD_len (by decide +kernel) z_len (pde_var 0))) (fun _ _ _ _ _ => pdg2_var 2 sc__law_bows_of.nd) (fun _ _ _ _ _ => pdts_one (pdt_cmp (opd_eq hr.units) (pde_ix (pde_var 0) (pde_var 2) (un1 hr)) (pde_str [40]))) (fun _ _ _ _ _ => pde_tup (pda_cons (pde_var 2) (pda_cons (pde_ix (pde_var 1) (pde_var 2) (un1 hr)) (pda_nil)))))))
theorem ok__law_after {f : Addr} {fd : FuncData} (F : Fun K "_law_after" "_law_after" s__law_after f fd) (z_len : mg "len" = none) (z_range : mg "range" = none) : FnOk P w K mg base (L2N.CX P w) 1 f fd ["_law_bows", "_law_i", "_law_j"] (spG K mg 3 m__law_after) := by
  refine fn_ok 9 F sc__law_after rfl fun cdv A outer s H E hr => ?_
  exact pdss_cons (pds_asg (pde_ix (pde_var 0) (pde_var 1) (un1 hr)) (pdg_tup 2 (pdgs_cons (pdg_var 4 sc__law_after.nd) (pdgs_cons (pdg_var 5 sc__law_after.nd) (pdgs_nil)))))
    (pdss_cons (pds_asg (pde_ix (pde_var 0) (pde_var 2) (un1 hr)) (pdg_tup 2 (pdgs_cons (pdg_var 6 sc__law_after.nd) (pdgs_cons (pdg_var 7 sc__law_after.nd) (pdgs_nil)))))
    (pdss_cons (pds_setLc 3 [("_law_k", 8)] sc__law_after.nd (blkOk_by (own := [("_law_k", 8)]) (N := ["_law_bows", "_law_i", "_law_j", "_law_after_here", "_law_a", "_law_b", "_law_c", "_law_d", "_law_k"]) (sc := defScope s__law_after) (by decide +kernel)) (pdi_range1 z_range (pde_call1 callD_len (by decide +kernel) z_len (pde_var 0))) (fun _ _ _ _ _ => pdg2_var 8 sc__law_after.nd) (fun _ _ _ _ _ => pdts_one (pdt_w (pdw_and (pdt_cmp (opd_ne hr.units) (pde_var 8) (pde_var 1)) (pdw_and1 (pdt_cmp (opd_ne hr.units) (pde_var 8) (pde_var 2)))))) (fun _ _ _ _ _ => pde_ix (pde_var 0) (pde_var 8) (un1 hr)))
    (pdss_cons (pds_if (pdt_cmp opd_lt (pde_var 7) (pde_var 5)) (pdss_one (pds_ret (pde_bin opd_add (pde_var 3) (pde_lst (pda_cons (pde_tup (pda_cons (pde_var 4) (pda_cons (pde_var 6) (pda_nil)))) (pda_cons (pde_tup (pda_cons (pde_var 7) (pda_cons (pde_var 5) (pda_nil)))) (pda_nil))))))) (pdss_nil))
    (pdss_one (pds_ret (pde_bin opd_add (pde_var 3) (pde_lst (pda_cons (pde_tup (pda_cons (pde_var 4) (pda_cons (pde_var 7) (pda_nil)))) (pda_cons (pde_tup (pda_cons (pde_var 5) (pda_cons (pde_var 6) (pda_nil)))) (pda_nil))))))))))
theorem ok__law_crossing {f : Addr} {fd : FuncData} (F : Fun K "_law_crossing" "_law_crossing" s__law_crossing f fd)  : FnOk P w K mg base (L2N.CX P w) 1 f fd ["_law_bows"] (spG K mg 1 m__law_crossing) := by
  refine fn_ok 6 F sc__law_crossing rfl fun cdv A outer s H E hr => ?_
  exact pdss_cons (pds_set 1 sc__law_crossing.nd (pde_lst (pda_nil)))
    (pdss_cons (pds_for (passes_of rfl) (pdi_seq (pde_var 0)) (pdg_tup 2 (pdgs_cons (pdg_var 2 sc__law_crossing.nd) (pdgs_cons (pdg_var 3 sc__law_crossing.nd) (pdgs_nil)))) (pdss_one (pds_for (passes_of rfl) (pdi_seq (pde_var 0)) (pdg_tup 2 (pdgs_cons (pdg_var 4 sc__law_crossing.nd) (pdgs_cons (pdg_var 5 sc__law_crossing.nd) (pdgs_nil)))) (pdss_one (pds_if (pdt_chain (pde_var 2) (pdc_more opd_lt (pde_var 4) (pdc_more opd_lt (pde_var 3) (pdc_end opd_lt (pde_var 5))))) (pdss_one (pds_expr (pde_mtL mtd_append PySem.F.slot_list_append PySem.F.type_list_append (pde_var 1) (pda_cons (pde_tup (pda_cons (pde_tup (pda_cons (pde_var 2) (pda_cons (pde_var 3) (pda_nil)))) (pda_cons (pde_tup (pda_cons (pde_var 4) (pda_cons (pde_var 5) (pda_nil)))) (pda_nil)))) (pda_nil))))) (pdss_nil))))))
    (pdss_one (pds_ret (pde_var 1))))
theorem ok__law_text {f : Addr} {fd : FuncData} (F : Fun K "_law_text" "_law_text" s__law_text f fd) (z_range : mg "range" = none) : FnOk P w K mg base (L2N.CX P w) 1 f fd ["_law_bows", "_law_ends"] (spG K mg 2 m__law_text) := by
  refine fn_ok 6 F sc__law_text rfl fun cdv A outer s H E hr => ?_
  exact pdss_cons (pds_setLc 2 [("_law_k", 5)] sc__law_text.nd (blkOk_by (own := [("_law_k", 5)]) (N := ["_law_bows", "_law_ends", "_law_signs", "_law_a", "_law_b", "_law_k"]) (sc := defScope s__law_text) (by decide +kernel)) (pdi_range1 z_range (pde_var 1)) (fun _ _ _ _ _ => pdg2_var 5 sc__law_text.nd) (fun _ _ _ _ _ => pdts_nil) (fun _ _ _ _ _ => pde_str [41]))
    (pdss_cons (pds_for (passes_of rfl) (pdi_seq (pde_var 0)) (pdg_tup 2 (pdgs_cons (pdg_var 3 sc__law_text.nd) (pdgs_cons (pdg_var 4 sc__law_text.nd) (pdgs_nil)))) (pdss_one (pds_asg (pde_str [40]) (pdg_sub (pde_var 2) (pde_var 3) (un1 hr)))))
    (pdss_one (pds_ret (pde_mtS mts_join PySem.F.slot_str_join PySem.F.type_str_join (pde_str []) (pde_var 2)))))
theorem ok_law {f : Addr} {fd : FuncData} (F : Fun K "law" "law" s_law f fd) (d__law_by_any : DefOk P w K mg base "_law_by_any" 5 3 ["_law_word_here", "_law_i", "_law_j"] m__law_by_any) (d__law_crossing : DefOk P w K mg base "_law_crossing" 1 1 ["_law_bows"] m__law_crossing) (d__law_text : DefOk P w K mg base "_law_text" 1 2 ["_law_bows", "_law_ends"] m__law_text) (d__law_said : DefOk P w K mg base "_law_said" 5 3 ["_law_word_here", "_law_i", "_law_j"] m__law_said) (d__law_after : DefOk P w K mg base "_law_after" 1 3 ["_law_bows", "_law_i", "_law_j"] m__law_after) (d__law_cell_at : DefOk P w K mg base "_law_cell_at" 1 2 ["_law_script", "_law_k"] m__law_cell_at) (d__law_bows_of : DefOk P w K mg base "_law_bows_of" 2 1 ["_law_word_here"] m__law_bows_of) (d__law_word : DefOk P w K mg base "_law_word" 2 2 ["_law_cell", "_law_ends"] m__law_word) (z_len : mg "len" = none) : FnOk P w K mg base (L2N.CX P w) 6 f fd ["_law_script"] (spG K mg 1 m_law) := by
  refine fn_ok 11 F sc_law rfl fun cdv A outer s H E hr => ?_
  exact pdss_cons (pds_set 1 sc_law.nd (pde_bin opd_mul (pde_int) (pde_bin opd_mod (pde_callD d__law_cell_at (hr.mono (by first | decide | omega)) (pda_cons (pde_var 0) (pda_cons (pde_int) (pda_nil)))) (pde_int))))
    (pdss_cons (pds_if (pdt_cmp (opd_eq hr.units) (pde_bin opd_mod (pde_bin opd_div (pde_callD d__law_cell_at (hr.mono (by first | decide | omega)) (pda_cons (pde_var 0) (pda_cons (pde_int) (pda_nil)))) (pde_int)) (pde_int)) (pde_int)) (pdss_one (pds_set 1 sc_law.nd (pde_bin opd_add (pde_int) (pde_bin opd_mul (pde_int) (pde_bin opd_mod (pde_bin opd_div (pde_callD d__law_cell_at (hr.mono (by first | decide | omega)) (pda_cons (pde_var 0) (pda_cons (pde_int) (pda_nil)))) (pde_int)) (pde_int)))))) (pdss_nil))
    (pdss_cons (pds_set 2 sc_law.nd (pde_callD d__law_word (hr.mono (by first | decide | omega)) (pda_cons (pde_callD d__law_cell_at (hr.mono (by first | decide | omega)) (pda_cons (pde_var 0) (pda_cons (pde_int) (pda_nil)))) (pda_cons (pde_var 1) (pda_nil)))))
    (pdss_cons (pds_set 3 sc_law.nd (pde_callD d__law_bows_of (hr.mono (by first | decide | omega)) (pda_cons (pde_var 2) (pda_nil))))
    (pdss_cons (pds_set 4 sc_law.nd (pde_callD d__law_cell_at (hr.mono (by first | decide | omega)) (pda_cons (pde_var 0) (pda_cons (pde_int) (pda_nil)))))
    (pdss_cons (pds_set 5 sc_law.nd (pde_ix (pde_lst (pda_cons (pde_non) (pda_cons (pde_un un_neg opd_neg (pde_int)) (pda_cons (pde_call1 callD_len (by decide +kernel) z_len (pde_var 3)) (pda_cons (pde_bl) (pda_cons (pde_str [48]) (pda_cons (pde_tup (pda_cons (pde_int) (pda_nil))) (pda_cons (pde_bin opd_pow (pde_int) (pde_int)) (pda_nil))))))))) (pde_bin opd_mod (pde_var 4) (pde_int)) (un1 hr)))
    (pdss_cons (pds_if (pdt_cmp (opd_ne hr.units) (pde_callD d__law_said (hr.mono (by first | decide | omega)) (pda_cons (pde_ix (pde_lst (pda_cons (pde_bin opd_add (pde_var 2) (pde_str [40])) (pda_cons (pde_non) (pda_cons (pde_int) (pda_cons (pde_bin opd_add (pde_str [41]) (pde_var 2)) (pda_cons (pde_lst (pda_cons (pde_str [40, 41]) (pda_nil))) (pda_nil))))))) (pde_bin opd_mod (pde_var 4) (pde_int)) (un1 hr)) (pda_cons (pde_int) (pda_cons (pde_var 5) (pda_nil))))) (pde_tup (pda_cons (pde_str [119, 111, 114, 100]) (pda_cons (pde_non) (pda_nil))))) (pdss_one (pds_ret (pde_bl))) (pdss_nil))
    (pdss_cons (pds_for (passes_of rfl) (pdi_seq (pde_lst (pda_cons (pde_tup (pda_cons (pde_int) (pda_cons (pde_var 5) (pda_nil)))) (pda_cons (pde_tup (pda_cons (pde_var 5) (pda_cons (pde_call1 callD_len (by decide +kernel) z_len (pde_var 3)) (pda_nil)))) (pda_cons (pde_tup (pda_cons (pde_var 5) (pda_cons (pde_bin opd_sub (pde_call1 callD_len (by decide +kernel) z_len (pde_var 3)) (pde_int)) (pda_nil)))) (pda_cons (pde_tup (pda_cons (pde_var 5) (pda_cons (pde_int) (pda_nil)))) (pda_cons (pde_tup (pda_cons (pde_int) (pda_cons (pde_int) (pda_nil)))) (pda_cons (pde_tup (pda_cons (pde_int) (pda_cons (pde_int) (pda_nil)))) (pda_nil))))))))) (pdg_var 6 sc_law.nd) (pdss_one (pds_if (pdt_w (pdw_or (pdt_cmp (opd_ne hr.units) (pde_callD d__law_said (hr.mono (by first | decide | omega)) (pda_cons (pde_var 2) (pda_cons (pde_ix (pde_var 6) (pde_int) (un1 hr)) (pda_cons (pde_ix (pde_var 6) (pde_int) (un1 hr)) (pda_nil))))) (pde_tup (pda_cons (pde_str [98, 111, 119]) (pda_cons (pde_non) (pda_nil))))) (pdw_or1 (pdt_not (pdt_val (pde_callD d__law_by_any (hr.mono (by first | decide | omega)) (pda_cons (pde_var 2) (pda_cons (pde_ix (pde_var 6) (pde_int) (un1 hr)) (pda_cons (pde_ix (pde_var 6) (pde_int) (un1 hr)) (pda_nil)))))))))) (pdss_one (pds_ret (pde_bl))) (pdss_nil))))
    (pdss_cons (pds_if (pdt_cmp opd_lt (pde_call1 callD_len (by decide +kernel) z_len (pde_var 3)) (pde_int)) (pdss_one (pds_ret (pde_bl))) (pdss_nil))
    (pdss_cons (pds_set 7 sc_law.nd (pde_bin opd_add (pde_int) (pde_bin opd_mod (pde_bin opd_div (pde_var 4) (pde_int)) (pde_bin opd_sub (pde_call1 callD_len (by decide +kernel) z_len (pde_var 3)) (pde_int)))))
    (pdss_cons (pds_set 8 sc_law.nd (pde_bin opd_mod (pde_bin opd_div (pde_bin opd_div (pde_var 4) (pde_int)) (pde_bin opd_sub (pde_call1 callD_len (by decide +kernel) z_len (pde_var 3)) (pde_int))) (pde_var 7)))
    (pdss_cons (pds_set 9 sc_law.nd (pde_callD d__law_after (hr.mono (by first | decide | omega)) (pda_cons (pde_var 3) (pda_cons (pde_var 8) (pda_cons (pde_var 7) (pda_nil))))))
    (pdss_cons (pds_set 10 sc_law.nd (pde_callD d__law_said (hr.mono (by first | decide | omega)) (pda_cons (pde_var 2) (pda_cons (pde_var 8) (pda_cons (pde_var 7) (pda_nil))))))
    (pdss_cons (pds_if (pdt_cmp (opd_eq hr.units) (pde_callD d__law_crossing (hr.mono (by first | decide | omega)) (pda_cons (pde_var 9) (pda_nil))) (pde_lst (pda_nil))) (pdss_one (pds_ret (pde_cmp (opd_eq hr.units) (pde_var 10) (pde_tup (pda_cons (pde_str [116, 111, 108, 100]) (pda_cons (pde_callD d__law_text (hr.mono (by first | decide | omega)) (pda_cons (pde_var 9) (pda_cons (pde_var 1) (pda_nil)))) (pda_nil))))))) (pdss_nil))
    (pdss_one (pds_ret (pde_and (pde_cmp (opd_eq hr.units) (pde_ix (pde_var 10) (pde_int) (un1 hr)) (pde_str [99, 114, 111, 115, 115, 101, 100])) (pde_and (pde_cmp (opd_in (un65 hr)) (pde_ix (pde_var 10) (pde_int) (un1 hr)) (pde_callD d__law_crossing (hr.mono (by first | decide | omega)) (pda_cons (pde_var 9) (pda_nil))) (by with_unfolding_all rfl)) (pde_one (pde_callD d__law_by_any (hr.mono (by first | decide | omega)) (pda_cons (pde_var 2) (pda_cons (pde_var 8) (pda_cons (pde_var 7) (pda_nil)))))))))))))))))))))))
end
end Rg
namespace Rg
open PySem PySem.Spec L2
open PyProof.Rows hiding St
theorem law_promise {K : PySem.W.Frag} {mg : Str → Option Value} : ∀ vs H Q E, spLaw K vs H Q E → spG K mg 1 m_law vs H Q E := law_from law_data
theorem all_mk {l : PySem.W.OpenLaw} {w : World} {K : PySem.W.Frag} {h : Heap} {mg : Str → Option Value} {fa f0 f1 f2 f3 f4 f5 f6 f7 f8 f9 f10 f11 f12 f13 f14 f15 f16 f17 f18 f19 f20 C0 C1 C2 C3 C4 C5 C6 C7 C8 C9 C10 : Addr} (X : K.In h) (G : h.Ns mainGlobals mg) (hfa : mg "law" = some (.ref fa))
    {od0 an0 od1 an1 od2 an2 od3 an3 od4 an4 od5 an5 od6 an6 od7 an7 od8 an8 od9 an9 od10 an10 od11 an11 od12 an12 od13 an13 od14 an14 od15 an15 od16 an16 od17 an17 od18 an18 od19 an19 od20 an20 : Option Addr} {sl0 sl1 sl2 sl3 sl4 sl5 sl6 sl7 sl8 sl9 sl10 sl11 sl12 sl13 sl14 sl15 sl16 sl17 sl18 sl19 sl20 : Array (Option Value)} {oc0 kV0 dc0 pm0 cd0 ct0 oc1 kV1 dc1 pm1 cd1 ct1 oc2 kV2 dc2 pm2 cd2 ct2 oc3 kV3 dc3 pm3 cd3 ct3 oc4 kV4 dc4 pm4 cd4 ct4 oc5 kV5 dc5 pm5 cd5 ct5 oc6 kV6 dc6 pm6 cd6 ct6 oc7 kV7 dc7 pm7 cd7 ct7 oc8 kV8 dc8 pm8 cd8 ct8 oc9 kV9 dc9 pm9 cd9 ct9 oc10 kV10 dc10 pm10 cd10 ct10 oc11 kV11 dc11 pm11 cd11 ct11 oc12 kV12 dc12 pm12 cd12 ct12 oc13 kV13 dc13 pm13 cd13 ct13 oc14 kV14 dc14 pm14 cd14 ct14 oc15 kV15 dc15 pm15 cd15 ct15 oc16 kV16 dc16 pm16 cd16 ct16 oc17 kV17 dc17 pm17 cd17 ct17 oc18 kV18 dc18 pm18 cd18 ct18 oc19 kV19 dc19 pm19 cd19 ct19 oc20 kV20 dc20 pm20 cd20 ct20 : Value}
    {t_MOST_ENDS : Tok}
    {g0 : Addr} {godn0 gann0 : Option Addr} {gsl0 : Array (Option Value)} {goc0 gkV0 gdc0 gpm0 gcd0 gct0 : Value}
    {ynm0 yq0 : Str} {yN0 : Addr} {ybs0 ybm0 ysub0 : List Value} {ysn0 : List Str} {yab0 : Bool} {ycol0 : Option Bool} {ydd0 : Option Addr} {ym0_0 ym1_0 ym2_0 ym3_0 ym5_0 : Option Value}
    (a0 : PySem.W.nsIn K mainGlobals "cross" = some (some (.ref f0)))
    (l0 : K.lookup f0 = some ⟨oc0, od0, .func (PySem.W.fnOf "cross" "cross" (defArgs s_cross) (defBody s_cross) (defScope s_cross) .none kV0 dc0 pm0 an0 cd0 ct0), sl0⟩)
    (c0 : PySem.W.codeIn K cd0 "cross" = true)
    (k0 : PySem.W.keepIn K (.ref f0) = true)
    (a1 : PySem.W.nsIn K mainGlobals "crossing" = some (some (.ref f1)))
    (l1 : K.lookup f1 = some ⟨oc1, od1, .func (PySem.W.fnOf "crossing" "crossing" (defArgs s_crossing) (defBody s_crossing) (defScope s_crossing) .none kV1 dc1 pm1 an1 cd1 ct1), sl1⟩)
    (c1 : PySem.W.codeIn K cd1 "crossing" = true)
    (k1 : PySem.W.keepIn K (.ref f1) = true)
    (a2 : PySem.W.nsIn K mainGlobals "is_whole" = some (some (.ref f2)))
    (l2 : K.lookup f2 = some ⟨oc2, od2, .func (PySem.W.fnOf "is_whole" "is_whole" (defArgs s_is_whole) (defBody s_is_whole) (defScope s_is_whole) .none kV2 dc2 pm2 an2 cd2 ct2), sl2⟩)
    (c2 : PySem.W.codeIn K cd2 "is_whole" = true)
    (k2 : PySem.W.keepIn K (.ref f2) = true)
    (a3 : PySem.W.nsIn K mainGlobals "is_word" = some (some (.ref f3)))
    (l3 : K.lookup f3 = some ⟨oc3, od3, .func (PySem.W.fnOf "is_word" "is_word" (defArgs s_is_word) (defBody s_is_word) (defScope s_is_word) .none kV3 dc3 pm3 an3 cd3 ct3), sl3⟩)
    (c3 : PySem.W.codeIn K cd3 "is_word" = true)
    (k3 : PySem.W.keepIn K (.ref f3) = true)
    (a4 : PySem.W.nsIn K mainGlobals "pairs" = some (some (.ref f4)))
    (l4 : K.lookup f4 = some ⟨oc4, od4, .func (PySem.W.fnOf "pairs" "pairs" (defArgs s_pairs) (defBody s_pairs) (defScope s_pairs) .none kV4 dc4 pm4 an4 cd4 ct4), sl4⟩)
    (c4 : PySem.W.codeIn K cd4 "pairs" = true)
    (k4 : PySem.W.keepIn K (.ref f4) = true)
    (a5 : PySem.W.nsIn K mainGlobals "are_bows" = some (some (.ref f5)))
    (l5 : K.lookup f5 = some ⟨oc5, od5, .func (PySem.W.fnOf "are_bows" "are_bows" (defArgs s_are_bows) (defBody s_are_bows) (defScope s_are_bows) .none kV5 dc5 pm5 an5 cd5 ct5), sl5⟩)
    (c5 : PySem.W.codeIn K cd5 "are_bows" = true)
    (k5 : PySem.W.keepIn K (.ref f5) = true)
    (a6 : PySem.W.nsIn K mainGlobals "word_of" = some (some (.ref f6)))
    (l6 : K.lookup f6 = some ⟨oc6, od6, .func (PySem.W.fnOf "word_of" "word_of" (defArgs s_word_of) (defBody s_word_of) (defScope s_word_of) .none kV6 dc6 pm6 an6 cd6 ct6), sl6⟩)
    (c6 : PySem.W.codeIn K cd6 "word_of" = true)
    (k6 : PySem.W.keepIn K (.ref f6) = true)
    (a7 : PySem.W.nsIn K mainGlobals "turned_two" = some (some (.ref f7)))
    (l7 : K.lookup f7 = some ⟨oc7, od7, .func (PySem.W.fnOf "turned_two" "turned_two" (defArgs s_turned_two) (defBody s_turned_two) (defScope s_turned_two) .none kV7 dc7 pm7 an7 cd7 ct7), sl7⟩)
    (c7 : PySem.W.codeIn K cd7 "turned_two" = true)
    (k7 : PySem.W.keepIn K (.ref f7) = true)
    (a8 : PySem.W.nsIn K mainGlobals "turned" = some (some (.ref f8)))
    (l8 : K.lookup f8 = some ⟨oc8, od8, .func (PySem.W.fnOf "turned" "turned" (defArgs s_turned) (defBody s_turned) (defScope s_turned) .none kV8 dc8 pm8 an8 cd8 ct8), sl8⟩)
    (c8 : PySem.W.codeIn K cd8 "turned" = true)
    (k8 : PySem.W.keepIn K (.ref f8) = true)
    (a9 : PySem.W.nsIn K mainGlobals "_law_alone" = some (some (.ref f9)))
    (l9 : K.lookup f9 = some ⟨oc9, od9, .func (PySem.W.fnOf "_law_alone" "_law_alone" (defArgs s__law_alone) (defBody s__law_alone) (defScope s__law_alone) .none kV9 dc9 pm9 an9 cd9 ct9), sl9⟩)
    (c9 : PySem.W.codeIn K cd9 "_law_alone" = true)
    (k9 : PySem.W.keepIn K (.ref f9) = true)
    (a10 : PySem.W.nsIn K mainGlobals "_law_cell_at" = some (some (.ref f10)))
    (l10 : K.lookup f10 = some ⟨oc10, od10, .func (PySem.W.fnOf "_law_cell_at" "_law_cell_at" (defArgs s__law_cell_at) (defBody s__law_cell_at) (defScope s__law_cell_at) .none kV10 dc10 pm10 an10 cd10 ct10), sl10⟩)
    (c10 : PySem.W.codeIn K cd10 "_law_cell_at" = true)
    (k10 : PySem.W.keepIn K (.ref f10) = true)
    (a11 : PySem.W.nsIn K mainGlobals "_law_digits" = some (some (.ref f11)))
    (l11 : K.lookup f11 = some ⟨oc11, od11, .func (PySem.W.fnOf "_law_digits" "_law_digits" (defArgs s__law_digits) (defBody s__law_digits) (defScope s__law_digits) .none kV11 dc11 pm11 an11 cd11 ct11), sl11⟩)
    (c11 : PySem.W.codeIn K cd11 "_law_digits" = true)
    (k11 : PySem.W.keepIn K (.ref f11) = true)
    (a12 : PySem.W.nsIn K mainGlobals "_law_word" = some (some (.ref f12)))
    (l12 : K.lookup f12 = some ⟨oc12, od12, .func (PySem.W.fnOf "_law_word" "_law_word" (defArgs s__law_word) (defBody s__law_word) (defScope s__law_word) .none kV12 dc12 pm12 an12 cd12 ct12), sl12⟩)
    (c12 : PySem.W.codeIn K cd12 "_law_word" = true)
    (k12 : PySem.W.keepIn K (.ref f12) = true)
    (a13 : PySem.W.nsIn K mainGlobals "_law_across" = some (some (.ref f13)))
    (l13 : K.lookup f13 = some ⟨oc13, od13, .func (PySem.W.fnOf "_law_across" "_law_across" (defArgs s__law_across) (defBody s__law_across) (defScope s__law_across) .none kV13 dc13 pm13 an13 cd13 ct13), sl13⟩)
    (c13 : PySem.W.codeIn K cd13 "_law_across" = true)
    (k13 : PySem.W.keepIn K (.ref f13) = true)
    (a14 : PySem.W.nsIn K mainGlobals "_law_said" = some (some (.ref f14)))
    (l14 : K.lookup f14 = some ⟨oc14, od14, .func (PySem.W.fnOf "_law_said" "_law_said" (defArgs s__law_said) (defBody s__law_said) (defScope s__law_said) .none kV14 dc14 pm14 an14 cd14 ct14), sl14⟩)
    (c14 : PySem.W.codeIn K cd14 "_law_said" = true)
    (k14 : PySem.W.keepIn K (.ref f14) = true)
    (a15 : PySem.W.nsIn K mainGlobals "_law_by_any" = some (some (.ref f15)))
    (l15 : K.lookup f15 = some ⟨oc15, od15, .func (PySem.W.fnOf "_law_by_any" "_law_by_any" (defArgs s__law_by_any) (defBody s__law_by_any) (defScope s__law_by_any) .none kV15 dc15 pm15 an15 cd15 ct15), sl15⟩)
    (c15 : PySem.W.codeIn K cd15 "_law_by_any" = true)
    (k15 : PySem.W.keepIn K (.ref f15) = true)
    (a16 : PySem.W.nsIn K mainGlobals "_law_bows_of" = some (some (.ref f16)))
    (l16 : K.lookup f16 = some ⟨oc16, od16, .func (PySem.W.fnOf "_law_bows_of" "_law_bows_of" (defArgs s__law_bows_of) (defBody s__law_bows_of) (defScope s__law_bows_of) .none kV16 dc16 pm16 an16 cd16 ct16), sl16⟩)
    (c16 : PySem.W.codeIn K cd16 "_law_bows_of" = true)
    (k16 : PySem.W.keepIn K (.ref f16) = true)
    (a17 : PySem.W.nsIn K mainGlobals "_law_after" = some (some (.ref f17)))
    (l17 : K.lookup f17 = some ⟨oc17, od17, .func (PySem.W.fnOf "_law_after" "_law_after" (defArgs s__law_after) (defBody s__law_after) (defScope s__law_after) .none kV17 dc17 pm17 an17 cd17 ct17), sl17⟩)
    (c17 : PySem.W.codeIn K cd17 "_law_after" = true)
    (k17 : PySem.W.keepIn K (.ref f17) = true)
    (a18 : PySem.W.nsIn K mainGlobals "_law_crossing" = some (some (.ref f18)))
    (l18 : K.lookup f18 = some ⟨oc18, od18, .func (PySem.W.fnOf "_law_crossing" "_law_crossing" (defArgs s__law_crossing) (defBody s__law_crossing) (defScope s__law_crossing) .none kV18 dc18 pm18 an18 cd18 ct18), sl18⟩)
    (c18 : PySem.W.codeIn K cd18 "_law_crossing" = true)
    (k18 : PySem.W.keepIn K (.ref f18) = true)
    (a19 : PySem.W.nsIn K mainGlobals "_law_text" = some (some (.ref f19)))
    (l19 : K.lookup f19 = some ⟨oc19, od19, .func (PySem.W.fnOf "_law_text" "_law_text" (defArgs s__law_text) (defBody s__law_text) (defScope s__law_text) .none kV19 dc19 pm19 an19 cd19 ct19), sl19⟩)
    (c19 : PySem.W.codeIn K cd19 "_law_text" = true)
    (k19 : PySem.W.keepIn K (.ref f19) = true)
    (a20 : PySem.W.nsIn K mainGlobals "law" = some (some (.ref f20)))
    (l20 : K.lookup f20 = some ⟨oc20, od20, .func (PySem.W.fnOf "law" "law" (defArgs s_law) (defBody s_law) (defScope s_law) .none kV20 dc20 pm20 an20 cd20 ct20), sl20⟩)
    (c20 : PySem.W.codeIn K cd20 "law" = true)
    (k20 : PySem.W.keepIn K (.ref f20) = true)
    (z_isinstance : PySem.W.nsIn K mainGlobals "isinstance" = some none)
    (z_bool : PySem.W.nsIn K mainGlobals "bool" = some none)
    (z_int : PySem.W.nsIn K mainGlobals "int" = some none)
    (z_len : PySem.W.nsIn K mainGlobals "len" = some none)
    (z_str : PySem.W.nsIn K mainGlobals "str" = some none)
    (z_sorted : PySem.W.nsIn K mainGlobals "sorted" = some none)
    (z_range : PySem.W.nsIn K mainGlobals "range" = some none)
    (z_tuple : PySem.W.nsIn K mainGlobals "tuple" = some none)
    (z_list : PySem.W.nsIn K mainGlobals "list" = some none)
    (z_ValueError : PySem.W.nsIn K mainGlobals "ValueError" = some none)
    (k_MOST_ENDS : PySem.W.nsIn K mainGlobals "MOST_ENDS" = some (some (.int 40 t_MOST_ENDS)))
    (xa0 : PySem.W.nsIn K mainGlobals "NoWord" = some (some (.ref C0)))
    (xe0 : PySem.W.excIn K C0 [.type "ValueError", .type "Exception", .type "BaseException", .type "object"] "ValueError.__new__" = true)
    (xk0 : PySem.W.keepIn K (.ref C0) = true)
    (xb0 : PySem.W.subIn K (.ref C0) (.type "BaseException") = some true)
    (xt0 : PySem.W.typeIn K (.ref C0) = some (.type "type"))
    (xa1 : PySem.W.nsIn K mainGlobals "NoBow" = some (some (.ref C1)))
    (xe1 : PySem.W.excIn K C1 [.type "ValueError", .type "Exception", .type "BaseException", .type "object"] "ValueError.__new__" = true)
    (xk1 : PySem.W.keepIn K (.ref C1) = true)
    (xb1 : PySem.W.subIn K (.ref C1) (.type "BaseException") = some true)
    (xt1 : PySem.W.typeIn K (.ref C1) = some (.type "type"))
    (xa2 : PySem.W.nsIn K mainGlobals "Crossed" = some (some (.ref C2)))
    (xk2 : PySem.W.keepIn K (.ref C2) = true)
    (xb2 : PySem.W.subIn K (.ref C2) (.type "BaseException") = some true)
    (xt2 : PySem.W.typeIn K (.ref C2) = some (.type "type"))
    (xa3 : PySem.W.nsIn K mainGlobals "RingError" = some (some (.ref C3)))
    (xb3 : PySem.W.subIn K (.ref C3) (.type "BaseException") = some true)
    (xt3 : PySem.W.typeIn K (.ref C3) = some (.type "type"))
    (xa4 : PySem.W.nsIn K mainGlobals "NoRow" = some (some (.ref C4)))
    (xb4 : PySem.W.subIn K (.ref C4) (.type "BaseException") = some true)
    (xt4 : PySem.W.typeIn K (.ref C4) = some (.type "type"))
    (xa5 : PySem.W.nsIn K mainGlobals "NoName" = some (some (.ref C5)))
    (xb5 : PySem.W.subIn K (.ref C5) (.type "BaseException") = some true)
    (xt5 : PySem.W.typeIn K (.ref C5) = some (.type "type"))
    (xa6 : PySem.W.nsIn K mainGlobals "NoNumber" = some (some (.ref C6)))
    (xb6 : PySem.W.subIn K (.ref C6) (.type "BaseException") = some true)
    (xt6 : PySem.W.typeIn K (.ref C6) = some (.type "type"))
    (xa7 : PySem.W.nsIn K mainGlobals "NoCode" = some (some (.ref C7)))
    (xb7 : PySem.W.subIn K (.ref C7) (.type "BaseException") = some true)
    (xt7 : PySem.W.typeIn K (.ref C7) = some (.type "type"))
    (xa8 : PySem.W.nsIn K mainGlobals "NoRound" = some (some (.ref C8)))
    (xb8 : PySem.W.subIn K (.ref C8) (.type "BaseException") = some true)
    (xt8 : PySem.W.typeIn K (.ref C8) = some (.type "type"))
    (xa9 : PySem.W.nsIn K mainGlobals "NoDrawing" = some (some (.ref C9)))
    (xb9 : PySem.W.subIn K (.ref C9) (.type "BaseException") = some true)
    (xt9 : PySem.W.typeIn K (.ref C9) = some (.type "type"))
    (xa10 : PySem.W.nsIn K mainGlobals "NoMaze" = some (some (.ref C10)))
    (xb10 : PySem.W.subIn K (.ref C10) (.type "BaseException") = some true)
    (xt10 : PySem.W.typeIn K (.ref C10) = some (.type "type"))
    (ex0 : K.lookup C2 = some (excClassObj ynm0 yq0 C2 yN0 ybs0 ybm0 true ysn0 ysub0 yab0 ycol0 ydd0 ym0_0 ym1_0 ym2_0 ym3_0 ym5_0 "ValueError.__new__"))
    (eb0 : PySem.HandSPX.refsVE ybm0 = true)
    (es0 : PySem.W.findIn K (.ref C2) "__setattr__" = some (some (.builtin "object.__setattr__")))
    (ei0 : PySem.W.findIn K (.ref C2) "__init__" = some (some (.ref g0)))
    (et0 : PySem.W.typeIn K (.ref g0) = some (.type "function"))
    (el0 : K.lookup g0 = some ⟨goc0, godn0, .func (PySem.W.fnOf "__init__" "Crossed.__init__" (defArgs s_Crossed___init__) (defBody s_Crossed___init__) (defScope s_Crossed___init__) .none gkV0 gdc0 gpm0 gann0 gcd0 gct0), gsl0⟩)
    (ec0 : PySem.W.codeIn K gcd0 "Crossed.__init__" = true)
    (ek0 : PySem.W.keepIn K (.ref g0) = true)
    (en0 : PySem.W.findIn K (.ref C2) "bows" = some none)
    (er0 : PySem.W.readsIn K C3 (.type "type") = true)
    (eg0 : PySem.W.specialIn K (.ref C3) "__getattribute__" = some (some (.builtin "type.__getattribute__")))
    (ev0 : PySem.W.findCls K (.ref C3) (.type "type") "__init__" = some (.val (.builtin "ValueError.__init__")))
    (xi1 : PySem.W.isClsIn K C1 = true)
    (xs0_1 : PySem.W.subIn K (.ref C0) (.ref C1) = some false)
    (xs1_1 : PySem.W.subIn K (.ref C1) (.ref C1) = some true)
    (xs2_1 : PySem.W.subIn K (.ref C2) (.ref C1) = some false)
    (xi0 : PySem.W.isClsIn K C0 = true)
    (xs0_0 : PySem.W.subIn K (.ref C0) (.ref C0) = some true)
    (xs1_0 : PySem.W.subIn K (.ref C1) (.ref C0) = some false)
    (xs2_0 : PySem.W.subIn K (.ref C2) (.ref C0) = some false)
    (xi2 : PySem.W.isClsIn K C2 = true)
    (xs0_2 : PySem.W.subIn K (.ref C0) (.ref C2) = some false)
    (xs1_2 : PySem.W.subIn K (.ref C1) (.ref C2) = some false)
    (xs2_2 : PySem.W.subIn K (.ref C2) (.ref C2) = some true)
    (xi3 : PySem.W.isClsIn K C3 = true)
    (xs0_3 : PySem.W.subIn K (.ref C0) (.ref C3) = some true)
    (xs1_3 : PySem.W.subIn K (.ref C1) (.ref C3) = some true)
    (xs2_3 : PySem.W.subIn K (.ref C2) (.ref C3) = some true)
    (xi4 : PySem.W.isClsIn K C4 = true)
    (xs0_4 : PySem.W.subIn K (.ref C0) (.ref C4) = some false)
    (xs1_4 : PySem.W.subIn K (.ref C1) (.ref C4) = some false)
    (xs2_4 : PySem.W.subIn K (.ref C2) (.ref C4) = some false)
    (xi5 : PySem.W.isClsIn K C5 = true)
    (xs0_5 : PySem.W.subIn K (.ref C0) (.ref C5) = some false)
    (xs1_5 : PySem.W.subIn K (.ref C1) (.ref C5) = some false)
    (xs2_5 : PySem.W.subIn K (.ref C2) (.ref C5) = some false)
    (xi6 : PySem.W.isClsIn K C6 = true)
    (xs0_6 : PySem.W.subIn K (.ref C0) (.ref C6) = some false)
    (xs1_6 : PySem.W.subIn K (.ref C1) (.ref C6) = some false)
    (xs2_6 : PySem.W.subIn K (.ref C2) (.ref C6) = some false)
    (xi7 : PySem.W.isClsIn K C7 = true)
    (xs0_7 : PySem.W.subIn K (.ref C0) (.ref C7) = some false)
    (xs1_7 : PySem.W.subIn K (.ref C1) (.ref C7) = some false)
    (xs2_7 : PySem.W.subIn K (.ref C2) (.ref C7) = some false)
    (xi8 : PySem.W.isClsIn K C8 = true)
    (xs0_8 : PySem.W.subIn K (.ref C0) (.ref C8) = some false)
    (xs1_8 : PySem.W.subIn K (.ref C1) (.ref C8) = some false)
    (xs2_8 : PySem.W.subIn K (.ref C2) (.ref C8) = some false)
    (xi9 : PySem.W.isClsIn K C9 = true)
    (xs0_9 : PySem.W.subIn K (.ref C0) (.ref C9) = some false)
    (xs1_9 : PySem.W.subIn K (.ref C1) (.ref C9) = some false)
    (xs2_9 : PySem.W.subIn K (.ref C2) (.ref C9) = some false)
    (xi10 : PySem.W.isClsIn K C10 = true)
    (xs0_10 : PySem.W.subIn K (.ref C0) (.ref C10) = some false)
    (xs1_10 : PySem.W.subIn K (.ref C1) (.ref C10) = some false)
    (xs2_10 : PySem.W.subIn K (.ref C2) (.ref C10) = some false)
    (eca0 : PySem.W.findIn K (.ref C0) "__getattribute__" = some (some (.builtin "BaseException.__getattribute__")))
    (ecb0 : PySem.W.findIn K (.ref C0) "__getattr__" = some none)
    (ecd0 : PySem.W.hasDictIn K C0 = true)
    (ece0 : PySem.W.findIn K (.ref C0) "__class__" = some (some (.builtin "object.__class__")))
    (ech0 : PySem.W.mroIn K C0 (.type "object") = some true)
    (ne0_4 : C0 ≠ C4)
    (ne0_5 : C0 ≠ C5)
    (ne0_6 : C0 ≠ C6)
    (ne0_7 : C0 ≠ C7)
    (ne0_8 : C0 ≠ C8)
    (ne0_1 : C0 ≠ C1)
    (ne0_9 : C0 ≠ C9)
    (ne0_2 : C0 ≠ C2)
    (ne0_10 : C0 ≠ C10)
    (kv0 : PySem.W.subIn K (.ref C0) (.type "ValueError") = some true)
    (eca1 : PySem.W.findIn K (.ref C1) "__getattribute__" = some (some (.builtin "BaseException.__getattribute__")))
    (ecb1 : PySem.W.findIn K (.ref C1) "__getattr__" = some none)
    (ecd1 : PySem.W.hasDictIn K C1 = true)
    (ece1 : PySem.W.findIn K (.ref C1) "__class__" = some (some (.builtin "object.__class__")))
    (ech1 : PySem.W.mroIn K C1 (.type "object") = some true)
    (ne1_4 : C1 ≠ C4)
    (ne1_5 : C1 ≠ C5)
    (ne1_6 : C1 ≠ C6)
    (ne1_7 : C1 ≠ C7)
    (ne1_8 : C1 ≠ C8)
    (ne1_9 : C1 ≠ C9)
    (ne1_0 : C1 ≠ C0)
    (ne1_2 : C1 ≠ C2)
    (ne1_10 : C1 ≠ C10)
    (kv1 : PySem.W.subIn K (.ref C1) (.type "ValueError") = some true)
    (eca2 : PySem.W.findIn K (.ref C2) "__getattribute__" = some (some (.builtin "BaseException.__getattribute__")))
    (ecb2 : PySem.W.findIn K (.ref C2) "__getattr__" = some none)
    (ecd2 : PySem.W.hasDictIn K C2 = true)
    (ece2 : PySem.W.findIn K (.ref C2) "__class__" = some (some (.builtin "object.__class__")))
    (ech2 : PySem.W.mroIn K C2 (.type "object") = some true)
    (ne2_4 : C2 ≠ C4)
    (ne2_5 : C2 ≠ C5)
    (ne2_6 : C2 ≠ C6)
    (ne2_7 : C2 ≠ C7)
    (ne2_8 : C2 ≠ C8)
    (ne2_1 : C2 ≠ C1)
    (ne2_9 : C2 ≠ C9)
    (ne2_0 : C2 ≠ C0)
    (ne2_10 : C2 ≠ C10)
    (kv2 : PySem.W.subIn K (.ref C2) (.type "ValueError") = some true)
    (ecf : PySem.W.specialIn K (.builtin "object.__class__") "__get__" = some (some (.builtin "getset_descriptor.__get__")))
    (ecg : PySem.W.takesIn K (.builtin "object.__class__") = some true) :
    ∃ fd : FuncData, (∀ (s : Shared) (v : Value), BindsTo s fd ⟨[v], []⟩ [("_law_script", v)]) ∧ ∀ base : Heap, K.In base → base.Ns mainGlobals mg → FnOk l.prog w K mg base (L2N.CX l.prog w) 6 fa fd ["_law_script"] (spLaw K) := by
  have e := hfa.symm.trans (PySem.W.mg_of X G a20)
  cases e
  have k_MOST_ENDS : ∃ t, mg "MOST_ENDS" = some (.int 40 t) := ⟨t_MOST_ENDS, PySem.W.mg_of X G k_MOST_ENDS⟩
  have z_isinstance := PySem.W.mg_none_of X G z_isinstance
  have z_bool := PySem.W.mg_none_of X G z_bool
  have z_int := PySem.W.mg_none_of X G z_int
  have z_len := PySem.W.mg_none_of X G z_len
  have z_str := PySem.W.mg_none_of X G z_str
  have z_sorted := PySem.W.mg_none_of X G z_sorted
  have z_range := PySem.W.mg_none_of X G z_range
  have z_tuple := PySem.W.mg_none_of X G z_tuple
  have z_list := PySem.W.mg_none_of X G z_list
  have z_ValueError := PySem.W.mg_none_of X G z_ValueError
  have h_NoBow : HExc K mg "NoBow" [("NoWord", false), ("NoBow", true), ("Crossed", false)] := ⟨C1, PySem.W.mg_of X G xa1, fun p hp C1 h1 => by
    simp only [List.mem_cons, List.not_mem_nil, or_false] at hp
    rcases hp with rfl | rfl | rfl
    · cases (Option.some.inj (h1.symm.trans (PySem.W.mg_of X G xa0))); exact exm_sub xb1 xi1 xt1 xs0_1
    · cases (Option.some.inj (h1.symm.trans (PySem.W.mg_of X G xa1))); exact exm_sub xb1 xi1 xt1 xs1_1
    · cases (Option.some.inj (h1.symm.trans (PySem.W.mg_of X G xa2))); exact exm_sub xb1 xi1 xt1 xs2_1⟩
  have h_NoWord : HExc K mg "NoWord" [("NoWord", true), ("NoBow", false), ("Crossed", false)] := ⟨C0, PySem.W.mg_of X G xa0, fun p hp C1 h1 => by
    simp only [List.mem_cons, List.not_mem_nil, or_false] at hp
    rcases hp with rfl | rfl | rfl
    · cases (Option.some.inj (h1.symm.trans (PySem.W.mg_of X G xa0))); exact exm_sub xb0 xi0 xt0 xs0_0
    · cases (Option.some.inj (h1.symm.trans (PySem.W.mg_of X G xa1))); exact exm_sub xb0 xi0 xt0 xs1_0
    · cases (Option.some.inj (h1.symm.trans (PySem.W.mg_of X G xa2))); exact exm_sub xb0 xi0 xt0 xs2_0⟩
  have h_Crossed : HExc K mg "Crossed" [("NoWord", false), ("NoBow", false), ("Crossed", true)] := ⟨C2, PySem.W.mg_of X G xa2, fun p hp C1 h1 => by
    simp only [List.mem_cons, List.not_mem_nil, or_false] at hp
    rcases hp with rfl | rfl | rfl
    · cases (Option.some.inj (h1.symm.trans (PySem.W.mg_of X G xa0))); exact exm_sub xb2 xi2 xt2 xs0_2
    · cases (Option.some.inj (h1.symm.trans (PySem.W.mg_of X G xa1))); exact exm_sub xb2 xi2 xt2 xs1_2
    · cases (Option.some.inj (h1.symm.trans (PySem.W.mg_of X G xa2))); exact exm_sub xb2 xi2 xt2 xs2_2⟩
  have h_RingError : HExc K mg "RingError" [("NoWord", true), ("NoBow", true), ("Crossed", true)] := ⟨C3, PySem.W.mg_of X G xa3, fun p hp C1 h1 => by
    simp only [List.mem_cons, List.not_mem_nil, or_false] at hp
    rcases hp with rfl | rfl | rfl
    · cases (Option.some.inj (h1.symm.trans (PySem.W.mg_of X G xa0))); exact exm_sub xb3 xi3 xt3 xs0_3
    · cases (Option.some.inj (h1.symm.trans (PySem.W.mg_of X G xa1))); exact exm_sub xb3 xi3 xt3 xs1_3
    · cases (Option.some.inj (h1.symm.trans (PySem.W.mg_of X G xa2))); exact exm_sub xb3 xi3 xt3 xs2_3⟩
  have fl_bows : FldC K mg ["Crossed"] "bows" := ⟨fun c hc C1 h1 => by
    simp only [List.mem_cons, List.not_mem_nil, or_false] at hc
    rcases hc with rfl
    · cases (Option.some.inj (h1.symm.trans (PySem.W.mg_of X G xa2))); exact ⟨⟨eca2, ecb2, xb2, ecd2⟩, en0⟩⟩
  have qec0 : ExcC K C0 := ⟨eca0, ecb0, xb0, ecd0, ece0, ecf, ecg, ech0⟩
  have qec1 : ExcC K C1 := ⟨eca1, ecb1, xb1, ecd1, ece1, ecf, ecg, ech1⟩
  have qec2 : ExcC K C2 := ⟨eca2, ecb2, xb2, ecd2, ece2, ecf, ecg, ech2⟩
  have i_NoRow : IsN K mg "NoRow" [("NoWord", false), ("NoBow", false), ("Crossed", false)] := ⟨C4, PySem.W.mg_of X G xa4, ⟨fun p hp C1 h1 => by
    simp only [List.mem_cons, List.not_mem_nil, or_false] at hp
    rcases hp with rfl | rfl | rfl
    · cases (Option.some.inj (h1.symm.trans (PySem.W.mg_of X G xa0))); exact ⟨qec0, kit_ref ne0_4 xi4 xt4 xs0_4⟩
    · cases (Option.some.inj (h1.symm.trans (PySem.W.mg_of X G xa1))); exact ⟨qec1, kit_ref ne1_4 xi4 xt4 xs1_4⟩
    · cases (Option.some.inj (h1.symm.trans (PySem.W.mg_of X G xa2))); exact ⟨qec2, kit_ref ne2_4 xi4 xt4 xs2_4⟩⟩⟩
  have i_NoName : IsN K mg "NoName" [("NoWord", false), ("NoBow", false), ("Crossed", false)] := ⟨C5, PySem.W.mg_of X G xa5, ⟨fun p hp C1 h1 => by
    simp only [List.mem_cons, List.not_mem_nil, or_false] at hp
    rcases hp with rfl | rfl | rfl
    · cases (Option.some.inj (h1.symm.trans (PySem.W.mg_of X G xa0))); exact ⟨qec0, kit_ref ne0_5 xi5 xt5 xs0_5⟩
    · cases (Option.some.inj (h1.symm.trans (PySem.W.mg_of X G xa1))); exact ⟨qec1, kit_ref ne1_5 xi5 xt5 xs1_5⟩
    · cases (Option.some.inj (h1.symm.trans (PySem.W.mg_of X G xa2))); exact ⟨qec2, kit_ref ne2_5 xi5 xt5 xs2_5⟩⟩⟩
  have i_NoNumber : IsN K mg "NoNumber" [("NoWord", false), ("NoBow", false), ("Crossed", false)] := ⟨C6, PySem.W.mg_of X G xa6, ⟨fun p hp C1 h1 => by
    simp only [List.mem_cons, List.not_mem_nil, or_false] at hp
    rcases hp with rfl | rfl | rfl
    · cases (Option.some.inj (h1.symm.trans (PySem.W.mg_of X G xa0))); exact ⟨qec0, kit_ref ne0_6 xi6 xt6 xs0_6⟩
    · cases (Option.some.inj (h1.symm.trans (PySem.W.mg_of X G xa1))); exact ⟨qec1, kit_ref ne1_6 xi6 xt6 xs1_6⟩
    · cases (Option.some.inj (h1.symm.trans (PySem.W.mg_of X G xa2))); exact ⟨qec2, kit_ref ne2_6 xi6 xt6 xs2_6⟩⟩⟩
  have i_NoCode : IsN K mg "NoCode" [("NoWord", false), ("NoBow", false), ("Crossed", false)] := ⟨C7, PySem.W.mg_of X G xa7, ⟨fun p hp C1 h1 => by
    simp only [List.mem_cons, List.not_mem_nil, or_false] at hp
    rcases hp with rfl | rfl | rfl
    · cases (Option.some.inj (h1.symm.trans (PySem.W.mg_of X G xa0))); exact ⟨qec0, kit_ref ne0_7 xi7 xt7 xs0_7⟩
    · cases (Option.some.inj (h1.symm.trans (PySem.W.mg_of X G xa1))); exact ⟨qec1, kit_ref ne1_7 xi7 xt7 xs1_7⟩
    · cases (Option.some.inj (h1.symm.trans (PySem.W.mg_of X G xa2))); exact ⟨qec2, kit_ref ne2_7 xi7 xt7 xs2_7⟩⟩⟩
  have i_NoRound : IsN K mg "NoRound" [("NoWord", false), ("NoBow", false), ("Crossed", false)] := ⟨C8, PySem.W.mg_of X G xa8, ⟨fun p hp C1 h1 => by
    simp only [List.mem_cons, List.not_mem_nil, or_false] at hp
    rcases hp with rfl | rfl | rfl
    · cases (Option.some.inj (h1.symm.trans (PySem.W.mg_of X G xa0))); exact ⟨qec0, kit_ref ne0_8 xi8 xt8 xs0_8⟩
    · cases (Option.some.inj (h1.symm.trans (PySem.W.mg_of X G xa1))); exact ⟨qec1, kit_ref ne1_8 xi8 xt8 xs1_8⟩
    · cases (Option.some.inj (h1.symm.trans (PySem.W.mg_of X G xa2))); exact ⟨qec2, kit_ref ne2_8 xi8 xt8 xs2_8⟩⟩⟩
  have i_NoBow : IsN K mg "NoBow" [("NoWord", false), ("NoBow", true), ("Crossed", false)] := ⟨C1, PySem.W.mg_of X G xa1, ⟨fun p hp C1 h1 => by
    simp only [List.mem_cons, List.not_mem_nil, or_false] at hp
    rcases hp with rfl | rfl | rfl
    · cases (Option.some.inj (h1.symm.trans (PySem.W.mg_of X G xa0))); exact ⟨qec0, kit_ref ne0_1 xi1 xt1 xs0_1⟩
    · cases (Option.some.inj (h1.symm.trans (PySem.W.mg_of X G xa1))); exact ⟨qec1, kit_self⟩
    · cases (Option.some.inj (h1.symm.trans (PySem.W.mg_of X G xa2))); exact ⟨qec2, kit_ref ne2_1 xi1 xt1 xs2_1⟩⟩⟩
  have i_NoDrawing : IsN K mg "NoDrawing" [("NoWord", false), ("NoBow", false), ("Crossed", false)] := ⟨C9, PySem.W.mg_of X G xa9, ⟨fun p hp C1 h1 => by
    simp only [List.mem_cons, List.not_mem_nil, or_false] at hp
    rcases hp with rfl | rfl | rfl
    · cases (Option.some.inj (h1.symm.trans (PySem.W.mg_of X G xa0))); exact ⟨qec0, kit_ref ne0_9 xi9 xt9 xs0_9⟩
    · cases (Option.some.inj (h1.symm.trans (PySem.W.mg_of X G xa1))); exact ⟨qec1, kit_ref ne1_9 xi9 xt9 xs1_9⟩
    · cases (Option.some.inj (h1.symm.trans (PySem.W.mg_of X G xa2))); exact ⟨qec2, kit_ref ne2_9 xi9 xt9 xs2_9⟩⟩⟩
  have i_NoWord : IsN K mg "NoWord" [("NoWord", true), ("NoBow", false), ("Crossed", false)] := ⟨C0, PySem.W.mg_of X G xa0, ⟨fun p hp C1 h1 => by
    simp only [List.mem_cons, List.not_mem_nil, or_false] at hp
    rcases hp with rfl | rfl | rfl
    · cases (Option.some.inj (h1.symm.trans (PySem.W.mg_of X G xa0))); exact ⟨qec0, kit_self⟩
    · cases (Option.some.inj (h1.symm.trans (PySem.W.mg_of X G xa1))); exact ⟨qec1, kit_ref ne1_0 xi0 xt0 xs1_0⟩
    · cases (Option.some.inj (h1.symm.trans (PySem.W.mg_of X G xa2))); exact ⟨qec2, kit_ref ne2_0 xi0 xt0 xs2_0⟩⟩⟩
  have i_Crossed : IsN K mg "Crossed" [("NoWord", false), ("NoBow", false), ("Crossed", true)] := ⟨C2, PySem.W.mg_of X G xa2, ⟨fun p hp C1 h1 => by
    simp only [List.mem_cons, List.not_mem_nil, or_false] at hp
    rcases hp with rfl | rfl | rfl
    · cases (Option.some.inj (h1.symm.trans (PySem.W.mg_of X G xa0))); exact ⟨qec0, kit_ref ne0_2 xi2 xt2 xs0_2⟩
    · cases (Option.some.inj (h1.symm.trans (PySem.W.mg_of X G xa1))); exact ⟨qec1, kit_ref ne1_2 xi2 xt2 xs1_2⟩
    · cases (Option.some.inj (h1.symm.trans (PySem.W.mg_of X G xa2))); exact ⟨qec2, kit_self⟩⟩⟩
  have i_NoMaze : IsN K mg "NoMaze" [("NoWord", false), ("NoBow", false), ("Crossed", false)] := ⟨C10, PySem.W.mg_of X G xa10, ⟨fun p hp C1 h1 => by
    simp only [List.mem_cons, List.not_mem_nil, or_false] at hp
    rcases hp with rfl | rfl | rfl
    · cases (Option.some.inj (h1.symm.trans (PySem.W.mg_of X G xa0))); exact ⟨qec0, kit_ref ne0_10 xi10 xt10 xs0_10⟩
    · cases (Option.some.inj (h1.symm.trans (PySem.W.mg_of X G xa1))); exact ⟨qec1, kit_ref ne1_10 xi10 xt10 xs1_10⟩
    · cases (Option.some.inj (h1.symm.trans (PySem.W.mg_of X G xa2))); exact ⟨qec2, kit_ref ne2_10 xi10 xt10 xs2_10⟩⟩⟩
  have iv : IsX K mg (.type "ValueError") [("NoWord", true), ("NoBow", true), ("Crossed", true)] := ⟨fun p hp C1 h1 => by
    simp only [List.mem_cons, List.not_mem_nil, or_false] at hp
    rcases hp with rfl | rfl | rfl
    · cases (Option.some.inj (h1.symm.trans (PySem.W.mg_of X G xa0))); exact ⟨qec0, kit_type (by decide +kernel) kv0⟩
    · cases (Option.some.inj (h1.symm.trans (PySem.W.mg_of X G xa1))); exact ⟨qec1, kit_type (by decide +kernel) kv1⟩
    · cases (Option.some.inj (h1.symm.trans (PySem.W.mg_of X G xa2))); exact ⟨qec2, kit_type (by decide +kernel) kv2⟩⟩
  have x_NoWord : ExcOk K mg "NoWord" := ⟨C0, PySem.W.mg_of X G xa0, xe0, xk0, xb0, xt0⟩
  have x_NoBow : ExcOk K mg "NoBow" := ⟨C1, PySem.W.mg_of X G xa1, xe1, xk1, xb1, xt1⟩
  refine ⟨PySem.W.fnOf "law" "law" (defArgs s_law) (defBody s_law) (defScope s_law) .none kV20 dc20 pm20 an20 cd20 ct20, fun s v => .of_eq rfl, fun base _ _ => ?_⟩
  have G0 := fun_mk (st := s_Crossed___init__) el0 ec0 ek0
  have T0 : OexC K C2 := ⟨⟨_, _, _, _, _, _, _, _, _, _, _, _, _, _, _, ex0, eb0⟩, es0, xb2, xt2, xk2⟩
  have xf_Crossed : ExcFOk l.prog w K mg base "Crossed" "bows" 1 := ⟨C2, g0, _, ["self", "words", "bows"], PySem.W.mg_of X G xa2, T0, ei0, et0, okx_Crossed G0 T0 en0 (PySem.W.mg_of X G xa3) er0 eg0 ev0, G0.binds (ps := ["self", "words", "bows"]) fun _ _ _ _ _ _ us hl => match us, hl with | [_, _, _], _ => rfl⟩
  have F0 := fun_mk (st := s_cross) l0 c0 k0
  have d_cross : DefOk l.prog w K mg base "cross" 1 2 ["one", "other"] m_cross := ⟨f0, _, ok_cross F0 , PySem.W.mg_of X G a0, k0, F0.binds (ps := ["one", "other"]) fun _ _ _ _ _ _ us hl => match us, hl with | [_, _], _ => rfl⟩
  have F1 := fun_mk (st := s_crossing) l1 c1 k1
  have d_crossing : DefOk l.prog w K mg base "crossing" 2 1 ["bows"] m_crossing := ⟨f1, _, ok_crossing F1 d_cross, PySem.W.mg_of X G a1, k1, F1.binds (ps := ["bows"]) fun _ _ _ _ _ _ us hl => match us, hl with | [_], _ => rfl⟩
  have F2 := fun_mk (st := s_is_whole) l2 c2 k2
  have d_is_whole : DefOk l.prog w K mg base "is_whole" 1 1 ["thing"] m_is_whole := ⟨f2, _, ok_is_whole F2 z_isinstance z_bool z_int, PySem.W.mg_of X G a2, k2, F2.binds (ps := ["thing"]) fun _ _ _ _ _ _ us hl => match us, hl with | [_], _ => rfl⟩
  have F3 := fun_mk (st := s_is_word) l3 c3 k3
  have d_is_word : DefOk l.prog w K mg base "is_word" 1 1 ["thing"] m_is_word := ⟨f3, _, ok_is_word F3 z_len z_isinstance z_str k_MOST_ENDS, PySem.W.mg_of X G a3, k3, F3.binds (ps := ["thing"]) fun _ _ _ _ _ _ us hl => match us, hl with | [_], _ => rfl⟩
  have F4 := fun_mk (st := s_pairs) l4 c4 k4
  have d_pairs : DefOk l.prog w K mg base "pairs" 2 1 ["word"] m_pairs := ⟨f4, _, ok_pairs F4 d_is_word z_sorted z_len z_range x_NoWord, PySem.W.mg_of X G a4, k4, F4.binds (ps := ["word"]) fun _ _ _ _ _ _ us hl => match us, hl with | [_], _ => rfl⟩
  have F5 := fun_mk (st := s_are_bows) l5 c5 k5
  have d_are_bows : DefOk l.prog w K mg base "are_bows" 2 1 ["bows"] m_are_bows := ⟨f5, _, ok_are_bows F5 d_is_whole z_len z_isinstance z_tuple z_list k_MOST_ENDS, PySem.W.mg_of X G a5, k5, F5.binds (ps := ["bows"]) fun _ _ _ _ _ _ us hl => match us, hl with | [_], _ => rfl⟩
  have F6 := fun_mk (st := s_word_of) l6 c6 k6
  have d_word_of : DefOk l.prog w K mg base "word_of" 3 1 ["bows"] m_word_of := ⟨f6, _, ok_word_of F6 d_pairs d_are_bows z_sorted z_len z_range z_list x_NoWord, PySem.W.mg_of X G a6, k6, F6.binds (ps := ["bows"]) fun _ _ _ _ _ _ us hl => match us, hl with | [_], _ => rfl⟩
  have F7 := fun_mk (st := s_turned_two) l7 c7 k7
  have d_turned_two : DefOk l.prog w K mg base "turned_two" 1 2 ["one", "other"] m_turned_two := ⟨f7, _, ok_turned_two F7 , PySem.W.mg_of X G a7, k7, F7.binds (ps := ["one", "other"]) fun _ _ _ _ _ _ us hl => match us, hl with | [_, _], _ => rfl⟩
  have F8 := fun_mk (st := s_turned) l8 c8 k8
  have d_turned : DefOk l.prog w K mg base "turned" 4 3 ["word", "i", "j"] m_turned := ⟨f8, _, ok_turned F8 d_word_of d_crossing d_turned_two d_is_whole d_pairs z_len z_range x_NoBow xf_Crossed, PySem.W.mg_of X G a8, k8, F8.binds (ps := ["word", "i", "j"]) fun _ _ _ _ _ _ us hl => match us, hl with | [_, _, _], _ => rfl⟩
  have F9 := fun_mk (st := s__law_alone) l9 c9 k9
  have d__law_alone : DefE l.prog w K mg base "_law_alone" 1 1 ["_law_e"] m__law_alone := ⟨f9, _, ok__law_alone F9 z_len z_isinstance z_ValueError i_NoRow i_NoName i_NoNumber i_NoCode i_NoRound i_NoBow i_NoDrawing i_NoWord i_Crossed i_NoMaze iv, PySem.W.mg_of X G a9, k9, F9.binds (ps := ["_law_e"]) fun _ _ _ _ _ _ us hl => match us, hl with | [_], _ => rfl⟩
  have F10 := fun_mk (st := s__law_cell_at) l10 c10 k10
  have d__law_cell_at : DefOk l.prog w K mg base "_law_cell_at" 1 2 ["_law_script", "_law_k"] m__law_cell_at := ⟨f10, _, ok__law_cell_at F10 z_len, PySem.W.mg_of X G a10, k10, F10.binds (ps := ["_law_script", "_law_k"]) fun _ _ _ _ _ _ us hl => match us, hl with | [_, _], _ => rfl⟩
  have F11 := fun_mk (st := s__law_digits) l11 c11 k11
  have d__law_digits : DefOk l.prog w K mg base "_law_digits" 1 2 ["_law_cell", "_law_many"] m__law_digits := ⟨f11, _, ok__law_digits F11 z_range, PySem.W.mg_of X G a11, k11, F11.binds (ps := ["_law_cell", "_law_many"]) fun _ _ _ _ _ _ us hl => match us, hl with | [_, _], _ => rfl⟩
  have F12 := fun_mk (st := s__law_word) l12 c12 k12
  have d__law_word : DefOk l.prog w K mg base "_law_word" 2 2 ["_law_cell", "_law_ends"] m__law_word := ⟨f12, _, ok__law_word F12 d__law_digits z_range, PySem.W.mg_of X G a12, k12, F12.binds (ps := ["_law_cell", "_law_ends"]) fun _ _ _ _ _ _ us hl => match us, hl with | [_, _], _ => rfl⟩
  have F13 := fun_mk (st := s__law_across) l13 c13 k13
  have d__law_across : DefOk l.prog w K mg base "_law_across" 1 1 ["_law_word_here"] m__law_across := ⟨f13, _, ok__law_across F13 z_len z_range, PySem.W.mg_of X G a13, k13, F13.binds (ps := ["_law_word_here"]) fun _ _ _ _ _ _ us hl => match us, hl with | [_], _ => rfl⟩
  have F14 := fun_mk (st := s__law_said) l14 c14 k14
  have d__law_said : DefOk l.prog w K mg base "_law_said" 5 3 ["_law_word_here", "_law_i", "_law_j"] m__law_said := ⟨f14, _, ok__law_said F14 d_turned h_NoBow h_NoWord h_Crossed fl_bows, PySem.W.mg_of X G a14, k14, F14.binds (ps := ["_law_word_here", "_law_i", "_law_j"]) fun _ _ _ _ _ _ us hl => match us, hl with | [_, _, _], _ => rfl⟩
  have F15 := fun_mk (st := s__law_by_any) l15 c15 k15
  have d__law_by_any : DefOk l.prog w K mg base "_law_by_any" 5 3 ["_law_word_here", "_law_i", "_law_j"] m__law_by_any := ⟨f15, _, ok__law_by_any F15 d_turned d__law_alone h_RingError, PySem.W.mg_of X G a15, k15, F15.binds (ps := ["_law_word_here", "_law_i", "_law_j"]) fun _ _ _ _ _ _ us hl => match us, hl with | [_, _, _], _ => rfl⟩
  have F16 := fun_mk (st := s__law_bows_of) l16 c16 k16
  have d__law_bows_of : DefOk l.prog w K mg base "_law_bows_of" 2 1 ["_law_word_here"] m__law_bows_of := ⟨f16, _, ok__law_bows_of F16 d__law_across z_len z_range, PySem.W.mg_of X G a16, k16, F16.binds (ps := ["_law_word_here"]) fun _ _ _ _ _ _ us hl => match us, hl with | [_], _ => rfl⟩
  have F17 := fun_mk (st := s__law_after) l17 c17 k17
  have d__law_after : DefOk l.prog w K mg base "_law_after" 1 3 ["_law_bows", "_law_i", "_law_j"] m__law_after := ⟨f17, _, ok__law_after F17 z_len z_range, PySem.W.mg_of X G a17, k17, F17.binds (ps := ["_law_bows", "_law_i", "_law_j"]) fun _ _ _ _ _ _ us hl => match us, hl with | [_, _, _], _ => rfl⟩
  have F18 := fun_mk (st := s__law_crossing) l18 c18 k18
  have d__law_crossing : DefOk l.prog w K mg base "_law_crossing" 1 1 ["_law_bows"] m__law_crossing := ⟨f18, _, ok__law_crossing F18 , PySem.W.mg_of X G a18, k18, F18.binds (ps := ["_law_bows"]) fun _ _ _ _ _ _ us hl => match us, hl with | [_], _ => rfl⟩
  have F19 := fun_mk (st := s__law_text) l19 c19 k19
  have d__law_text : DefOk l.prog w K mg base "_law_text" 1 2 ["_law_bows", "_law_ends"] m__law_text := ⟨f19, _, ok__law_text F19 z_range, PySem.W.mg_of X G a19, k19, F19.binds (ps := ["_law_bows", "_law_ends"]) fun _ _ _ _ _ _ us hl => match us, hl with | [_, _], _ => rfl⟩
  have F20 := fun_mk (st := s_law) l20 c20 k20
  exact FnOk.imp (ok_law (P := l.prog) (w := w) (base := base) F20 d__law_by_any d__law_crossing d__law_text d__law_said d__law_after d__law_cell_at d__law_bows_of d__law_word z_len) law_promise
end Rg
open PySem PySem.W PyProof.Rows
theorem PySem.Challenge.cw_ringmaze_k23_turned_holds : PySem.Challenge.rw_ringmaze_k23_turned.Holds := by
  w_on; o_law; k_head; (case hw => w_witness2)
  k_fill
  refine L2.walk_of (l := PySem.Challenge.rw_ringmaze_k23_turned) (n := 63) (k := 6) (x := "_law_script") (CX := fun w => L2N.CX PySem.Challenge.rw_ringmaze_k23_turned.prog w) (sp := fun w => Rg.spLaw _) rfl (by decide) rfl ⟨rfl, by decide, by decide⟩ (fun w h Y => PySem.W.kIn_of Y) ?F (fun _ _ a ns hl _ hS => ⟨a, ns, rfl, hS, hl, fun _ => rfl⟩) (fun _ _ _ _ _ h => Rg.cx_none h)
  case F =>
    intro w mg fa h KX G hmg
    refine' Rg.all_mk KX G hmg ?a0 ?l0 ?c0 ?k0 ?a1 ?l1 ?c1 ?k1 ?a2 ?l2 ?c2 ?k2 ?a3 ?l3 ?c3 ?k3 ?a4 ?l4 ?c4 ?k4 ?a5 ?l5 ?c5 ?k5 ?a6 ?l6 ?c6 ?k6 ?a7 ?l7 ?c7 ?k7 ?a8 ?l8 ?c8 ?k8 ?a9 ?l9 ?c9 ?k9 ?a10 ?l10 ?c10 ?k10 ?a11 ?l11 ?c11 ?k11 ?a12 ?l12 ?c12 ?k12 ?a13 ?l13 ?c13 ?k13 ?a14 ?l14 ?c14 ?k14 ?a15 ?l15 ?c15 ?k15 ?a16 ?l16 ?c16 ?k16 ?a17 ?l17 ?c17 ?k17 ?a18 ?l18 ?c18 ?k18 ?a19 ?l19 ?c19 ?k19 ?a20 ?l20 ?c20 ?k20 ?z_isinstance ?z_bool ?z_int ?z_len ?z_str ?z_sorted ?z_range ?z_tuple ?z_list ?z_ValueError ?k_MOST_ENDS ?xa0 ?xe0 ?xk0 ?xb0 ?xt0 ?xa1 ?xe1 ?xk1 ?xb1 ?xt1 ?xa2 ?xk2 ?xb2 ?xt2 ?xa3 ?xb3 ?xt3 ?xa4 ?xb4 ?xt4 ?xa5 ?xb5 ?xt5 ?xa6 ?xb6 ?xt6 ?xa7 ?xb7 ?xt7 ?xa8 ?xb8 ?xt8 ?xa9 ?xb9 ?xt9 ?xa10 ?xb10 ?xt10 ?ex0 ?eb0 ?es0 ?ei0 ?et0 ?el0 ?ec0 ?ek0 ?en0 ?er0 ?eg0 ?ev0 ?xi1 ?xs0_1 ?xs1_1 ?xs2_1 ?xi0 ?xs0_0 ?xs1_0 ?xs2_0 ?xi2 ?xs0_2 ?xs1_2 ?xs2_2 ?xi3 ?xs0_3 ?xs1_3 ?xs2_3 ?xi4 ?xs0_4 ?xs1_4 ?xs2_4 ?xi5 ?xs0_5 ?xs1_5 ?xs2_5 ?xi6 ?xs0_6 ?xs1_6 ?xs2_6 ?xi7 ?xs0_7 ?xs1_7 ?xs2_7 ?xi8 ?xs0_8 ?xs1_8 ?xs2_8 ?xi9 ?xs0_9 ?xs1_9 ?xs2_9 ?xi10 ?xs0_10 ?xs1_10 ?xs2_10 ?eca0 ?ecb0 ?ecd0 ?ece0 ?ech0 ?ne0_4 ?ne0_5 ?ne0_6 ?ne0_7 ?ne0_8 ?ne0_1 ?ne0_9 ?ne0_2 ?ne0_10 ?kv0 ?eca1 ?ecb1 ?ecd1 ?ece1 ?ech1 ?ne1_4 ?ne1_5 ?ne1_6 ?ne1_7 ?ne1_8 ?ne1_9 ?ne1_0 ?ne1_2 ?ne1_10 ?kv1 ?eca2 ?ecb2 ?ecd2 ?ece2 ?ech2 ?ne2_4 ?ne2_5 ?ne2_6 ?ne2_7 ?ne2_8 ?ne2_1 ?ne2_9 ?ne2_0 ?ne2_10 ?kv2 ?ecf ?ecg
    (case a0 => k_is)
    (case l0 => k_is)
    (case c0 => k_is)
    (case k0 => k_is)
    (case a1 => k_is)
    (case l1 => k_is)
    (case c1 => k_is)
    (case k1 => k_is)
    (case a2 => k_is)
    (case l2 => k_is)
    (case c2 => k_is)
    (case k2 => k_is)
    (case a3 => k_is)
    (case l3 => k_is)
    (case c3 => k_is)
    (case k3 => k_is)
    (case a4 => k_is)
    (case l4 => k_is)
    (case c4 => k_is)
    (case k4 => k_is)
    (case a5 => k_is)
    (case l5 => k_is)
    (case c5 => k_is)
    (case k5 => k_is)
    (case a6 => k_is)
    (case l6 => k_is)
    (case c6 => k_is)
    (case k6 => k_is)
    (case a7 => k_is)
    (case l7 => k_is)
    (case c7 => k_is)
    (case k7 => k_is)
    (case a8 => k_is)
    (case l8 => k_is)
    (case c8 => k_is)
    (case k8 => k_is)
    (case a9 => k_is)
    (case l9 => k_is)
    (case c9 => k_is)
    (case k9 => k_is)
    (case a10 => k_is)
    (case l10 => k_is)
    (case c10 => k_is)
    (case k10 => k_is)
    (case a11 => k_is)
    (case l11 => k_is)
    (case c11 => k_is)
    (case k11 => k_is)
    (case a12 => k_is)
    (case l12 => k_is)
    (case c12 => k_is)
    (case k12 => k_is)
    (case a13 => k_is)
    (case l13 => k_is)
    (case c13 => k_is)
    (case k13 => k_is)
    (case a14 => k_is)
    (case l14 => k_is)
    (case c14 => k_is)
    (case k14 => k_is)
    (case a15 => k_is)
    (case l15 => k_is)
    (case c15 => k_is)
    (case k15 => k_is)
    (case a16 => k_is)
    (case l16 => k_is)
    (case c16 => k_is)
    (case k16 => k_is)
    (case a17 => k_is)
    (case l17 => k_is)
    (case c17 => k_is)
    (case k17 => k_is)
    (case a18 => k_is)
    (case l18 => k_is)
    (case c18 => k_is)
    (case k18 => k_is)
    (case a19 => k_is)
    (case l19 => k_is)
    (case c19 => k_is)
    (case k19 => k_is)
    (case a20 => k_is)
    (case l20 => k_is)
    (case c20 => k_is)
    (case k20 => k_is)
    (case z_isinstance => k_is)
    (case z_bool => k_is)
    (case z_int => k_is)
    (case z_len => k_is)
    (case z_str => k_is)
    (case z_sorted => k_is)
    (case z_range => k_is)
    (case z_tuple => k_is)
    (case z_list => k_is)
    (case z_ValueError => k_is)
    (case k_MOST_ENDS => k_is)
    (case xa0 => k_is)
    (case xe0 => k_exc)
    (case xk0 => k_is)
    (case xb0 => k_is)
    (case xt0 => k_is)
    (case xa1 => k_is)
    (case xe1 => k_exc)
    (case xk1 => k_is)
    (case xb1 => k_is)
    (case xt1 => k_is)
    (case xa2 => k_is)
    (case xk2 => k_is)
    (case xb2 => k_is)
    (case xt2 => k_is)
    (case xa3 => k_is)
    (case xb3 => k_is)
    (case xt3 => k_is)
    (case xa4 => k_is)
    (case xb4 => k_is)
    (case xt4 => k_is)
    (case xa5 => k_is)
    (case xb5 => k_is)
    (case xt5 => k_is)
    (case xa6 => k_is)
    (case xb6 => k_is)
    (case xt6 => k_is)
    (case xa7 => k_is)
    (case xb7 => k_is)
    (case xt7 => k_is)
    (case xa8 => k_is)
    (case xb8 => k_is)
    (case xt8 => k_is)
    (case xa9 => k_is)
    (case xb9 => k_is)
    (case xt9 => k_is)
    (case xa10 => k_is)
    (case xb10 => k_is)
    (case xt10 => k_is)
    (case ex0 => k_is)
    (case eb0 => decide +kernel)
    (case es0 => k_is)
    (case ei0 => k_is)
    (case et0 => k_is)
    (case el0 => k_is)
    (case ec0 => k_is)
    (case ek0 => k_is)
    (case en0 => k_is)
    (case er0 => k_is)
    (case eg0 => k_is)
    (case ev0 => k_is)
    (case xi1 => k_is)
    (case xs0_1 => k_is)
    (case xs1_1 => k_is)
    (case xs2_1 => k_is)
    (case xi0 => k_is)
    (case xs0_0 => k_is)
    (case xs1_0 => k_is)
    (case xs2_0 => k_is)
    (case xi2 => k_is)
    (case xs0_2 => k_is)
    (case xs1_2 => k_is)
    (case xs2_2 => k_is)
    (case xi3 => k_is)
    (case xs0_3 => k_is)
    (case xs1_3 => k_is)
    (case xs2_3 => k_is)
    (case xi4 => k_is)
    (case xs0_4 => k_is)
    (case xs1_4 => k_is)
    (case xs2_4 => k_is)
    (case xi5 => k_is)
    (case xs0_5 => k_is)
    (case xs1_5 => k_is)
    (case xs2_5 => k_is)
    (case xi6 => k_is)
    (case xs0_6 => k_is)
    (case xs1_6 => k_is)
    (case xs2_6 => k_is)
    (case xi7 => k_is)
    (case xs0_7 => k_is)
    (case xs1_7 => k_is)
    (case xs2_7 => k_is)
    (case xi8 => k_is)
    (case xs0_8 => k_is)
    (case xs1_8 => k_is)
    (case xs2_8 => k_is)
    (case xi9 => k_is)
    (case xs0_9 => k_is)
    (case xs1_9 => k_is)
    (case xs2_9 => k_is)
    (case xi10 => k_is)
    (case xs0_10 => k_is)
    (case xs1_10 => k_is)
    (case xs2_10 => k_is)
    (case eca0 => k_is)
    (case ecb0 => k_is)
    (case ecd0 => k_is)
    (case ece0 => k_is)
    (case ech0 => k_is)
    (case ne0_4 => decide)
    (case ne0_5 => decide)
    (case ne0_6 => decide)
    (case ne0_7 => decide)
    (case ne0_8 => decide)
    (case ne0_1 => decide)
    (case ne0_9 => decide)
    (case ne0_2 => decide)
    (case ne0_10 => decide)
    (case kv0 => k_is)
    (case eca1 => k_is)
    (case ecb1 => k_is)
    (case ecd1 => k_is)
    (case ece1 => k_is)
    (case ech1 => k_is)
    (case ne1_4 => decide)
    (case ne1_5 => decide)
    (case ne1_6 => decide)
    (case ne1_7 => decide)
    (case ne1_8 => decide)
    (case ne1_9 => decide)
    (case ne1_0 => decide)
    (case ne1_2 => decide)
    (case ne1_10 => decide)
    (case kv1 => k_is)
    (case eca2 => k_is)
    (case ecb2 => k_is)
    (case ecd2 => k_is)
    (case ece2 => k_is)
    (case ech2 => k_is)
    (case ne2_4 => decide)
    (case ne2_5 => decide)
    (case ne2_6 => decide)
    (case ne2_7 => decide)
    (case ne2_8 => decide)
    (case ne2_1 => decide)
    (case ne2_9 => decide)
    (case ne2_0 => decide)
    (case ne2_10 => decide)
    (case kv2 => k_is)
    (case ecf => k_is)
    (case ecg => k_is)
