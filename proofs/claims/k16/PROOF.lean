import PyProof.Rows.All
import HandS.ForMost
import HandS.ForExc
import KE.SortData
import KE.DataIsa
import KE.DataMinMax
import KE.DataFind
import KE.DataAny
import KE.DataCmp
import KE.DataEq
import KE.DatumIndex
import KE.KDictKeyed
import HandS.TupAny
import HandS.TupMul
import HandS.StrMore
import HandS.Strs
import HandS.SuiteRaise
import PyProof.TupleOfSeq
import PyProof.ListStr
import HandS.Set
import HandS.SetFor
import PyProof.Rows.SetFrom
import PySem.Challenge.RW_slitview_k16_whole_exchanged
set_option Elab.async false
set_option linter.all false
set_option maxRecDepth 100000
set_option autoImplicit false
/-! SvA: pure data, the small code language, its evaluator. -/
namespace SV
open PySem

/-! ### data -/
inductive D where
  | non
  | bl (b : Bool)
  | int (i : Int)
  | str (s : Str)
  | tup (l : List D)
  | lst (l : List D)
  | scr (l : List Int)
  | loc (n : Nat)
  | fn (g : Str)

inductive Cell where
  | lst (l : List D)
  | dct (l : List (D × D))
  | obj (c : Nat) (l : List (Str × D))
  | dead
abbrev Store := List Cell
abbrev Env := List (Option D)

mutual
def D.py : D → PyData
  | .non => .none
  | .bl b => .bool b
  | .int i => .int i
  | .str s => .str s
  | .tup l => .tuple (D.pys l)
  | .lst l => .list (D.pys l)
  | .scr l => .list (l.map .int)
  | .loc _ => .none
  | .fn _ => .none
def D.pys : List D → List PyData
  | [] => []
  | d :: l => D.py d :: D.pys l
end
mutual
/-- no cell, no def within -/
def D.pure : D → Bool
  | .tup l => D.pures l
  | .lst l => D.pures l
  | .scr _ => false
  | .loc _ => false
  | .fn _ => false
  | _ => true
def D.pures : List D → Bool
  | [] => true
  | d :: l => D.pure d && D.pures l
end
mutual
/-- all cells within are below n -/
def D.lo (n : Nat) : D → Bool
  | .tup l => D.los n l
  | .lst l => D.los n l
  | .loc m => decide (m < n)
  | _ => true
def D.los (n : Nat) : List D → Bool
  | [] => true
  | d :: l => D.lo n d && D.los n l
end
def Cell.lo (n : Nat) : Cell → Bool
  | .lst l => D.los n l
  | .dct l => l.all fun p => D.lo n p.1 && D.lo n p.2
  | .obj _ l => l.all fun p => D.lo n p.2
  | .dead => true

/-! ### results -/
inductive R (α : Type) where
  | ok (a : α) (S : Store)
  | exc (c : Nat) (S : Store)
  | bad
def R.bind {α β : Type} (r : R α) (f : α → Store → R β) : R β := match r with
  | .ok a S => f a S
  | .exc c S => .exc c S
  | .bad => .bad
/-- no error within -/
def R.nox {α : Type} (r : R α) : R α := match r with
  | .exc _ _ => .bad
  | r => r
@[simp] theorem R.nox_ok {α : Type} (a : α) (S : Store) : (R.ok a S).nox = .ok a S := rfl
@[simp] theorem R.nox_bad {α : Type} : (R.bad : R α).nox = .bad := rfl
@[simp] theorem R.bind_ok {α β : Type} (a : α) (S : Store) (f : α → Store → R β) : (R.ok a S).bind f = f a S := rfl
@[simp] theorem R.bind_exc {α β : Type} (c : Nat) (S : Store) (f : α → Store → R β) : (R.exc c S : R α).bind f = .exc c S := rfl
@[simp] theorem R.bind_bad {α β : Type} (f : α → Store → R β) : (R.bad : R α).bind f = .bad := rfl

/-! ### operators by values -/
inductive Op2 where
  | add | sub | mul | mod | pow
  deriving DecidableEq

/-- below the model's longest line -/
def okLen (n : Nat) : Bool := decide (n ≤ 16000000)

def Op2.app : Op2 → D → D → Store → R D
  | .add, .int i, .int j, S => .ok (.int (i + j)) S
  | .add, .str s, .str t, S => if okLen (s.length + t.length) then .ok (.str (s ++ t)) S else .bad
  | .add, .lst l, .lst m, S => if okLen (l.length + m.length) then .ok (.lst (l ++ m)) S else .bad
  | .add, .tup l, .tup m, S => if okLen (l.length + m.length) then .ok (.tup (l ++ m)) S else .bad
  | .sub, .int i, .int j, S => .ok (.int (i - j)) S
  | .mul, .int i, .int j, S => if (decide (-(2 ^ 64) < i ∧ i < 2 ^ 64) || decide (-(2 ^ 64) < j ∧ j < 2 ^ 64)) = true then .ok (.int (i * j)) S else .bad
  | .mul, .str s, .int j, S => if 0 ≤ j ∧ j ≤ 1000 ∧ s.length ≤ 1000 then .ok (.str (Txt.mul s j)) S else .bad
  | .mod, .int i, .int j, S => if j = 0 then .bad else .ok (.int (i.fmod j)) S
  | .pow, .int i, .int j, S => if 0 ≤ j ∧ j ≤ 1000000 ∧ i.natAbs < 2 ^ 64 then .ok (.int (i ^ j.toNat)) S else .bad
  | _, _, _, _ => .bad

/-- what may be read as a sequence of data: a tuple, a list, a list in a cell -/
def D.items (d : D) (S : Store) : Option (List D) := match d with
  | .tup l => some l
  | .lst l => some l
  | .scr l => some (l.map .int)
  | .loc n => match S[n]? with
    | some (.lst l) => some l
    | _ => none
  | _ => none
/-- read through a cell: the pure data that it holds -/
def D.rd (d : D) (S : Store) : D := match d with
  | .scr l => .lst (l.map .int)
  | .loc n => match S[n]? with
    | some (.lst l) => .lst l
    | _ => d
  | _ => d

inductive Cm where
  | eq | ne | lt | le | gt | ge | isin | notin | is | isnot
  deriving DecidableEq

def isNon : D → Bool
  | .non => true
  | _ => false

/-- == of data (a list in a cell is read) -/
def eqD (x y : D) (S : Store) : Option Bool :=
  let x := x.rd S
  let y := y.rd S
  if (x.pure && y.pure && decide ((PyData.depth x.py) ≤ 30) && decide ((PyData.depth y.py) ≤ 30)) = true then some (PyData.eqv x.py y.py) else none
/-- the order of alike data -/
def ltD (x y : D) : Option Bool :=
  if (x.pure && y.pure && PySem.W.alike x.py y.py && decide ((PyData.depth x.py) ≤ 30) && !isNon x) = true then some (PySem.W.dataLt x.py y.py) else none

def inD (x y : D) (S : Store) : Option Bool :=
  match y.items S with
  | some l => if (x.pure && D.pures l && decide ((PyData.depth x.py) ≤ 30) && decide (PyData.depthAll (D.pys l) ≤ 30)) = true then some ((D.pys l).any fun d => PyData.eqv d x.py) else none
  | none => match x, y with
    | .str s, .str t => some (!(Builtin.Str.occurrences t s 0 t.length 1).isEmpty)
    | _, _ => none

def Cm.app : Cm → D → D → Store → Option Bool
  | .eq, x, y, S => eqD x y S
  | .ne, x, y, S => (eqD x y S).map (!·)
  | .lt, .int i, .int j, _ => some (decide (i < j))
  | .le, .int i, .int j, _ => some (decide (i ≤ j))
  | .gt, .int i, .int j, _ => some (decide (j < i))
  | .ge, .int i, .int j, _ => some (decide (j ≤ i))
  | .lt, x, y, _ => ltD x y
  | .gt, x, y, _ => ltD y x
  | .le, x, y, _ => (ltD y x).map (!·)
  | .ge, x, y, _ => (ltD x y).map (!·)
  | .isin, x, y, S => inD x y S
  | .notin, x, y, S => (inD x y S).map (!·)
  | .is, x, .non, _ => some (isNon x)
  | .isnot, x, .non, _ => some (!isNon x)
  | _, _, _, _ => none

/-! ### built-ins, methods of built-in types -/
inductive Bi where
  | len | sorted | list | tuple | min | max | sum | all | any | int | str
  | isInt | isBool | isStr | isTuple | isList
  deriving DecidableEq

def allAlike (l : List PyData) : Bool := l.all fun x => l.all fun y => PySem.W.alike x y
def sortable (l : List D) : Bool := (l.all fun d => match d with | .tup (_ :: _) => true | _ => false) || (l.all fun d => match d with | .tup _ => false | .non => false | _ => true)
def okSort (l : List D) : Bool := D.pures l && allAlike (D.pys l) && sortable l && decide (PyData.depthAll (D.pys l) ≤ 30) && okLen l.length
def sortD (l : List D) : List D := l.mergeSort (PySem.W.dataLe false D.py)
/-- the first of the least -/
def minD : D → List D → D
  | x, [] => x
  | x, y :: l => minD (if PySem.W.dataLt y.py x.py then y else x) l
def maxD : D → List D → D
  | x, [] => x
  | x, y :: l => maxD (if PySem.W.dataLt x.py y.py then y else x) l
def okMin (l : List D) : Bool := D.pures l && allAlike (D.pys l) && decide (PyData.depthAll (D.pys l) ≤ 30) && (l.all fun d => !isNon d)
def intsD : List D → Option (List Int)
  | [] => some []
  | .int i :: l => (intsD l).map (i :: ·)
  | _ => none
def boolsD : List D → Option (List Bool)
  | [] => some []
  | .bl b :: l => (boolsD l).map (b :: ·)
  | _ => none
def sign (c : Nat) : D := .str ⟨#[c]⟩
def signsD (s : Str) : List D := s.cps.toList.map sign

def Bi.app : Bi → List D → Store → R D
  | .len, [x], S => match x with
    | .str s => if okLen s.length then .ok (.int s.length) S else .bad
    | x => match x.items S with
      | some l => .ok (.int l.length) S
      | none => .bad
  | .sorted, [x], S => match x.items S with
    | some l => if okSort l then .ok (.lst (sortD l)) S else .bad
    | none => .bad
  | .list, [x], S => match x with
    | .str s => if okLen s.length then .ok (.lst (signsD s)) S else .bad
    | x => match x.items S with
      | some l => .ok (.lst l) S
      | none => .bad
  | .tuple, [x], S => match x.items S with
    | some l => .ok (.tup l) S
    | none => .bad
  | .min, [x], S => match x.items S with
    | some (y :: l) => if okMin (y :: l) then .ok (minD y l) S else .bad
    | _ => .bad
  | .max, [x], S => match x.items S with
    | some (y :: l) => if okMin (y :: l) then .ok (maxD y l) S else .bad
    | _ => .bad
  | .min, [.int i, .int j], S => .ok (.int (if j < i then j else i)) S
  | .max, [.int i, .int j], S => .ok (.int (if j > i then j else i)) S
  | .sum, [.lst l], S => match intsD l with
    | some l => .ok (.int l.sum) S
    | none => .bad
  | .all, [.lst l], S => match boolsD l with
    | some l => .ok (.bl (l.all id)) S
    | none => .bad
  | .any, [.lst l], S => match boolsD l with
    | some l => .ok (.bl (l.any id)) S
    | none => .bad
  | .int, [.str s], S => match PySem.intText? s with
    | some n => if s.length ≤ 640 then .ok (.int n) S else .bad
    | none => .bad
  | .str, [.int i], S => if i.natAbs.log2 < 1920 then .ok (.str (toString i)) S else .bad
  | .isInt, [x], S => if x.pure then .ok (.bl x.py.isInt) S else .bad
  | .isBool, [x], S => if x.pure then .ok (.bl x.py.isBool) S else .bad
  | .isStr, [x], S => if x.pure then .ok (.bl x.py.isStr) S else .bad
  | .isTuple, [x], S => if x.pure then .ok (.bl x.py.isTuple) S else .bad
  | .isList, [x], S => if x.pure then .ok (.bl x.py.isList) S else .bad
  | _, _, _ => .bad

/-! sets of texts, of whole numbers -/
abbrev SKey := L2.Key
instance memKey (k : SKey) (l : List SKey) : Decidable (k ∈ l) := decidable_of_iff (∃ x ∈ l, x = k) (by simp)
def kD : SKey → D
  | .inl i => .int i
  | .inr x => .str x
def keyD : D → Option SKey
  | .int i => some (.inl i)
  | .str x => some (.inr x)
  | _ => none
def keysD : List D → Option (List SKey)
  | [] => some []
  | d :: l => match keyD d, keysD l with
    | some k, some ks => some (k :: ks)
    | _, _ => none
/-- each once -/
def dd : List SKey → List SKey
  | [] => []
  | k :: l => if k ∈ l then dd l else k :: dd l
def okKeys (ks : List SKey) : Bool := ((ks.all fun k => match k with | .inl _ => true | _ => false) || (ks.all fun k => match k with | .inr _ => true | _ => false)) && decide (ks.length < 4000)
/-- sorted(set(l)), len(set(l)) -/
def ssetR (l : List D) (S : Store) : R D := match keysD l with
  | some ks => if okKeys ks then .ok (.lst (sortD ((dd ks).map kD))) S else .bad
  | none => .bad
def lsetR (l : List D) (S : Store) : R D := match keysD l with
  | some ks => if okKeys ks then .ok (.int (dd ks).length) S else .bad
  | none => .bad

inductive Mt where
  | strip | split | join | scount | find | sindex
  | lcount | tcount | tindex
  | append | extend | pop | popAt | remove
  deriving DecidableEq
def strsD : List D → Option (List Str)
  | [] => some []
  | .str s :: l => (strsD l).map (s :: ·)
  | _ => none
def joinLen (a : Str) (l : List Str) : Nat := (l.map (·.length)).sum + l.length * a.length
def idxS (l : List Str) (x : Str) : Option Nat := l.findIdx? fun y => decide (y = x)
def cntD (l : List D) (x : D) : Option Nat :=
  if (x.pure && D.pures l && decide ((PyData.depth x.py) ≤ 30) && decide (PyData.depthAll (D.pys l) ≤ 30)) = true then some ((D.pys l).countP fun y => PyData.eqv y x.py) else none
def cntR (l : List D) (y : D) (S : Store) : R D := match cntD l y with
  | some k => .ok (.int (k : Int)) S
  | none => .bad
def plcD (l : List D) (x : D) : Option Nat :=
  if (x.pure && D.pures l && decide ((PyData.depth x.py) ≤ 30) && decide (PyData.depthAll (D.pys l) ≤ 30) && okLen l.length) = true then (D.pys l).findIdx? fun y => PyData.eqv y x.py else none
/-- what the method is of -/
def Mt.recv : Mt → D → Store → Bool
  | .strip, .str _, _ => true
  | .split, .str _, _ => true
  | .join, .str _, _ => true
  | .scount, .str _, _ => true
  | .find, .str _, _ => true
  | .sindex, .str _, _ => true
  | .lcount, .lst _, _ => true
  | .lcount, .loc n, S => match S[n]? with
    | some (.lst _) => true
    | _ => false
  | .tcount, .tup _, _ => true
  | .tindex, .tup _, _ => true
  | .append, .loc n, S => match S[n]? with
    | some (.lst _) => true
    | _ => false
  | .extend, .loc n, S => match S[n]? with
    | some (.lst _) => true
    | _ => false
  | .pop, .loc n, S => match S[n]? with
    | some (.lst _) => true
    | _ => false
  | .popAt, .loc n, S => match S[n]? with
    | some (.lst _) => true
    | _ => false
  | .remove, .loc n, S => match S[n]? with
    | some (.lst _) => true
    | _ => false
  | _, _, _ => false
def Mt.app : Mt → D → List D → Store → R D
  | .strip, .str a, [.str b], S => if okLen a.length then .ok (.str (Txt.stripChars a b)) S else .bad
  | .split, .str a, [.str b], S => if okLen (a.length + 2) && !(b.length == 0) then .ok (.lst ((Txt.split a b).map D.str)) S else .bad
  | .join, .str a, [x], S => match (x.items S).bind strsD with
    | some l => if okLen (joinLen a l) then .ok (.str (Txt.join a l)) S else .bad
    | none => .bad
  | .scount, .str a, [.str b], S => .ok (.int (Txt.count a b)) S
  | .find, .str a, [.str b], S => .ok (.int (Txt.find a b)) S
  | .lcount, .lst l, [y], S => cntR l y S
  | .lcount, .loc n, [y], S => match S[n]? with
    | some (.lst l) => cntR l y S
    | _ => .bad
  | .tcount, .tup l, [y], S => cntR l y S
  | .tindex, .tup l, [.str z], S => match (strsD l).bind (idxS · z) with
    | some k => .ok (.int (k : Int)) S
    | none => .bad
  | .append, .loc n, [x], S => match S[n]? with
    | some (.lst l) => if okLen l.length then .ok .non (S.set n (.lst (l ++ [x]))) else .bad
    | _ => .bad
  | .extend, .loc n, [.lst m], S => match S[n]? with
    | some (.lst l) => if okLen (l.length + m.length) then .ok .non (S.set n (.lst (l ++ m))) else .bad
    | _ => .bad
  | .pop, .loc n, [], S => match S[n]? with
    | some (.lst l) => match l.getLast? with
      | some x => .ok x (S.set n (.lst l.dropLast))
      | none => .bad
    | _ => .bad
  | .popAt, .loc n, [.int i], S => match S[n]? with
    | some (.lst (x :: m)) => if i = 0 then .ok x (S.set n (.lst m)) else .bad
    | _ => .bad
  | .remove, .loc n, [y], S => match S[n]? with
    | some (.lst l) => match plcD l y with
      | some k => .ok .non (S.set n (.lst (l.eraseIdx k)))
      | none => .bad
    | _ => .bad
  | _, _, _, _ => .bad

/-! ### expressions -/
inductive Tg where
  | one (i : Nat)
  | two (i j : Nat)
mutual
inductive E where
  | var (i : Nat)
  | cst (d : D)
  | glb (x : Str) (d : D)
  | op (o : Op2) (a b : E)
  | neg (a : E)
  | cmp (o : Cm) (a b : E)
  | chn (o o' : Cm) (a b c : E)
  | not (a : E)
  | and (a b : E)
  | or (a b : E)
  | ite (c a b : E)
  | tup (es : Es)
  | lst (es : Es)
  | idx (a b : E)
  | sl (a : E) (lo hi : Eo)
  | rev (a : E)
  | call (f : Nat) (es : Es)
  | bi (f : Bi) (es : Es)
  | mth (m : Mt) (o : E) (es : Es)
  | lc (elt : E) (tg : Tg) (it : It) (cond : Eo)
  | cell (e : E)
  | snap (i : Nat)
  | sset (e : E)
  | lset (e : E)
inductive Es where
  | nil
  | cons (e : E) (es : Es)
inductive Eo where
  | none
  | some (e : E)
inductive It where
  | e (x : E)
  | rng1 (a : E)
  | rng2 (a b : E)
  | rng3 (a b c : E)
  | zip (a b : E)
  | enum (a : E)
end

def cutI (n : Nat) (d : Nat) (o : Option Int) : Nat := HT.sIx n d o
def cutL {α : Type} (xs : List α) (lo hi : Option Int) : List α := (xs.drop (HT.sIx xs.length 0 lo)).take (HT.sIx xs.length xs.length hi - HT.sIx xs.length 0 lo)
def cutD (d : D) (lo hi : Option Int) (S : Store) : R D := match d with
  | .str s => if okLen s.length then .ok (.str ⟨(cutL s.cps.toList lo hi).toArray⟩) S else .bad
  | .tup l => .ok (.tup (cutL l lo hi)) S
  | .lst l => .ok (.lst (cutL l lo hi)) S
  | .loc n => match S[n]? with
    | some (.lst l) => .ok (.lst (cutL l lo hi)) S
    | _ => .bad
  | _ => .bad
def atD (x y : D) (S : Store) : R D := match y with
  | .int i => match x with
    | .str s => if okLen s.length then (match L2.atI s.cps.toList i with
      | some c => .ok (sign c) S
      | none => .bad) else .bad
    | _ => match x.items S with
      | some l => match L2.atI l i with
        | some d => .ok d S
        | none => .bad
      | none => .bad
  | _ => .bad

/-- what a loop walks: its items; the cell that it walks, with what stands there all the while -/
structure Src where
  items : List D
  guard : Option (Nat × List D)
/-- the walked cell is as it was -/
def Good (g : Option (Nat × List D)) (S : Store) : Prop := match g with
  | none => True
  | some (n, l) => S[n]? = some (.lst l)
@[simp] theorem good_none (S : Store) : Good none S := trivial
def srcD (d : D) (S : Store) : Option Src := match d with
  | .str s => if okLen s.length then some ⟨signsD s, none⟩ else none
  | .tup l => some ⟨l, none⟩
  | .lst l => some ⟨l, none⟩
  | .loc n => match S[n]? with
    | some (.lst l) => some ⟨l, some (n, l)⟩
    | _ => none
  | _ => none
def Tg.set (t : Tg) (d : D) (env : Env) : Option Env := match t with
  | .one i => some (env.set i (some d))
  | .two i j => match d with
    | .tup [a, b] => some ((env.set i (some a)).set j (some b))
    | _ => none

open Classical in
/-- a comprehension's loop -/
noncomputable def lcLoop (g : Option (Nat × List D)) (st : D → Option Env) (fc : Env → Store → R D) (fe : Env → Store → R D) : List D → Store → R (List D)
  | [], S => if Good g S then .ok [] S else .bad
  | x :: xs, S => if Good g S then (match st x with
    | none => .bad
    | some env => (fc env S).nox.bind fun c S => match c with
      | .bl true => (fe env S).nox.bind fun y S => (lcLoop g st fc fe xs S).bind fun ys S => .ok (y :: ys) S
      | .bl false => lcLoop g st fc fe xs S
      | _ => .bad) else .bad
def rngD (lo : Int) (n : Nat) : List D := (List.range n).map fun (i : Nat) => .int (lo + (i : Int))
def okI (i : Int) : Bool := decide (-(2 ^ 62) ≤ i ∧ i < 2 ^ 62)

section
variable (Γ : Nat → List D → Store → R D)
mutual
noncomputable def ev : E → Env → Store → R D
  | .var i, env, S => match env.getD i none with
    | some d => .ok d S
    | none => .bad
  | .cst d, _, S => .ok d S
  | .glb _ d, _, S => .ok d S
  | .op o a b, env, S => (ev a env S).bind fun x S => (ev b env S).bind fun y S => o.app x y S
  | .neg a, env, S => (ev a env S).bind fun x S => match x with
    | .int i => .ok (.int (-i)) S
    | _ => .bad
  | .cmp o a b, env, S => (ev a env S).bind fun x S => (ev b env S).bind fun y S => match o.app x y S with
    | some c => .ok (.bl c) S
    | none => .bad
  | .chn o o' a b c, env, S => (ev a env S).bind fun x S => (ev b env S).bind fun y S => match o.app x y S with
    | some true => (ev c env S).bind fun z S => match o'.app y z S with
      | some k => .ok (.bl k) S
      | none => .bad
    | some false => .ok (.bl false) S
    | none => .bad
  | .not a, env, S => (ev a env S).bind fun x S => match x with
    | .bl c => .ok (.bl (!c)) S
    | _ => .bad
  | .and a b, env, S => (ev a env S).bind fun x S => match x with
    | .bl true => ev b env S
    | .bl false => .ok (.bl false) S
    | _ => .bad
  | .or a b, env, S => (ev a env S).bind fun x S => match x with
    | .bl true => .ok (.bl true) S
    | .bl false => ev b env S
    | _ => .bad
  | .ite c a b, env, S => (ev c env S).bind fun x S => match x with
    | .bl true => ev a env S
    | .bl false => ev b env S
    | _ => .bad
  | .tup es, env, S => (evs es env S).bind fun l S => if okLen l.length then .ok (.tup l) S else .bad
  | .lst es, env, S => (evs es env S).bind fun l S => if okLen l.length then .ok (.lst l) S else .bad
  | .idx a b, env, S => (ev a env S).bind fun x S => (ev b env S).bind fun y S => atD x y S
  | .sl a lo hi, env, S => (ev a env S).bind fun x S => (evo lo env S).bind fun l S => (evo hi env S).bind fun h S => cutD x l h S
  | .rev _, _, _ => .bad
  | .call f es, env, S => (evs es env S).bind fun l S => Γ f l S
  | .bi f es, env, S => (evs es env S).bind fun l S => f.app l S
  | .mth m o es, env, S => (ev o env S).bind fun x S => if m.recv x S then (evs es env S).bind fun l S => m.app x l S else .bad
  | .lc elt tg it cond, env, S => (evi it env S).bind fun src S => if okLen src.items.length then (lcLoop src.guard (fun d => tg.set d env) (fun env S => evc cond env S) (fun env S => ev elt env S) src.items S).nox.bind fun l S => .ok (.lst l) S else .bad
  | .cell a, env, S => (ev a env S).bind fun x S => match x with
    | .lst l => .ok (.loc S.length) (S ++ [.lst l])
    | _ => .bad
  | .snap i, env, S => match env.getD i none with
    | some (.loc n) => match S[n]? with
      | some (.lst l) => .ok (.lst l) (S.set n .dead)
      | _ => .bad
    | _ => .bad
  | .sset a, env, S => (ev a env S).bind fun x S => match x.items S with
    | some l => ssetR l S
    | none => .bad
  | .lset a, env, S => (ev a env S).bind fun x S => match x.items S with
    | some l => lsetR l S
    | none => .bad
noncomputable def evs : Es → Env → Store → R (List D)
  | .nil, _, S => .ok [] S
  | .cons e es, env, S => (ev e env S).bind fun x S => (evs es env S).bind fun l S => .ok (x :: l) S
noncomputable def evo : Eo → Env → Store → R (Option Int)
  | .none, _, S => .ok none S
  | .some e, env, S => (ev e env S).bind fun x S => match x with
    | .int i => .ok (some i) S
    | _ => .bad
/-- a comprehension's test -/
noncomputable def evc : Eo → Env → Store → R D
  | .none, _, S => .ok (.bl true) S
  | .some e, env, S => ev e env S
noncomputable def evi : It → Env → Store → R Src
  | .e a, env, S => (ev a env S).bind fun x S => match srcD x S with
    | some s => .ok s S
    | none => .bad
  | .rng1 a, env, S => (ev a env S).bind fun x S => match x with
    | .int j => if okI j then .ok ⟨rngD 0 j.toNat, none⟩ S else .bad
    | _ => .bad
  | .rng2 a b, env, S => (ev a env S).bind fun x S => (ev b env S).bind fun y S => match x, y with
    | .int i, .int j => if okI i && okI j then .ok ⟨rngD i (j - i).toNat, none⟩ S else .bad
    | _, _ => .bad
  | .rng3 _ _ _, _, _ => .bad
  | .zip a b, env, S => (ev a env S).bind fun x S => (ev b env S).bind fun y S => match srcD x S, srcD y S with
    | some s, some t => .ok ⟨(s.items.zip t.items).map fun p => .tup [p.1, p.2], none⟩ S
    | _, _ => .bad
  | .enum a, env, S => (ev a env S).bind fun x S => match srcD x S with
    | some s => .ok ⟨(s.items.zipIdx).map fun p => .tup [.int (p.2 : Int), p.1], none⟩ S
    | none => .bad
end
end
end SV
/-! SvB: what the data stand for in a heap; the state's relation. -/
namespace SV
open PySem PySem.Spec PyProof.Rows L2

/-- a program's fixed part -/
structure Pg where
  K : PySem.W.Frag
  mg : Str → Option Value
  /-- the own classes by number -/
  cls : Nat → Str
  /-- lists that are being made: no one else holds them -/
  pv : List (Addr × List V)

mutual
inductive Rep (P : Pg) (ms : List Addr) (F : Hp) : V → D → Prop
  | non : Rep P ms F .non .non
  | bl (b : Bool) : Rep P ms F (.bl b) (.bl b)
  | int (i : Int) : Rep P ms F (.int i) (.int i)
  | str (s : Str) : Rep P ms F (.str s) (.str s)
  | tup {a : Addr} {o : Obj} {xs : List V} {l : List D} : F a = some (.frz o (.tup xs)) → o.dict = none → RepL P ms F xs l → Rep P ms F (.ref a) (.tup l)
  | lst {a : Addr} {xs : List V} {l : List D} : F a = some (.lst xs) → RepL P ms F xs l → Rep P ms F (.ref a) (.lst l)
  | scr {a : Addr} {l : List Int} : SqL P.K F a (l.map V.int) → Rep P ms F (.ref a) (.scr l)
  | loc {a : Addr} {n : Nat} : ms[n]? = some a → Rep P ms F (.ref a) (.loc n)
  | fn {a : Addr} {g : Str} : P.mg g = some (.ref a) → Rep P ms F (.ref a) (.fn g)
inductive RepL (P : Pg) (ms : List Addr) (F : Hp) : List V → List D → Prop
  | nil : RepL P ms F [] []
  | cons {v : V} {vs : List V} {d : D} {ds : List D} : Rep P ms F v d → RepL P ms F vs ds → RepL P ms F (v :: vs) (d :: ds)
end

/-- later on -/
structure Nx (ms : List Addr) (F : Hp) (ms' : List Addr) (F' : Hp) : Prop where
  pre : ∀ (n : Nat) (a : Addr), ms[n]? = some a → ms'[n]? = some a
  sub : Same F F'
theorem Nx.refl (ms : List Addr) (F : Hp) : Nx ms F ms F := ⟨fun _ _ h => h, Same.refl F⟩
theorem Nx.trans {ms ms1 ms2 : List Addr} {F F1 F2 : Hp} (a : Nx ms F ms1 F1) (b : Nx ms1 F1 ms2 F2) : Nx ms F ms2 F2 :=
  ⟨fun n x h => b.pre n x (a.pre n x h), a.sub.trans b.sub⟩
variable {P : Pg} {ms ms' : List Addr} {F F' H H' : Hp}
mutual
theorem Rep.mono (x : Nx ms F ms' F') : ∀ {v : V} {d : D}, Rep P ms F v d → Rep P ms' F' v d
  | _, _, .non => .non
  | _, _, .bl b => .bl b
  | _, _, .int i => .int i
  | _, _, .str s => .str s
  | _, _, .tup h e r => .tup (x.sub _ _ h) e (RepL.mono x r)
  | _, _, .lst h r => .lst (x.sub _ _ h) (RepL.mono x r)
  | _, _, .scr h => .scr (x.sub.seq h)
  | _, _, .loc h => .loc (x.pre _ _ h)
  | _, _, .fn h => .fn h
theorem RepL.mono (x : Nx ms F ms' F') : ∀ {vs : List V} {ds : List D}, RepL P ms F vs ds → RepL P ms' F' vs ds
  | _, _, .nil => .nil
  | _, _, .cons h t => .cons (Rep.mono x h) (RepL.mono x t)
end
theorem RepL.length : ∀ {vs : List V} {ds : List D}, RepL P ms F vs ds → vs.length = ds.length
  | _, _, .nil => rfl
  | _, _, .cons _ t => congrArg (· + 1) (RepL.length t)
theorem RepL.get : ∀ {vs : List V} {ds : List D} {i : Nat} {d : D}, RepL P ms F vs ds → ds[i]? = some d → ∃ v, vs[i]? = some v ∧ Rep P ms F v d
  | _, _, _, _, .nil, e => by simp at e
  | _, _, 0, _, .cons r _, e => by simp at e; subst e; exact ⟨_, rfl, r⟩
  | _, _, i + 1, _, .cons _ t, e => by
    obtain ⟨v, h1, h2⟩ := RepL.get (i := i) t (by simpa using e)
    exact ⟨v, by simpa using h1, h2⟩
theorem RepL.getV : ∀ {vs : List V} {ds : List D} {i : Nat} {v : V}, RepL P ms F vs ds → vs[i]? = some v → ∃ d, ds[i]? = some d ∧ Rep P ms F v d
  | _, _, _, _, .nil, e => by simp at e
  | _, _, 0, _, .cons r _, e => by simp at e; subst e; exact ⟨_, rfl, r⟩
  | _, _, i + 1, _, .cons _ t, e => by
    obtain ⟨v, h1, h2⟩ := RepL.getV (i := i) t (by simpa using e)
    exact ⟨v, by simpa using h1, h2⟩
theorem RepL.append : ∀ {vs us : List V} {ds es : List D}, RepL P ms F vs ds → RepL P ms F us es → RepL P ms F (vs ++ us) (ds ++ es)
  | _, _, _, _, .nil, s => s
  | _, _, _, _, .cons r t, s => .cons r (RepL.append t s)
theorem RepL.take : ∀ {vs : List V} {ds : List D} (n : Nat), RepL P ms F vs ds → RepL P ms F (vs.take n) (ds.take n)
  | _, _, 0, _ => .nil
  | _, _, _ + 1, .nil => .nil
  | _, _, n + 1, .cons r t => .cons r (RepL.take n t)
theorem RepL.drop : ∀ {vs : List V} {ds : List D} (n : Nat), RepL P ms F vs ds → RepL P ms F (vs.drop n) (ds.drop n)
  | _, _, 0, r => r
  | _, _, _ + 1, .nil => .nil
  | _, _, n + 1, .cons _ t => RepL.drop n t
theorem RepL.set {v : V} {d : D} (r : Rep P ms F v d) : ∀ {vs : List V} {ds : List D} (n : Nat), RepL P ms F vs ds → RepL P ms F (vs.set n v) (ds.set n d)
  | _, _, _, .nil => .nil
  | _, _, 0, .cons _ t => .cons r t
  | _, _, n + 1, .cons q t => .cons q (RepL.set r n t)
theorem RepL.snoc {vs : List V} {ds : List D} {v : V} {d : D} (h : RepL P ms F vs ds) (r : Rep P ms F v d) : RepL P ms F (vs ++ [v]) (ds ++ [d]) := h.append (.cons r .nil)
theorem RepL.ints : ∀ {l : List Int}, RepL P ms F (l.map V.int) (l.map D.int)
  | [] => .nil
  | i :: l => .cons (.int i) RepL.ints
theorem RepL.strs : ∀ {vs : List V} {l : List Str}, RepL P ms F vs (l.map D.str) → vs = l.map V.str
  | _, [], .nil => rfl
  | _, s :: l, .cons r t => by
    cases r
    rw [RepL.strs t] <;> rfl
theorem RepL.dropLast {vs : List V} {ds : List D} (h : RepL P ms F vs ds) : RepL P ms F vs.dropLast ds.dropLast := by
  rw [List.dropLast_eq_take, List.dropLast_eq_take, h.length]
  exact h.take _

/-- what stands at a cell's address -/
def CellOk (P : Pg) (H : Hp) (ms : List Addr) (F : Hp) (a : Addr) : Cell → Prop
  | .lst l => F a = none ∧ ∃ xs, H a = some (.lst xs) ∧ RepL P ms F xs l
  | .dct _ => False
  | .obj _ _ => False
  | .dead => True
/-- the store in the heap -/
structure Sto (P : Pg) (H : Hp) (ms : List Addr) (F : Hp) (S : Store) : Prop where
  sub : Same F H
  len : ms.length = S.length
  has : ∀ (n : Nat) (a : Addr), ms[n]? = some a → H a ≠ none
  inj : ∀ (n m : Nat) (a : Addr), ms[n]? = some a → ms[m]? = some a → n = m ∨ S[n]? = some .dead ∨ S[m]? = some .dead
  cell : ∀ (n : Nat) (a : Addr) (c : Cell), ms[n]? = some a → S[n]? = some c → CellOk P H ms F a c
  prv : ∀ p ∈ P.pv, H p.1 = some (.lst p.2) ∧ F p.1 = none ∧ ∀ (n : Nat), ms[n]? = some p.1 → S[n]? = some .dead
/-- the frame's slots -/
def Slots (P : Pg) (ms : List Addr) (F : Hp) (σ : L2.St) (env : Env) : Prop :=
  env.length = σ.length ∧ ∀ (i : Nat) (d : D), env[i]? = some (some d) → ∃ v, σ[i]? = some (some v) ∧ Rep P ms F v d
theorem Slots.mono {σ : L2.St} {env : Env} (x : Nx ms F ms' F') (h : Slots P ms F σ env) : Slots P ms' F' σ env :=
  ⟨h.1, fun i d e => let ⟨v, h1, h2⟩ := h.2 i d e; ⟨v, h1, h2.mono x⟩⟩
theorem Slots.set {σ : L2.St} {env : Env} {i : Nat} {v : V} {d : D} (h : Slots P ms F σ env) (r : Rep P ms F v d) : Slots P ms F (σ.set i (some v)) (env.set i (some d)) := by
  refine ⟨by simp [h.1], fun j e q => ?_⟩
  by_cases hj : i = j
  · subst hj
    by_cases hl : i < env.length
    · rw [List.getElem?_set_self hl] at q
      cases q
      exact ⟨v, List.getElem?_set_self (h.1 ▸ hl), r⟩
    · rw [List.getElem?_eq_none (by simp; omega)] at q
      cases q
  · rw [List.getElem?_set_ne hj] at q
    obtain ⟨w, h1, h2⟩ := h.2 j e q
    exact ⟨w, by rw [List.getElem?_set_ne hj]; exact h1, h2⟩
theorem CellOk.mono {a : Addr} {c : Cell} (x : Nx ms F ms' F') (hH : H' a = H a) (hF : F a = none → F' a = none) (h : CellOk P H ms F a c) : CellOk P H' ms' F' a c := by
  cases c with
  | lst l =>
    obtain ⟨h1, xs, h2, h3⟩ := h
    exact ⟨hF h1, xs, by rw [hH]; exact h2, h3.mono x⟩
  | dct l => exact h
  | obj c l => exact h
  | dead => trivial
/-- a new object that stays -/
theorem Sto.laid {S : Store} {p : Addr} {o : HO} (h : Sto P H ms F S) (hp : H p = none) : Sto P (upd H p o) ms (upd F p o) S ∧ Nx ms F ms (upd F p o) := by
  have hF : F p = none := by
    cases q : F p with
    | none => rfl
    | some u =>
      have := h.sub _ _ q
      rw [hp] at this
      cases this
  have nx : Nx ms F ms (upd F p o) := ⟨fun _ _ e => e, fun b u e => by rw [upd_ne (ne_of_none e hF)]; exact e⟩
  have ne : ∀ (n : Nat) (a : Addr), ms[n]? = some a → a ≠ p := fun n a e z => by subst z; exact h.has n a e hp
  refine ⟨⟨fun b u e => ?_, h.len, fun n a e => ?_, h.inj, fun n a c e1 e2 => ?_, fun q hq => ?_⟩, nx⟩
  · by_cases hb : b = p
    · subst hb
      rw [upd_same] at e ⊢
      exact e
    · rw [upd_ne hb] at e ⊢
      exact h.sub _ _ e
  · rw [upd_ne (ne n a e)]
    exact h.has n a e
  · exact (h.cell n a c e1 e2).mono nx (upd_ne (ne n a e1)) fun q => by rw [upd_ne (ne n a e1)]; exact q
  · obtain ⟨q1, q2, q3⟩ := h.prv q hq
    have hn : q.1 ≠ p := ne_of_none q1 hp
    exact ⟨by rw [upd_ne hn]; exact q1, by rw [upd_ne hn]; exact q2, q3⟩
/-- a new object that nothing is known of later -/
theorem Sto.free {S : Store} {p : Addr} {o : HO} (h : Sto P H ms F S) (hp : H p = none) : Sto P (upd H p o) ms F S := by
  have ne : ∀ (n : Nat) (a : Addr), ms[n]? = some a → a ≠ p := fun n a e z => by subst z; exact h.has n a e hp
  refine ⟨fun b u e => ?_, h.len, fun n a e => ?_, h.inj, fun n a c e1 e2 => ?_, fun q hq => ?_⟩
  · rw [upd_ne (ne_of_none (h.sub _ _ e) hp)]
    exact h.sub _ _ e
  · rw [upd_ne (ne n a e)]
    exact h.has n a e
  · exact (h.cell n a c e1 e2).mono (Nx.refl _ _) (upd_ne (ne n a e1)) fun q => q
  · obtain ⟨q1, q2, q3⟩ := h.prv q hq
    exact ⟨by rw [upd_ne (ne_of_none q1 hp)]; exact q1, q2, q3⟩
theorem pre_snoc {ms : List Addr} {p : Addr} : ∀ (n : Nat) (a : Addr), ms[n]? = some a → (ms ++ [p])[n]? = some a := fun n a e => by
  have hl := (List.getElem?_eq_some_iff.mp e).1
  rw [List.getElem?_append_left hl]
  exact e
/-- a list that no one holds: not known to stay, no living cell -/
structure Fresh (P : Pg) (H : Hp) (ms : List Addr) (F : Hp) (S : Store) (p : Addr) (l : List D) : Prop where
  free : F p = none
  dead : ∀ (n : Nat), ms[n]? = some p → S[n]? = some .dead
  obj : ∃ xs, H p = some (.lst xs) ∧ RepL P ms F xs l
  priv : ∀ q ∈ P.pv, q.1 ≠ p
theorem Sto.nof {S : Store} {p : Addr} (h : Sto P H ms F S) (hp : H p = none) : F p = none := by
  cases q : F p with
  | none => rfl
  | some u =>
    have := h.sub _ _ q
    rw [hp] at this
    cases this
theorem Sto.fresh {S : Store} {p : Addr} {xs : List V} {l : List D} (h : Sto P H ms F S) (hp : H p = none) (r : RepL P ms F xs l) :
    Sto P (upd H p (.lst xs)) ms F S ∧ Fresh P (upd H p (.lst xs)) ms F S p l :=
  ⟨h.free hp, h.nof hp, fun n e => absurd hp (h.has n p e), ⟨xs, upd_same, r⟩, fun q hq => ne_of_none (h.prv q hq).1 hp⟩
/-- it becomes a cell -/
theorem Sto.adopt {S : Store} {p : Addr} {l : List D} (h : Sto P H ms F S) (f : Fresh P H ms F S p l) :
    Sto P H (ms ++ [p]) F (S ++ [.lst l]) ∧ Nx ms F (ms ++ [p]) F := by
  obtain ⟨hF, hd, ⟨xs, hH, r⟩, hpv⟩ := f
  have nx : Nx ms F (ms ++ [p]) F := ⟨pre_snoc, Same.refl F⟩
  have last : ∀ (n : Nat) (a : Addr), (ms ++ [p])[n]? = some a → (ms[n]? = some a) ∨ (n = ms.length ∧ a = p) := fun n a e => by
    by_cases hl : n < ms.length
    · rw [List.getElem?_append_left hl] at e
      exact .inl e
    · rw [List.getElem?_append_right (by omega)] at e
      have : n - ms.length = 0 := by
        cases q : n - ms.length with
        | zero => rfl
        | succ m => rw [q] at e; simp at e
      rw [this] at e
      simp at e
      exact .inr ⟨by omega, e.symm⟩
  have old : ∀ (n : Nat) (a : Addr), ms[n]? = some a → (S ++ [Cell.lst l])[n]? = S[n]? := fun n a e => by
    have hl := (List.getElem?_eq_some_iff.mp e).1
    rw [h.len] at hl
    exact List.getElem?_append_left hl
  refine ⟨⟨h.sub, by simp [h.len], fun n a e => ?_, fun n m a e1 e2 => ?_, fun n a c e1 e2 => ?_, fun q hq => ?_⟩, nx⟩
  · rcases last n a e with e | ⟨_, rfl⟩
    · exact h.has n a e
    · rw [hH]
      exact fun z => nomatch z
  · rcases last n a e1 with e1 | ⟨h1, rfl⟩ <;> rcases last m a e2 with e2 | ⟨h2, z⟩
    · rw [old n a e1, old m a e2]
      exact h.inj n m a e1 e2
    · rw [old n a e1]
      exact .inr (.inl (hd n (z ▸ e1)))
    · rw [old m _ e2]
      exact .inr (.inr (hd m e2))
    · exact .inl (by omega)
  · rcases last n a e1 with e1 | ⟨h1, rfl⟩
    · rw [old n a e1] at e2
      exact (h.cell n a c e1 e2).mono nx rfl fun q => q
    · rw [h1, h.len, List.getElem?_append_right (Nat.le_refl _), Nat.sub_self] at e2
      simp at e2
      subst e2
      exact ⟨hF, xs, hH, r.mono nx⟩
  · obtain ⟨q1, q2, q3⟩ := h.prv q hq
    refine ⟨q1, q2, fun n e => ?_⟩
    rcases last n _ e with e | ⟨_, z⟩
    · rw [old n _ e]
      exact q3 n e
    · exact absurd z (hpv q hq)
/-- it stays as it is -/
theorem Sto.freeze {S : Store} {p : Addr} {l : List D} (h : Sto P H ms F S) (f : Fresh P H ms F S p l) :
    ∃ F', Nx ms F ms F' ∧ Sto P H ms F' S ∧ Rep P ms F' (.ref p) (.lst l) := by
  obtain ⟨hF, hd, ⟨xs, hH, r⟩, hpv⟩ := f
  have nx : Nx ms F ms (upd F p (.lst xs)) := ⟨fun _ _ e => e, fun b u e => by rw [upd_ne (ne_of_none e hF)]; exact e⟩
  refine ⟨upd F p (.lst xs), nx, ⟨fun b u e => ?_, h.len, h.has, h.inj, fun m b c e1 e2 => ?_, fun q hq => ?_⟩, .lst upd_same (r.mono nx)⟩
  · by_cases hb : b = p
    · subst hb
      rw [upd_same] at e
      rw [← e]
      exact hH
    · rw [upd_ne hb] at e
      exact h.sub _ _ e
  · by_cases hb : b = p
    · subst hb
      have := hd m e1
      rw [e2] at this
      cases this
      trivial
    · exact (h.cell m b c e1 e2).mono nx rfl fun q => by rw [upd_ne hb]; exact q
  · obtain ⟨q1, q2, q3⟩ := h.prv q hq
    exact ⟨q1, by rw [upd_ne (hpv q hq)]; exact q2, q3⟩
/-- a cell's list written -/
theorem Sto.write {S : Store} {n : Nat} {a : Addr} {l l' : List D} {xs : List V} (h : Sto P H ms F S) (ha : ms[n]? = some a) (hc : S[n]? = some (.lst l)) (r : RepL P ms F xs l') :
    Sto P (upd H a (.lst xs)) ms F (S.set n (.lst l')) := by
  obtain ⟨hF, _⟩ := h.cell n a _ ha hc
  have hl := (List.getElem?_eq_some_iff.mp hc).1
  have dd : ∀ (i : Nat), S[i]? = some .dead → (S.set n (.lst l'))[i]? = some Cell.dead := fun i e => by
    by_cases hi : n = i
    · subst hi
      rw [hc] at e
      cases e
    · rw [List.getElem?_set_ne hi]
      exact e
  refine ⟨fun b u e => ?_, by simp [h.len], fun m b e => ?_, fun k m b e1 e2 => ?_, fun m b c e1 e2 => ?_, fun q hq => ?_⟩
  · rw [upd_ne (ne_of_none e hF)]
    exact h.sub _ _ e
  · by_cases hb : b = a
    · subst hb
      rw [upd_same]
      exact fun z => nomatch z
    · rw [upd_ne hb]
      exact h.has m b e
  · rcases h.inj k m b e1 e2 with z | z | z
    · exact .inl z
    · exact .inr (.inl (dd _ z))
    · exact .inr (.inr (dd _ z))
  · by_cases hm : n = m
    · subst hm
      rw [ha] at e1
      cases e1
      rw [List.getElem?_set_self hl] at e2
      cases e2
      exact ⟨hF, xs, upd_same, r⟩
    · rw [List.getElem?_set_ne hm] at e2
      by_cases hb : b = a
      · subst hb
        rcases h.inj n m b ha e1 with z | z | z
        · exact absurd z hm
        · rw [hc] at z
          cases z
        · rw [e2] at z
          cases z
          trivial
      · exact (h.cell m b c e1 e2).mono (Nx.refl _ _) (upd_ne hb) fun q => q
  · obtain ⟨q1, q2, q3⟩ := h.prv q hq
    have hn : q.1 ≠ a := fun z => by
      have := q3 n (z ▸ ha)
      rw [hc] at this
      cases this
    exact ⟨by rw [upd_ne hn]; exact q1, q2, fun m e => dd m (q3 m e)⟩
/-- a cell's list is let go -/
theorem Sto.snap {S : Store} {n : Nat} {a : Addr} {l : List D} (h : Sto P H ms F S) (ha : ms[n]? = some a) (hc : S[n]? = some (.lst l)) :
    Sto P H ms F (S.set n .dead) ∧ Fresh P H ms F (S.set n .dead) a l := by
  obtain ⟨hF, xs, hH, r⟩ := h.cell n a _ ha hc
  have hl := (List.getElem?_eq_some_iff.mp hc).1
  have dd : ∀ (i : Nat), S[i]? = some .dead → (S.set n .dead)[i]? = some Cell.dead := fun i e => by
    by_cases hi : n = i
    · subst hi
      exact List.getElem?_set_self hl
    · rw [List.getElem?_set_ne hi]
      exact e
  refine ⟨⟨h.sub, by simp [h.len], h.has, fun k m b e1 e2 => ?_, fun m b c e1 e2 => ?_, fun q hq => ?_⟩, hF, fun m e => ?_, ⟨xs, hH, r⟩, fun q hq z => ?_⟩
  · rcases h.inj k m b e1 e2 with z | z | z
    · exact .inl z
    · exact .inr (.inl (dd _ z))
    · exact .inr (.inr (dd _ z))
  · by_cases hm : n = m
    · subst hm
      rw [List.getElem?_set_self hl] at e2
      cases e2
      trivial
    · rw [List.getElem?_set_ne hm] at e2
      exact h.cell m b c e1 e2
  · obtain ⟨q1, q2, q3⟩ := h.prv q hq
    exact ⟨q1, q2, fun m e => dd m (q3 m e)⟩
  · rcases h.inj n m a ha e with z | z | z
    · subst z
      exact List.getElem?_set_self hl
    · rw [hc] at z
      cases z
    · exact dd _ z
  · have := (h.prv q hq).2.2 n (z ▸ ha)
    rw [hc] at this
    cases this

/-! ### another list is being made -/
def Pg.wp (P : Pg) (pv : List (Addr × List V)) : Pg := { P with pv := pv }
mutual
theorem Rep.wp {pv : List (Addr × List V)} : ∀ {v : V} {d : D}, Rep P ms F v d → Rep (P.wp pv) ms F v d
  | _, _, .non => .non
  | _, _, .bl b => .bl b
  | _, _, .int i => .int i
  | _, _, .str s => .str s
  | _, _, .tup h e r => .tup h e (RepL.wp r)
  | _, _, .lst h r => .lst h (RepL.wp r)
  | _, _, .scr h => .scr h
  | _, _, .loc h => .loc h
  | _, _, .fn h => .fn h
theorem RepL.wp {pv : List (Addr × List V)} : ∀ {v : List V} {d : List D}, RepL P ms F v d → RepL (P.wp pv) ms F v d
  | _, _, .nil => .nil
  | _, _, .cons h t => .cons (Rep.wp h) (RepL.wp t)
end
theorem wp_self (P : Pg) (pv : List (Addr × List V)) : (P.wp pv).wp P.pv = P := rfl
theorem Rep.un {pv : List (Addr × List V)} {v : V} {d : D} (h : Rep (P.wp pv) ms F v d) : Rep P ms F v d := by
  have := Rep.wp (pv := P.pv) h
  exact this
theorem RepL.un {pv : List (Addr × List V)} {v : List V} {d : List D} (h : RepL (P.wp pv) ms F v d) : RepL P ms F v d := by
  have := RepL.wp (pv := P.pv) h
  exact this
theorem CellOk.wp {pv : List (Addr × List V)} {a : Addr} {c : Cell} (h : CellOk P H ms F a c) : CellOk (P.wp pv) H ms F a c := by
  cases c with
  | lst l =>
    obtain ⟨h1, xs, h2, h3⟩ := h
    exact ⟨h1, xs, h2, h3.wp⟩
  | dct l => exact h
  | obj c l => exact h
  | dead => trivial
/-- a list that no one holds is being made -/
theorem Sto.hold {S : Store} {p : Addr} {l : List D} (h : Sto P H ms F S) (f : Fresh P H ms F S p l) : ∃ xs, RepL P ms F xs l ∧ H p = some (.lst xs) ∧ Sto (P.wp ((p, xs) :: P.pv)) H ms F S := by
  obtain ⟨hF, hd, ⟨xs, hH, r⟩, hpv⟩ := f
  refine ⟨xs, r, hH, h.sub, h.len, h.has, h.inj, fun n a c e1 e2 => (h.cell n a c e1 e2).wp, fun q hq => ?_⟩
  rcases List.mem_cons.mp hq with rfl | hq
  · exact ⟨hH, hF, hd⟩
  · exact h.prv q hq
/-- it has been made -/
theorem Sto.give {S : Store} {p : Addr} {xs : List V} {l : List D} (hn : ∀ q ∈ P.pv, q.1 ≠ p) (h : Sto (P.wp ((p, xs) :: P.pv)) H ms F S) (r : RepL P ms F xs l) : Sto P H ms F S ∧ Fresh P H ms F S p l := by
  obtain ⟨q1, q2, q3⟩ := h.prv (p, xs) List.mem_cons_self
  refine ⟨⟨h.sub, h.len, h.has, h.inj, fun n a c e1 e2 => ?_, fun q hq => h.prv q (List.mem_cons_of_mem _ hq)⟩, q2, q3, ⟨xs, q1, r⟩, hn⟩
  have := CellOk.wp (pv := P.pv) (h.cell n a c e1 e2)
  exact this
/-- it grows -/
theorem Sto.grow {S : Store} {p : Addr} {xs ys : List V} (hn : ∀ q ∈ P.pv, q.1 ≠ p) (h : Sto (P.wp ((p, xs) :: P.pv)) H ms F S) : Sto (P.wp ((p, ys) :: P.pv)) (upd H p (.lst ys)) ms F S := by
  obtain ⟨q1, q2, q3⟩ := h.prv (p, xs) List.mem_cons_self
  refine ⟨fun b u e => ?_, h.len, fun n a e => ?_, h.inj, fun n a c e1 e2 => ?_, fun q hq => ?_⟩
  · rw [upd_ne (ne_of_none e q2)]
    exact h.sub _ _ e
  · by_cases ha : a = p
    · subst ha
      rw [upd_same]
      exact fun z => nomatch z
    · rw [upd_ne ha]
      exact h.has n a e
  · by_cases ha : a = p
    · subst ha
      have := q3 n e1
      rw [e2] at this
      cases this
      trivial
    · have k := (h.cell n a c e1 e2).mono (H' := upd H p (.lst ys)) (Nx.refl _ _) (upd_ne ha) fun q => q
      exact CellOk.wp (P := P.wp ((p, xs) :: P.pv)) (pv := (p, ys) :: P.pv) k
  · rcases List.mem_cons.mp hq with rfl | hq
    · exact ⟨upd_same, q2, q3⟩
    · obtain ⟨z1, z2, z3⟩ := h.prv q (List.mem_cons_of_mem _ hq)
      exact ⟨by rw [upd_ne (hn q hq)]; exact z1, z2, z3⟩

/-! ### as data of the library -/
mutual
theorem Rep.dp (s : Same F H) : ∀ {d : D} {v : V}, d.pure = true → Rep P ms F v d → Dp P.K H v d.py
  | .non, _, _, h => by cases h; exact .non
  | .bl b, _, _, h => by cases h; exact .bl b
  | .int i, _, _, h => by cases h; exact .int i
  | .str x, _, _, h => by cases h; exact .str x
  | .tup l, _, p, h => by
    cases h with
    | tup h1 h2 h3 =>
      rw [D.py]
      exact .tup (.inl (.inr ⟨_, s _ _ h1⟩)) (RepL.dp s (by simpa [D.pure] using p) h3)
  | .lst l, _, p, h => by
    cases h with
    | lst h1 h3 =>
      rw [D.py]
      exact .lst (.inl (.inl (s _ _ h1))) (RepL.dp s (by simpa [D.pure] using p) h3)
  | .scr l, _, p, _ => by simp [D.pure] at p
  | .loc _, _, p, _ => by simp [D.pure] at p
  | .fn _, _, p, _ => by simp [D.pure] at p
theorem RepL.dp (s : Same F H) : ∀ {ds : List D} {vs : List V}, D.pures ds = true → RepL P ms F vs ds → DpAll P.K H vs (D.pys ds)
  | [], _, _, h => by cases h; exact .nil
  | d :: ds, _, p, h => by
    cases h with
    | cons h1 h2 =>
      simp only [D.pures, Bool.and_eq_true] at p
      exact .cons (Rep.dp s p.1 h1) (RepL.dp s p.2 h2)
end
end SV
/-! SvC: what a reading asks; operators by values. -/
namespace SV
open PySem PySem.Spec PyProof.Rows L2

/-! ### what is wanted of a result -/
/-- a value of this data -/
def Ord (P : Pg) (ms : List Addr) (F : Hp) (Q : VK) (d : D) (S : Store) : Prop :=
  ∀ v H' ms' F', Nx ms F ms' F' → Sto P H' ms' F' S → Rep P ms' F' v d → Q v H'
/-- a new list -/
def New (P : Pg) (ms : List Addr) (F : Hp) (Q : VK) (l : List D) (S : Store) : Prop :=
  ∀ p H' ms' F', Nx ms F ms' F' → Sto P H' ms' F' S → Fresh P H' ms' F' S p l → Q (.ref p) H'
def Val (P : Pg) (ms : List Addr) (F : Hp) (fr : Bool) (Q : VK) (d : D) (S : Store) : Prop := match fr, d with
  | true, .lst l => New P ms F Q l S
  | _, d => Ord P ms F Q d S
abbrev XQ := Nat → Hp → Prop
def Post (P : Pg) (ms : List Addr) (F : Hp) (fr : Bool) (Q : VK) (Ex : XQ) : R D → Prop
  | .ok d S => Val P ms F fr Q d S
  | .exc c S => ∀ H' ms' F', Nx ms F ms' F' → Sto P H' ms' F' S → Ex c H'
  | .bad => False
variable {P : Pg} {ms ms' : List Addr} {F F' : Hp}
theorem Ord.new {Q : VK} {l : List D} {S : Store} (h : Ord P ms F Q (.lst l) S) : New P ms F Q l S := fun p H' ms' F' nx st f =>
  let ⟨F2, nx2, st2, r⟩ := st.freeze f
  h _ _ _ _ (nx.trans nx2) st2 r
theorem Ord.val {fr : Bool} {Q : VK} {d : D} {S : Store} (h : Ord P ms F Q d S) : Val P ms F fr Q d S := by
  unfold Val
  split
  · exact h.new
  · exact h
theorem Ord.of_val {Q : VK} {d : D} {S : Store} (h : Val P ms F false Q d S) : Ord P ms F Q d S := by
  unfold Val at h
  exact h
theorem Ord.nx {Q : VK} {d : D} {S : Store} (x : Nx ms F ms' F') (h : Ord P ms F Q d S) : Ord P ms' F' Q d S := fun v H2 ms2 F2 nx st r => h v H2 ms2 F2 (x.trans nx) st r
theorem New.nx {Q : VK} {d : List D} {S : Store} (x : Nx ms F ms' F') (h : New P ms F Q d S) : New P ms' F' Q d S := fun v H2 ms2 F2 nx st r => h v H2 ms2 F2 (x.trans nx) st r
theorem Val.nx {fr : Bool} {Q : VK} {d : D} {S : Store} (x : Nx ms F ms' F') (h : Val P ms F fr Q d S) : Val P ms' F' fr Q d S := by
  unfold Val at h ⊢
  split
  · exact New.nx x h
  · next q => split at h
              · exact absurd rfl (q _ rfl)
              · exact Ord.nx x h
theorem Post.nx {fr : Bool} {Q : VK} {Ex : XQ} {r : R D} (x : Nx ms F ms' F') (h : Post P ms F fr Q Ex r) : Post P ms' F' fr Q Ex r := match r, h with
  | .ok d S, h => Val.nx x h
  | .exc c S, h => fun H2 ms2 F2 nx st => h H2 ms2 F2 (x.trans nx) st
  | .bad, h => h
/-- a plain wish is one of new lists too -/
theorem Post.weak {fr : Bool} {Q : VK} {Ex : XQ} {r : R D} (h : Post P ms F false Q Ex r) : Post P ms F fr Q Ex r := match r, h with
  | .ok d S, h => (Ord.of_val h).val
  | .exc c S, h => h
  | .bad, h => h
/-- one after the other -/
theorem Post.bind {fr : Bool} {Q Q' : VK} {Ex : XQ} {r : R D} {g : D → Store → R D} (h : Post P ms F fr Q Ex (r.bind g))
    (k : ∀ d S v H' ms' F', Nx ms F ms' F' → Sto P H' ms' F' S → Rep P ms' F' v d → Post P ms' F' fr Q Ex (g d S) → Q' v H') : Post P ms F false Q' Ex r := match r, h with
  | .ok d S, h => fun v H' ms' F' nx st rv => k d S v H' ms' F' nx st rv (Post.nx nx h)
  | .exc c S, h => h
  | .bad, h => h

/-! ### readings -/
/-- what the evaluator answers, as an expression's reading; W: what is wanted of an error -/
def tE (P : Pg) (W : WX) (fr : Bool) (f : Env → Store → R D) : TE := fun σ H Q => ∃ env ms F S, Slots P ms F σ env ∧ Sto P H ms F S ∧
  Post P ms F fr Q (fun c H' => ∀ C, P.mg (P.cls c) = some (.ref C) → W (.ref C) none σ H') (f env S)
section
variable {X : Cx} {W : WX}
theorem _root_.L2.PE.imp {e : Expr} {t t' : TE} (h : PE X e t) (k : ∀ σ H Q, t' σ H Q → t σ H Q) : PE X e t' := ⟨fun pins s σ H Q I q => h.run pins s σ H Q I (k σ H Q q)⟩
theorem _root_.L2.PT.imp {e : Expr} {t t' : TT} (h : PT X e t) (k : ∀ σ H Q, t' σ H Q → t σ H Q) : PT X e t' := ⟨fun pins s σ H Q I q => h.run pins s σ H Q I (k σ H Q q)⟩
theorem _root_.L2.PA.imp {e : List Expr} {t t' : TA} (h : PA X e t) (k : ∀ σ H Q, t' σ H Q → t σ H Q) : PA X e t' := ⟨fun pos pins s σ H Q I q => h.run pos pins s σ H Q I (k σ H Q q)⟩
theorem _root_.L2.PI.imp {e tg : Expr} {t t' : TI} (h : PI X tg e t) (k : ∀ σ H Q, t' σ H Q → t σ H Q) : PI X tg e t' := ⟨fun pins s σ H Q I q => h.run pins s σ H Q I (k σ H Q q)⟩
theorem _root_.L2.PSs.imp {e : List Stmt} {t t' : TS} (h : PSs X e t) (k : ∀ D σ H, t' D σ H → t D σ H) : PSs X e t' := ⟨fun pins s σ H D I q => h.run pins s σ H D I (k D σ H q)⟩
theorem _root_.L2.PS.imp {e : Stmt} {t t' : TS} (h : PS X e t) (k : ∀ D σ H, t' D σ H → t D σ H) : PS X e t' := ⟨fun pins s σ H D I q => h.run pins s σ H D I (k D σ H q)⟩
/-- any wish by a stronger rule -/
theorem _root_.L2.PE.ord {e : Expr} {fr : Bool} {f : Env → Store → R D} (h : PE X e (tE P W fr f)) : PE X e (tE P W false f) :=
  h.imp fun _ _ _ ⟨env, ms, F, S, hs, st, q⟩ => ⟨env, ms, F, S, hs, st, q.weak⟩

/-! ### names, constants -/
theorem s_var {i : Nat} {x : Str} {pos : Pos} (hN : X.N[i]? = some x) (hv : Vis X.env.scope x) (hd : (x == ("__debug__" : Str)) = false) (hcd : (x == ("__classdict__" : Str)) = false) :
    PE X (.Name x pos) (tE P W false fun env S => match env.getD i none with | some d => .ok d S | none => .bad) := (pe_var hN hv hd hcd).imp fun σ H Q ⟨env, ms, F, S, hs, st, h⟩ => by
  dsimp only at h
  cases q : env.getD i none with
  | none =>
    rw [q] at h
    exact h.elim
  | some d =>
    rw [q] at h
    have e : env[i]? = some (some d) := by
      rw [List.getD_eq_getElem?_getD] at q
      cases z : env[i]? with
      | none => rw [z] at q; cases q
      | some o => rw [z] at q; exact congrArg some q
    obtain ⟨v, h1, h2⟩ := hs.2 i d e
    exact ⟨v, h1, h v H ms F (Nx.refl _ _) st h2⟩
/-- flat data that a constant may be -/
def flatOf : D → Option V
  | .non => some .non
  | .bl b => some (.bl b)
  | .int i => some (.int i)
  | .str s => some (.str s)
  | _ => none
theorem flat_rep {d : D} {v : V} (h : flatOf d = some v) : Rep P ms F v d := by
  cases d <;> simp [flatOf] at h <;> subst h <;> constructor
theorem s_cst {e : Expr} {v : V} {d : D} (h : PE X e (tC v)) (r : ∀ ms F, Rep P ms F v d) : PE X e (tE P W false fun _ S => .ok d S) :=
  h.imp fun σ H Q ⟨env, ms, F, S, hs, st, q⟩ => q v H ms F (Nx.refl _ _) st (r _ _)

/-! ### two places -/
/-- by values -/
def rv2 (P : Pg) (fr : Bool) (app : D → D → Store → R D) : R2 := fun x y H Q => ∃ ms F S dx dy Ex, Sto P H ms F S ∧ Rep P ms F x dx ∧ Rep P ms F y dy ∧ Post P ms F fr Q Ex (app dx dy S)
variable {a b c : Expr} {fa fb fc : Env → Store → R D} {pos : Pos}
/-- two expressions, then an operation -/
def bin2 (fa fb : Env → Store → R D) (app : D → D → Store → R D) : Env → Store → R D := fun env S => (fa env S).bind fun x S => (fb env S).bind fun y S => app x y S
theorem t_bin {fr : Bool} {app : D → D → Store → R D} {σ : L2.St} {H : Hp} {Q : VK} (h : tE P W fr (bin2 fa fb app) σ H Q) : tOp (rv2 P fr app) (tE P W false fa) (tE P W false fb) σ H Q := by
  obtain ⟨env, ms, F, S, hs, st, h⟩ := h
  exact ⟨env, ms, F, S, hs, st, h.bind fun x S1 v H1 ms1 F1 nx st1 rx h1 => ⟨env, ms1, F1, S1, hs.mono nx, st1, h1.bind fun y S2 u H2 ms2 F2 nx2 st2 ry h2 => ⟨ms2, F2, S2, x, y, _, st2, rx.mono nx2, ry, h2⟩⟩⟩
theorem s_op {op : Operator} {fr : Bool} {app : D → D → Store → R D} (ho : OpR X (binaryOp op) (rv2 P fr app)) (ha : PE X a (tE P W false fa)) (hb : PE X b (tE P W false fb)) : PE X (.BinOp a op b pos) (tE P W fr (bin2 fa fb app)) :=
  (pe_op ho ha hb).imp fun _ _ _ h => t_bin h
def cmA (o : Cm) : D → D → Store → R D := fun x y S => match o.app x y S with
  | some c => .ok (.bl c) S
  | none => .bad
theorem s_cmp {op : CmpOp} {o : Cm} (ho : OpR X (compareOp op) (rv2 P false (cmA o))) (ha : PE X a (tE P W false fa)) (hb : PE X b (tE P W false fb)) (hm : behindInMarks op b = false) : PE X (.Compare a [op] [b] pos) (tE P W false (bin2 fa fb (cmA o))) :=
  (pe_cmpR ho ha hb hm).imp fun _ _ _ h => t_bin h
/-- tests -/
def tT (P : Pg) (W : WX) (f : Env → Store → R D) : TT := fun σ H Q => tE P W false f σ H fun v H' => ∃ c, v = .bl c ∧ Q c H'
theorem t_cm {o : Cm} {x y : V} {H : Hp} {Q : VK} (h : rv2 P false (cmA o) x y H Q) : rv2 P false (cmA o) x y H fun v H' => Q v H' := h
theorem s_cmpT {op : CmpOp} {o : Cm} (ho : OpR X (compareOp op) (rv2 P false (cmA o))) (ha : PE X a (tE P W false fa)) (hb : PE X b (tE P W false fb)) (hm : behindInMarks op b = false) : PT X (.Compare a [op] [b] pos) (tT P W (bin2 fa fb (cmA o))) :=
  (pt_cmpR ho ha hb hm).imp fun _ _ _ h => t_bin h
/-- a op b op' c -/
def chnF (fa fb fc : Env → Store → R D) (o o' : Cm) : Env → Store → R D := fun env S => (fa env S).bind fun x S => (fb env S).bind fun y S => match o.app x y S with
    | some true => (fc env S).bind fun z S => cmA o' y z S
    | some false => .ok (.bl false) S
    | none => .bad
theorem t_chn {o o' : Cm} {σ : L2.St} {H : Hp} {Q : VK} (h : tE P W false (chnF fa fb fc o o') σ H Q) :
    tChain (rv2 P false (cmA o)) (rv2 P false (cmA o')) (tE P W false fa) (tE P W false fb) (tE P W false fc) σ H Q := by
  obtain ⟨env, ms, F, S, hs, st, h⟩ := h
  refine ⟨env, ms, F, S, hs, st, h.bind fun x S1 v H1 ms1 F1 nx st1 rx h1 => ⟨env, ms1, F1, S1, hs.mono nx, st1, h1.bind fun y S2 u H2 ms2 F2 nx2 st2 ry h2 => ⟨ms2, F2, S2, x, y, fun _ _ => True, st2, rx.mono nx2, ry, ?_⟩⟩⟩
  unfold cmA
  cases q : o.app x y S2 with
  | none =>
    rw [q] at h2
    exact h2.elim
  | some k =>
    rw [q] at h2
    refine fun w H3 ms3 F3 nx3 st3 rw => ?_
    cases rw
    refine ⟨k, rfl, ?_⟩
    cases k with
    | false => exact iteF (h2 _ _ _ _ nx3 st3 (.bl false))
    | true =>
      have h3 : Post P ms2 F2 false Q _ ((fc env S2).bind fun z S => cmA o' y z S) := h2
      exact iteT ⟨env, ms3, F3, S2, (hs.mono nx).mono (nx2.trans nx3), st3, (Post.nx nx3 h3).bind fun z S4 w4 H4 ms4 F4 nx4 st4 rz h4 => ⟨ms4, F4, S4, y, z, _, st4, ry.mono (nx3.trans nx4), rz, h4⟩⟩
theorem s_chn {op op' : CmpOp} {o o' : Cm} (ho : OpR X (compareOp op) (rv2 P false (cmA o))) (ho' : OpR X (compareOp op') (rv2 P false (cmA o'))) (ha : PE X a (tE P W false fa)) (hb : PE X b (tE P W false fb)) (hc : PE X c (tE P W false fc))
    (hm : lastMarks [op, op'] [b, c] = false) : PE X (.Compare a [op, op'] [b, c] pos) (tE P W false (chnF fa fb fc o o')) :=
  (pe_chain ho ho' ha hb hc hm).imp fun _ _ _ h => t_chn h
theorem s_chnT {op op' : CmpOp} {o o' : Cm} (ho : OpR X (compareOp op) (rv2 P false (cmA o))) (ho' : OpR X (compareOp op') (rv2 P false (cmA o'))) (ha : PE X a (tE P W false fa)) (hb : PE X b (tE P W false fb)) (hc : PE X c (tE P W false fc))
    (hm : lastMarks [op, op'] [b, c] = false) : PT X (.Compare a [op, op'] [b, c] pos) (tT P W (chnF fa fb fc o o')) :=
  (pt_chain ho ho' ha hb hc hm).imp fun _ _ _ h => t_chn h

/-! ### not, and, or, if -/
def notF (fa : Env → Store → R D) : Env → Store → R D := fun env S => (fa env S).bind fun x S => match x with
    | .bl c => .ok (.bl (!c)) S
    | _ => .bad
def andF (fa fb : Env → Store → R D) : Env → Store → R D := fun env S => (fa env S).bind fun x S => match x with
    | .bl true => fb env S
    | .bl false => .ok (.bl false) S
    | _ => .bad
def orF (fa fb : Env → Store → R D) : Env → Store → R D := fun env S => (fa env S).bind fun x S => match x with
    | .bl true => .ok (.bl true) S
    | .bl false => fb env S
    | _ => .bad
def iteG (fc fa fb : Env → Store → R D) : Env → Store → R D := fun env S => (fc env S).bind fun x S => match x with
    | .bl true => fa env S
    | .bl false => fb env S
    | _ => .bad
theorem s_not (ha : PE X a (tE P W false fa)) : PE X (.UnaryOp .Not a pos) (tE P W false (notF fa)) :=
  (pe_not ha).imp fun σ H Q ⟨env, ms, F, S, hs, st, h⟩ => ⟨env, ms, F, S, hs, st, h.bind fun x S1 v H1 ms1 F1 nx st1 rx h1 => by
    cases rx with
    | bl k => exact ⟨k, rfl, h1 _ _ _ _ (Nx.refl _ _) st1 (.bl _)⟩
    | _ => exact h1.elim⟩
theorem s_notT (ha : PT X a (tT P W fa)) : PT X (.UnaryOp .Not a pos) (tT P W (notF fa)) :=
  (pt_not ha).imp fun σ H Q ⟨env, ms, F, S, hs, st, h⟩ => ⟨env, ms, F, S, hs, st, h.bind fun x S1 v H1 ms1 F1 nx st1 rx h1 => by
    cases rx with
    | bl k =>
      obtain ⟨d, e, q⟩ := h1 _ _ _ _ (Nx.refl _ _) st1 (.bl _)
      cases e
      exact ⟨k, rfl, q⟩
    | _ => exact h1.elim⟩
theorem s_and {r : List Expr} {p2 : Pos} (ha : PE X a (tE P W false fa)) (hb : PE X (.BoolOp .And (b :: r) pos) (tE P W false fb)) : PE X (.BoolOp .And (a :: b :: r) pos) (tE P W false (andF fa fb)) :=
  (pe_and ha hb).imp fun σ H Q ⟨env, ms, F, S, hs, st, h⟩ => ⟨env, ms, F, S, hs, st, h.bind fun x S1 v H1 ms1 F1 nx st1 rx h1 => by
    cases rx with
    | bl k =>
      refine ⟨k, rfl, ?_⟩
      cases k with
      | true => exact iteT ⟨env, ms1, F1, S1, hs.mono nx, st1, h1⟩
      | false => exact iteF (h1 _ _ _ _ (Nx.refl _ _) st1 (.bl _))
    | _ => exact h1.elim⟩
theorem s_or {r : List Expr} {p2 : Pos} (ha : PE X a (tE P W false fa)) (hb : PE X (.BoolOp .Or (b :: r) pos) (tE P W false fb)) : PE X (.BoolOp .Or (a :: b :: r) pos) (tE P W false (orF fa fb)) :=
  (pe_or ha hb).imp fun σ H Q ⟨env, ms, F, S, hs, st, h⟩ => ⟨env, ms, F, S, hs, st, h.bind fun x S1 v H1 ms1 F1 nx st1 rx h1 => by
    cases rx with
    | bl k =>
      refine ⟨k, rfl, ?_⟩
      cases k with
      | true => exact iteT (h1 _ _ _ _ (Nx.refl _ _) st1 (.bl _))
      | false => exact iteF ⟨env, ms1, F1, S1, hs.mono nx, st1, h1⟩
    | _ => exact h1.elim⟩
theorem s_andT {r : List Expr} (ha : PT X a (tT P W fa)) (hb : PW X (.BoolOp .And (b :: r) pos) (tT P W fb)) : PW X (.BoolOp .And (a :: b :: r) pos) (tT P W (andF fa fb)) :=
  ⟨fun wh pins s σ H Q I q => (pw_and ha hb).run wh pins s σ H Q I (by
    obtain ⟨env, ms, F, S, hs, st, h⟩ := q
    exact ⟨env, ms, F, S, hs, st, h.bind fun x S1 v H1 ms1 F1 nx st1 rx h1 => by
      cases rx with
      | bl k =>
        refine ⟨k, rfl, ?_⟩
        cases k with
        | true => exact iteT ⟨env, ms1, F1, S1, hs.mono nx, st1, h1⟩
        | false =>
          obtain ⟨d, e, q⟩ := h1 _ _ _ _ (Nx.refl _ _) st1 (.bl _)
          cases e
          exact iteF q
      | _ => exact h1.elim⟩)⟩
theorem s_orT {r : List Expr} (ha : PT X a (tT P W fa)) (hb : PW X (.BoolOp .Or (b :: r) pos) (tT P W fb)) : PW X (.BoolOp .Or (a :: b :: r) pos) (tT P W (orF fa fb)) :=
  ⟨fun wh pins s σ H Q I q => (pw_or ha hb).run wh pins s σ H Q I (by
    obtain ⟨env, ms, F, S, hs, st, h⟩ := q
    exact ⟨env, ms, F, S, hs, st, h.bind fun x S1 v H1 ms1 F1 nx st1 rx h1 => by
      cases rx with
      | bl k =>
        refine ⟨k, rfl, ?_⟩
        cases k with
        | true =>
          obtain ⟨d, e, q⟩ := h1 _ _ _ _ (Nx.refl _ _) st1 (.bl _)
          cases e
          exact iteT q
        | false => exact iteF ⟨env, ms1, F1, S1, hs.mono nx, st1, h1⟩
      | _ => exact h1.elim⟩)⟩
theorem s_ite {fr : Bool} (hc : PT X c (tT P W fc)) (ha : PE X a (tE P W fr fa)) (hb : PE X b (tE P W fr fb)) : PE X (.IfExp c a b pos) (tE P W fr (iteG fc fa fb)) :=
  (pe_ifExp hc ha hb).imp fun σ H Q ⟨env, ms, F, S, hs, st, h⟩ => ⟨env, ms, F, S, hs, st, h.bind fun x S1 v H1 ms1 F1 nx st1 rx h1 => by
    cases rx with
    | bl k =>
      refine ⟨k, rfl, ?_⟩
      cases k with
      | true => exact iteT ⟨env, ms1, F1, S1, hs.mono nx, st1, h1⟩
      | false => exact iteF ⟨env, ms1, F1, S1, hs.mono nx, st1, h1⟩
    | _ => exact h1.elim⟩
/-- a value as a test -/
theorem s_valT (ha : PE X a (tE P W false fa)) (he : ∀ whole, isTrue a X.env whole = (do let v ← whole; standAt a.pos; holding [v] (truthy v))) : PT X a (tT P W fa) :=
  (pt_val ha he).imp fun _ _ _ h => h
theorem s_neg (ha : PE X a (tE P W false fa)) : PE X (.UnaryOp .USub a pos) (tE P W false fun env S => (fa env S).bind fun x S => match x with | .int i => .ok (.int (-i)) S | _ => .bad) :=
  (pe_un un_neg ha).imp fun σ H Q ⟨env, ms, F, S, hs, st, h⟩ => ⟨env, ms, F, S, hs, st, h.bind fun x S1 v H1 ms1 F1 nx st1 rx h1 => by
    cases rx with
    | int i => exact ⟨i, rfl, h1 _ _ _ _ (Nx.refl _ _) st1 (.int _)⟩
    | _ => exact h1.elim⟩

/-! ### rows of expressions -/
def PostL (P : Pg) (ms : List Addr) (F : Hp) (Q : List V → Hp → Prop) (Ex : XQ) : R (List D) → Prop
  | .ok l S => ∀ vs H' ms' F', Nx ms F ms' F' → Sto P H' ms' F' S → RepL P ms' F' vs l → Q vs H'
  | .exc c S => ∀ H' ms' F', Nx ms F ms' F' → Sto P H' ms' F' S → Ex c H'
  | .bad => False
theorem PostL.nx {Q : List V → Hp → Prop} {Ex : XQ} {r : R (List D)} (x : Nx ms F ms' F') (h : PostL P ms F Q Ex r) : PostL P ms' F' Q Ex r := match r, h with
  | .ok l S, h => fun vs H2 ms2 F2 nx st => h vs H2 ms2 F2 (x.trans nx) st
  | .exc c S, h => fun H2 ms2 F2 nx st => h H2 ms2 F2 (x.trans nx) st
  | .bad, h => h
abbrev ExW (P : Pg) (W : WX) (σ : L2.St) : XQ := fun c H' => ∀ C, P.mg (P.cls c) = some (.ref C) → W (.ref C) none σ H'
def tA (P : Pg) (W : WX) (f : Env → Store → R (List D)) : TA := fun σ H Q => ∃ env ms F S, Slots P ms F σ env ∧ Sto P H ms F S ∧ PostL P ms F Q (ExW P W σ) (f env S)
theorem s_nil : PA X [] (tA P W fun _ S => .ok [] S) := pa_nil.imp fun σ H Q ⟨env, ms, F, S, hs, st, h⟩ => h [] H ms F (Nx.refl _ _) st .nil
theorem PostL.step {Q : List V → Hp → Prop} {Q' : VK} {Ex : XQ} {r : R D} {g : D → Store → R (List D)} (h : PostL P ms F Q Ex (r.bind g))
    (k : ∀ d S v H' ms' F', Nx ms F ms' F' → Sto P H' ms' F' S → Rep P ms' F' v d → PostL P ms' F' Q Ex (g d S) → Q' v H') : Post P ms F false Q' Ex r := match r, h with
  | .ok d S, h => fun v H' ms' F' nx st rv => k d S v H' ms' F' nx st rv (PostL.nx nx h)
  | .exc c S, h => h
  | .bad, h => h
theorem PostL.more {Q Q' : List V → Hp → Prop} {Ex : XQ} {r : R (List D)} {g : List D → Store → R (List D)} (h : PostL P ms F Q Ex (r.bind g))
    (k : ∀ d S v H' ms' F', Nx ms F ms' F' → Sto P H' ms' F' S → RepL P ms' F' v d → PostL P ms' F' Q Ex (g d S) → Q' v H') : PostL P ms F Q' Ex r := match r, h with
  | .ok d S, h => fun v H' ms' F' nx st rv => k d S v H' ms' F' nx st rv (PostL.nx nx h)
  | .exc c S, h => h
  | .bad, h => h
theorem Post.row {fr : Bool} {Q : VK} {Q' : List V → Hp → Prop} {Ex : XQ} {r : R (List D)} {g : List D → Store → R D} (h : Post P ms F fr Q Ex (r.bind g))
    (k : ∀ d S v H' ms' F', Nx ms F ms' F' → Sto P H' ms' F' S → RepL P ms' F' v d → Post P ms' F' fr Q Ex (g d S) → Q' v H') : PostL P ms F Q' Ex r := match r, h with
  | .ok d S, h => fun v H' ms' F' nx st rv => k d S v H' ms' F' nx st rv (Post.nx nx h)
  | .exc c S, h => h
  | .bad, h => h
theorem s_cons {es : List Expr} {fs : Env → Store → R (List D)} (ha : PE X a (tE P W false fa)) (hr : PA X es (tA P W fs)) (hs : starEach (a :: es) X.env = (false, eval a X.env) :: starEach es X.env) :
    PA X (a :: es) (tA P W fun env S => (fa env S).bind fun x S => (fs env S).bind fun l S => .ok (x :: l) S) :=
  (pa_cons ha hr hs).imp fun σ H Q ⟨env, ms, F, S, sl, st, h⟩ => ⟨env, ms, F, S, sl, st, h.step fun x S1 v H1 ms1 F1 nx st1 rx h1 =>
    ⟨env, ms1, F1, S1, sl.mono nx, st1, h1.more fun l S2 vs H2 ms2 F2 nx2 st2 rl h2 => h2 (v :: vs) H2 ms2 F2 (Nx.refl _ _) st2 (.cons (rx.mono nx2) rl)⟩⟩
/-- behind a row -/
def rowF (fs : Env → Store → R (List D)) (g : List D → Store → R D) : Env → Store → R D := fun env S => (fs env S).bind g
/-- by values, of a row -/
def rvN (P : Pg) (fr : Bool) (Ex : XQ) (app : List D → Store → R D) : List V → Hp → VK → Prop := fun vs H Q => ∃ ms F S l, Sto P H ms F S ∧ RepL P ms F vs l ∧ Post P ms F fr Q Ex (app l S)
theorem t_row {fs : Env → Store → R (List D)} {fr : Bool} {g : List D → Store → R D} {σ : L2.St} {H : Hp} {Q : VK} (h : tE P W fr (rowF fs g) σ H Q) :
    tA P W fs σ H fun vs H1 => rvN P fr (ExW P W σ) g vs H1 Q := by
  obtain ⟨env, ms, F, S, hs, st, h⟩ := h
  exact ⟨env, ms, F, S, hs, st, h.row fun l S1 vs H1 ms1 F1 nx st1 rl h1 => ⟨ms1, F1, S1, l, st1, rl, h1⟩⟩
theorem s_lst {es : List Expr} {fs : Env → Store → R (List D)} (h : PA X es (tA P W fs)) : PE X (.List es pos) (tE P W true (rowF fs fun l S => if okLen l.length then .ok (.lst l) S else .bad)) :=
  (pe_lst h).imp fun σ H Q ⟨env, ms, F, S, hs, st, h⟩ => ⟨env, ms, F, S, hs, st, h.row fun l S1 vs H1 ms1 F1 nx st1 rl h1 => by
    by_cases hz : okLen l.length = true
    · rw [if_pos hz] at h1
      refine ⟨?_, fun p hp => ?_⟩
      · rw [rl.length]
        exact Nat.le_trans (of_decide_eq_true hz) (by decide)
      · obtain ⟨s1, f⟩ := st1.fresh hp rl
        exact h1 p _ _ _ (Nx.refl _ _) s1 f
    · rw [if_neg hz] at h1
      exact h1.elim⟩
end
end SV
/-! SvD: operators, subscripts, slices, built-ins by values. -/
namespace SV
open PySem PySem.Spec PyProof.Rows L2
theorem okLen_le {n : Nat} (h : okLen n = true) : n ≤ sizeLine := Nat.le_trans (of_decide_eq_true h) (by decide)
theorem okLen_lt {n : Nat} (h : okLen n = true) : n < sizeLine := Nat.lt_of_le_of_lt (of_decide_eq_true h) (by decide)
/-- a tuple as the model makes it -/
abbrev tupO (us : List Value) : Obj := { cls := .type "tuple", data := .seq us.toArray }
variable {X : Cx} {pins : List (Addr × Obj)} {σ : L2.St} {H : Hp} {s : Shared} {P : Pg} {ms : List Addr} {F : Hp} {S : Store}
theorem inv_tup {xs : List V} {us : List Value} {t' : Nat} (I : Inv X pins σ H s) (r : Vals xs us) (hz : xs.length ≤ sizeLine) :
    Inv X pins σ (upd H s.heap.objs.size (.frz (tupO us) (.tup xs))) { s with heap := s.heap.push (tupO us), toks := t' } :=
  I.laid (fun b u e => Heap.get?_push_of_some _ e) (Nat.le_refl _) ⟨Heap.get?_push_size _ rfl, hz, us, r, IsTup.new _ _⟩
theorem rep_tup {p : Addr} {xs : List V} {us : List Value} {l : List D} (st : Sto P H ms F S) (hp : H p = none) (rl : RepL P ms F xs l) :
    ∃ F', Nx ms F ms F' ∧ Sto P (upd H p (.frz (tupO us) (.tup xs))) ms F' S ∧ Rep P ms F' (.ref p) (.tup l) := by
  obtain ⟨s1, nx⟩ := st.laid (o := .frz (tupO us) (.tup xs)) hp
  exact ⟨_, nx, s1, .tup upd_same rfl (rl.mono nx)⟩
/-- a new tuple is what is wanted -/
theorem ep_tup {xs : List V} {us : List Value} {t' : Nat} {l : List D} {fr : Bool} {Q : VK} (I : Inv X pins σ H s) (r : Vals xs us) (st : Sto P H ms F S) (rl : RepL P ms F xs l) (hz : l.length ≤ sizeLine)
    (h : Val P ms F fr Q (.tup l) S) : EP X pins σ Q (.ref s.heap.objs.size) { s with heap := s.heap.push (tupO us), toks := t' } := by
  have hn : H s.heap.objs.size = none := I.hok.fresh (Nat.le_refl _)
  obtain ⟨F', nx, s1, rp⟩ := rep_tup (us := us) st hn rl
  have h' : Ord P ms F Q (.tup l) S := by
    unfold Val at h
    split at h
    · next e => cases e
    · exact h
  exact ⟨.ref s.heap.objs.size, _, inv_tup I r (by rw [rl.length]; exact hz), rfl, h' _ _ _ _ nx s1 rp⟩
theorem sq_tup {a : Addr} {o : Obj} {xs : List V} (st : Sto P H ms F S) (e : F a = some (.frz o (.tup xs))) : SqT P.K H a xs := .inl (.inr ⟨o, st.sub _ _ e⟩)
section
variable {es : List Expr} {pos : Pos} {fs : Env → Store → R (List D)} {W : WX}
theorem s_tup {x1} (h : PA X es (tA P W fs)) : PE X (.Tuple es x1 pos) (tE P W false (rowF fs fun l S => if okLen l.length then .ok (.tup l) S else .bad)) := by
  refine ⟨fun pins s σ H Q I hq => ?_⟩
  have hq := t_row hq
  refine wpAny_Tuple_spliced (thn (h.run pos pins s σ H _ I hq) fun us s1 ⟨xs, H1, I1, r, ms, F, S, l, st, rl, q⟩ => ?_)
  dsimp only at q
  by_cases hz : okLen l.length = true
  · rw [if_pos hz] at q
    exact ⟨by rw [← r.length, rl.length]; exact okLen_le hz, ep_tup (fr := false) I1 r st rl (okLen_le hz) q⟩
  · rw [if_neg hz] at q
    exact q.elim
end

/-! ### operators -/
theorem o_add : OpR X (binaryOp .Add) (rv2 P true Op2.add.app) := by
  intro pins s σ H x y v u Q I rx ry h
  obtain ⟨ms, F, S, dx, dy, Ex, st, hx, hy, h⟩ := h
  cases hx with
  | int i =>
    cases hy with
    | int j => exact op_add pins s σ H _ _ v u Q I rx ry ⟨i, j, rfl, rfl, h _ _ _ _ (Nx.refl _ _) st (.int _)⟩
    | _ => exact h.elim
  | str i =>
    cases hy with
    | str j =>
      have h : Post P ms F true Q Ex (if okLen (i.length + j.length) then .ok (.str (i ++ j)) S else .bad) := h
      by_cases hz : okLen (i.length + j.length) = true
      · rw [if_pos hz] at h
        exact op_add_str pins s σ H _ _ v u Q I rx ry ⟨i, j, rfl, rfl, okLen_le hz, h _ _ _ _ (Nx.refl _ _) st (.str _)⟩
      · rw [if_neg hz] at h
        exact h.elim
    | _ => exact h.elim
  | @lst a xs l e1 r1 =>
    cases hy with
    | @lst b zs m e2 r2 =>
      have h : Post P ms F true Q Ex (if okLen (l.length + m.length) then .ok (.lst (l ++ m)) S else .bad) := h
      by_cases hz : okLen (l.length + m.length) = true
      · rw [if_pos hz] at h
        refine op_cat pins s σ H _ _ v u Q I rx ry ⟨a, b, xs, zs, rfl, rfl, st.sub _ _ e1, st.sub _ _ e2, by rw [r1.length, r2.length]; exact okLen_le hz, fun p hp => ?_⟩
        obtain ⟨s1, f⟩ := st.fresh hp (r1.append r2)
        exact h p _ _ _ (Nx.refl _ _) s1 f
      · rw [if_neg hz] at h
        exact h.elim
    | _ => exact h.elim
  | @tup a o xs l e1 d1 r1 =>
    cases hy with
    | @tup b o2 zs m e2 d2 r2 =>
      have h : Post P ms F true Q Ex (if okLen (l.length + m.length) then .ok (.tup (l ++ m)) S else .bad) := h
      by_cases hz : okLen (l.length + m.length) = true
      · rw [if_pos hz] at h
        cases rx
        cases ry
        obtain ⟨its, v1, p1, _⟩ := I.tuple (X := X) (a := a) (xs := xs) (.inl (.inr ⟨o, st.sub _ _ e1⟩))
        obtain ⟨its2, v2, p2, _⟩ := I.tuple (X := X) (a := b) (xs := zs) (.inl (.inr ⟨o2, st.sub _ _ e2⟩))
        by_cases h0 : its = []
        · subst h0
          cases v1
          cases r1
          exact cat_tup0 p1 p2 ⟨.ref b, H, I, rfl, h _ _ _ _ (Nx.refl _ _) st (.tup e2 d2 r2)⟩
        · have hlen : its.length + its2.length ≤ sizeLine := by
            rw [← v1.length, ← v2.length, r1.length, r2.length]
            exact okLen_le hz
          refine HT.cat_tup p1 p2 h0 (fun z => ?_) (fun z => ?_) hlen
          · subst z
            cases v2
            cases r2
            rw [List.append_nil] at h
            exact ⟨.ref a, H, I, rfl, h _ _ _ _ (Nx.refl _ _) st (.tup e1 d1 r1)⟩
          · exact ep_tup (fr := true) (t' := s.toks) I (v1.append v2) st (r1.append r2) (by rw [List.length_append]; exact okLen_le hz) h
      · rw [if_neg hz] at h
        exact h.elim
    | _ => exact h.elim
  | _ => cases hy <;> exact h.elim
theorem o_sub : OpR X (binaryOp .Sub) (rv2 P true Op2.sub.app) := by
  intro pins s σ H x y v u Q I rx ry h
  obtain ⟨ms, F, S, dx, dy, Ex, st, hx, hy, h⟩ := h
  cases hx with
  | int i =>
    cases hy with
    | int j => exact op_sub pins s σ H _ _ v u Q I rx ry ⟨i, j, rfl, rfl, h _ _ _ _ (Nx.refl _ _) st (.int _)⟩
    | _ => exact h.elim
  | _ => cases hy <;> exact h.elim
theorem mul_okS {z : Str} {j : Int} (h1 : 0 ≤ j) (h2 : j ≤ 1000) (h3 : z.length ≤ 1000) : MulOk z j := by
  refine ⟨by rw [Bool.or_eq_false_iff, decide_eq_false_iff_not, decide_eq_false_iff_not]; constructor <;> omega, fun h4 _ h5 => ?_, fun h4 _ => ?_⟩
  · have e : ((z.length : Nat) : Int) * j ≤ 2 ^ 63 - 1 := by
      have := Int.mul_le_mul (show ((z.length : Nat) : Int) ≤ 1000 by omega) h2 h1 (by decide)
      exact Int.le_trans this (by decide)
    have := (Int.le_ediv_iff_mul_le (show 0 < j by omega)).mpr e
    omega
  · have e : z.length * j.toNat ≤ 1000 * 1000 := Nat.mul_le_mul h3 (by omega)
    unfold Builtin.Str.tooLong
    refine decide_eq_false fun q => ?_
    have : (1000 * 1000 : Nat) < 16000000 := by decide
    rw [sizeLine_eq] at q
    omega
theorem o_mul : OpR X (binaryOp .Mult) (rv2 P true Op2.mul.app) := by
  intro pins s σ H x y v u Q I rx ry h
  obtain ⟨ms, F, S, dx, dy, Ex, st, hx, hy, h⟩ := h
  cases hx with
  | int i =>
    cases hy with
    | int j =>
      have h : Post P ms F true Q Ex (if (decide (-(2 ^ 64) < i ∧ i < 2 ^ 64) || decide (-(2 ^ 64) < j ∧ j < 2 ^ 64)) = true then .ok (.int (i * j)) S else .bad) := h
      by_cases hz : (decide (-(2 ^ 64) < i ∧ i < 2 ^ 64) || decide (-(2 ^ 64) < j ∧ j < 2 ^ 64)) = true
      · rw [if_pos hz] at h
        refine op_mul pins s σ H _ _ v u Q I rx ry ⟨i, j, rfl, rfl, ?_, h _ _ _ _ (Nx.refl _ _) st (.int _)⟩
        rcases Bool.or_eq_true _ _ |>.mp hz with z | z
        · exact .inl (of_decide_eq_true z)
        · exact .inr (of_decide_eq_true z)
      · rw [if_neg hz] at h
        exact h.elim
    | _ => exact h.elim
  | str z =>
    cases hy with
    | int j =>
      have h : Post P ms F true Q Ex (if 0 ≤ j ∧ j ≤ 1000 ∧ z.length ≤ 1000 then .ok (.str (Txt.mul z j)) S else .bad) := h
      by_cases hz : 0 ≤ j ∧ j ≤ 1000 ∧ z.length ≤ 1000
      · rw [if_pos hz] at h
        obtain ⟨t, rfl⟩ := rx
        obtain ⟨t', rfl⟩ := ry
        have h2 : Ord P ms F Q (.str (Txt.mul z j)) S := h
        refine SB.mul (mul_okS hz.1 hz.2.1 hz.2.2) fun t2 k => ⟨.str _, H, I.tok _, ⟨_, rfl⟩, h2 _ _ _ _ (Nx.refl _ _) st (.str _)⟩
      · rw [if_neg hz] at h
        exact h.elim
    | _ => exact h.elim
  | _ => cases hy <;> exact h.elim
theorem o_mod : OpR X (binaryOp .Mod) (rv2 P true Op2.mod.app) := by
  intro pins s σ H x y v u Q I rx ry h
  obtain ⟨ms, F, S, dx, dy, Ex, st, hx, hy, h⟩ := h
  cases hx with
  | int i =>
    cases hy with
    | int j =>
      have h : Post P ms F true Q Ex (if j = 0 then .bad else .ok (.int (i.fmod j)) S) := h
      by_cases hz : j = 0
      · rw [if_pos hz] at h
        exact h.elim
      · rw [if_neg hz] at h
        exact op_modN pins s σ H _ _ v u Q I rx ry ⟨i, j, rfl, rfl, hz, h _ _ _ _ (Nx.refl _ _) st (.int _)⟩
    | _ => exact h.elim
  | _ => cases hy <;> exact h.elim
theorem o_pow : OpR X (binaryOp .Pow) (rv2 P true Op2.pow.app) := by
  intro pins s σ H x y v u Q I rx ry h
  obtain ⟨ms, F, S, dx, dy, Ex, st, hx, hy, h⟩ := h
  cases hx with
  | int i =>
    cases hy with
    | int j =>
      have h : Post P ms F true Q Ex (if 0 ≤ j ∧ j ≤ 1000000 ∧ i.natAbs < 2 ^ 64 then .ok (.int (i ^ j.toNat)) S else .bad) := h
      by_cases hz : 0 ≤ j ∧ j ≤ 1000000 ∧ i.natAbs < 2 ^ 64
      · rw [if_pos hz] at h
        exact op_pow pins s σ H _ _ v u Q I rx ry ⟨i, j, rfl, rfl, hz, h _ _ _ _ (Nx.refl _ _) st (.int _)⟩
      · rw [if_neg hz] at h
        exact h.elim
    | _ => exact h.elim
  | _ => cases hy <;> exact h.elim
end SV
/-! SvE: comparisons, subscripts, slices, built-ins by values. -/
namespace SV
open PySem PySem.Spec PyProof.Rows L2
variable {X : Cx} {pins : List (Addr × Obj)} {σ : L2.St} {H : Hp} {s : Shared} {P : Pg} {ms : List Addr} {F : Hp} {S : Store}
theorem dp_ints {K : PySem.W.Frag} {H : Hp} : ∀ l : List Int, DpAll K H (l.map V.int) (l.map PyData.int)
  | [] => .nil
  | i :: l => .cons (.int i) (dp_ints l)
theorem pys_map : ∀ l : List D, D.pys l = l.map D.py
  | [] => rfl
  | d :: l => by rw [D.pys, pys_map l]; rfl
theorem pures_all : ∀ l : List D, D.pures l = l.all D.pure
  | [] => rfl
  | d :: l => by rw [D.pures, pures_all l]; rfl
mutual
theorem plain_py : ∀ d : D, d.py.plain = true
  | .non => rfl
  | .bl _ => rfl
  | .int _ => rfl
  | .str _ => rfl
  | .tup l => by rw [D.py, PyData.plain]; exact plain_pys l
  | .lst l => by rw [D.py, PyData.plain]; exact plain_pys l
  | .scr l => by rw [D.py, PyData.plain]; exact plain_ints l
  | .loc _ => rfl
  | .fn _ => rfl
theorem plain_pys : ∀ l : List D, PyData.plainAll (D.pys l) = true
  | [] => rfl
  | d :: l => by rw [D.pys, PyData.plainAll, plain_py d, plain_pys l]; rfl
theorem plain_ints : ∀ l : List Int, PyData.plainAll (l.map PyData.int) = true
  | [] => rfl
  | d :: l => by rw [List.map_cons, PyData.plainAll, plain_ints l]; rfl
end
theorem rd_dp {v : V} {d : D} (st : Sto P H ms F S) (r : Rep P ms F v d) (p : (d.rd S).pure = true) : Dp P.K H v (d.rd S).py := by
  cases r with
  | @loc a n e =>
    cases q : S[n]? with
    | none =>
      simp only [D.rd, q] at p
      simp [D.pure] at p
    | some c =>
      cases c with
      | lst l =>
        simp only [D.rd, q] at p ⊢
        obtain ⟨_, xs, h1, h2⟩ := st.cell n a _ e q
        simp only [D.pure] at p
        rw [D.py]
        exact .lst (.inl (.inl h1)) (h2.dp st.sub p)
      | _ =>
        simp only [D.rd, q] at p
        simp [D.pure] at p
  | @scr a l h =>
    simp only [D.rd, D.py, pys_map, List.map_map]
    exact .lst (st.sub.seq h) (dp_ints l)
  | _ => exact Rep.dp (ms := ms) st.sub p (by constructor <;> assumption)
/-- what is read as a sequence -/
theorem items_sq {v : V} {d : D} {l : List D} (st : Sto P H ms F S) (r : Rep P ms F v d) (e : d.items S = some l) :
    ∃ a xs, v = .ref a ∧ (SqL P.K H a xs ∨ SqT P.K H a xs) ∧ RepL P ms F xs l := by
  cases r with
  | tup h1 h2 h3 =>
    cases e
    exact ⟨_, _, rfl, .inr (sq_tup st h1), h3⟩
  | lst h1 h3 =>
    cases e
    exact ⟨_, _, rfl, .inl (.inl (.inl (st.sub _ _ h1))), h3⟩
  | scr h1 =>
    cases e
    exact ⟨_, _, rfl, .inl (st.sub.seq h1), RepL.ints⟩
  | @loc a n h =>
    cases q : S[n]? with
    | none =>
      simp only [D.items, q] at e
      cases e
    | some c =>
      cases c with
      | lst m =>
        simp only [D.items, q] at e
        cases e
        obtain ⟨_, xs, h1, h2⟩ := st.cell n a _ h q
        exact ⟨a, xs, rfl, .inl (.inl (.inl h1)), h2⟩
      | _ =>
        simp only [D.items, q] at e
        cases e
  | _ => cases e

/-! ### == and the others -/
theorem min_dep {a b u : Nat} (ha : a ≤ 30) (hu : u + 64 < cLine) : u + 1 + min a b < cLine := by omega
theorem o_eq (hK : P.K = X.K) (hu : X.A.units + 64 < cLine) : OpR X (compareOp .Eq) (rv2 P false (cmA .eq)) := by
  intro pins s σ H x y v u Q I rx ry h
  obtain ⟨ms, F, S, dx, dy, Ex, st, hx, hy, h⟩ := h
  have h : Post P ms F false Q Ex (match eqD dx dy S with | some c => .ok (.bl c) S | none => .bad) := h
  unfold eqD at h
  dsimp only at h
  by_cases c : ((dx.rd S).pure && (dy.rd S).pure && decide ((PyData.depth (dx.rd S).py) ≤ 30) && decide ((PyData.depth (dy.rd S).py) ≤ 30)) = true
  · rw [if_pos c] at h
    simp only [Bool.and_eq_true, decide_eq_true_eq] at c
    obtain ⟨⟨⟨c1, c2⟩, c3⟩, c4⟩ := c
    obtain ⟨as, r1⟩ := Dp.reads I _ x v (hK ▸ rd_dp st hx c1) rx
    obtain ⟨bs, r2⟩ := Dp.reads I _ y u (hK ▸ rd_dp st hy c2) ry
    exact SeqAt.eq_plain r1 r2 (plain_py _) (plain_py _) (by omega) ⟨.bl _, H, I, rfl, h _ _ _ _ (Nx.refl _ _) st (.bl _)⟩
  · rw [if_neg c] at h
    exact h.elim
theorem o_ne (hK : P.K = X.K) (hu : X.A.units + 64 < cLine) : OpR X (compareOp .NotEq) (rv2 P false (cmA .ne)) := by
  intro pins s σ H x y v u Q I rx ry h
  obtain ⟨ms, F, S, dx, dy, Ex, st, hx, hy, h⟩ := h
  have h : Post P ms F false Q Ex (match (eqD dx dy S).map (!·) with | some c => .ok (.bl c) S | none => .bad) := h
  unfold eqD at h
  dsimp only at h
  by_cases c : ((dx.rd S).pure && (dy.rd S).pure && decide ((PyData.depth (dx.rd S).py) ≤ 30) && decide ((PyData.depth (dy.rd S).py) ≤ 30)) = true
  · rw [if_pos c] at h
    simp only [Bool.and_eq_true, decide_eq_true_eq] at c
    obtain ⟨⟨⟨c1, c2⟩, c3⟩, c4⟩ := c
    obtain ⟨as, r1⟩ := Dp.reads I _ x v (hK ▸ rd_dp st hx c1) rx
    obtain ⟨bs, r2⟩ := Dp.reads I _ y u (hK ▸ rd_dp st hy c2) ry
    exact SeqAt.ne_plain r1 r2 (plain_py _) (plain_py _) (by omega) ⟨.bl _, H, I, rfl, h _ _ _ _ (Nx.refl _ _) st (.bl _)⟩
  · rw [if_neg c] at h
    exact h.elim
/-- what an order asks -/
theorem ltD_some {x y : D} {b : Bool} (h : ltD x y = some b) : x.pure = true ∧ y.pure = true ∧ PySem.W.alike x.py y.py = true ∧ PyData.depth x.py ≤ 30 ∧ x.py ≠ .none ∧ b = PySem.W.dataLt x.py y.py := by
  unfold ltD at h
  by_cases c : (x.pure && y.pure && PySem.W.alike x.py y.py && decide ((PyData.depth x.py) ≤ 30) && !isNon x) = true
  · rw [if_pos c] at h
    simp only [Bool.and_eq_true, decide_eq_true_eq] at c
    obtain ⟨⟨⟨⟨c1, c2⟩, c3⟩, c4⟩, c5⟩ := c
    refine ⟨c1, c2, c3, c4, fun e => ?_, (Option.some.inj h).symm⟩
    cases x <;> simp_all [D.py, D.pure, isNon]
  · rw [if_neg c] at h
    cases h
theorem o_lt (hK : P.K = X.K) (hu : X.A.units + 64 < cLine) : OpR X (compareOp .Lt) (rv2 P false (cmA .lt)) := by
  intro pins s σ H x y v u Q I rx ry h
  obtain ⟨ms, F, S, dx, dy, Ex, st, hx, hy, h⟩ := h
  have gen : Post P ms F false Q Ex (match ltD dx dy with | some c => .ok (.bl c) S | none => .bad) → wpAny (model X.prog X.w) X.A (compareOp .Lt v u) (EP X pins σ Q) X.xe s := fun h => by
    cases c : ltD dx dy with
    | none =>
      rw [c] at h
      exact h.elim
    | some b =>
      rw [c] at h
      obtain ⟨c1, c2, c3, c4, c5, rfl⟩ := ltD_some c
      obtain ⟨as, r1⟩ := Dp.reads I _ x v (hK ▸ Rep.dp st.sub c1 hx) rx
      obtain ⟨bs, r2⟩ := Dp.reads I _ y u (hK ▸ Rep.dp st.sub c2 hy) ry
      exact PySem.W.lt_data r1 r2 c3 c5 (by omega) ⟨.bl _, H, I, rfl, h _ _ _ _ (Nx.refl _ _) st (.bl _)⟩
  cases dx with
  | int i =>
    cases dy with
    | int j =>
      cases hx
      cases hy
      exact op_lt pins s σ H _ _ v u Q I rx ry ⟨i, j, rfl, rfl, h _ _ _ _ (Nx.refl _ _) st (.bl _)⟩
    | _ => exact gen h
  | _ => exact gen h
theorem o_gt (hK : P.K = X.K) (hu : X.A.units + 64 < cLine) : OpR X (compareOp .Gt) (rv2 P false (cmA .gt)) := by
  intro pins s σ H x y v u Q I rx ry h
  obtain ⟨ms, F, S, dx, dy, Ex, st, hx, hy, h⟩ := h
  have gen : Post P ms F false Q Ex (match ltD dy dx with | some c => .ok (.bl c) S | none => .bad) → wpAny (model X.prog X.w) X.A (compareOp .Gt v u) (EP X pins σ Q) X.xe s := fun h => by
    cases c : ltD dy dx with
    | none =>
      rw [c] at h
      exact h.elim
    | some b =>
      rw [c] at h
      obtain ⟨c1, c2, c3, c4, c5, rfl⟩ := ltD_some c
      obtain ⟨as, r1⟩ := Dp.reads I _ x v (hK ▸ Rep.dp st.sub c2 hx) rx
      obtain ⟨bs, r2⟩ := Dp.reads I _ y u (hK ▸ Rep.dp st.sub c1 hy) ry
      exact PySem.W.gt_data r1 r2 (by rw [PySem.W.alike_comm]; exact c3) (PySem.W.ne_none_both c3 c5) (by omega) ⟨.bl _, H, I, rfl, h _ _ _ _ (Nx.refl _ _) st (.bl _)⟩
  cases dx with
  | int i =>
    cases dy with
    | int j =>
      cases hx
      cases hy
      exact op_gt pins s σ H _ _ v u Q I rx ry ⟨i, j, rfl, rfl, h _ _ _ _ (Nx.refl _ _) st (.bl _)⟩
    | _ => exact gen h
  | _ => exact gen h
theorem o_le (hK : P.K = X.K) (hu : X.A.units + 64 < cLine) : OpR X (compareOp .LtE) (rv2 P false (cmA .le)) := by
  intro pins s σ H x y v u Q I rx ry h
  obtain ⟨ms, F, S, dx, dy, Ex, st, hx, hy, h⟩ := h
  have gen : Post P ms F false Q Ex (match (ltD dy dx).map (!·) with | some c => .ok (.bl c) S | none => .bad) → wpAny (model X.prog X.w) X.A (compareOp .LtE v u) (EP X pins σ Q) X.xe s := fun h => by
    cases c : ltD dy dx with
    | none =>
      rw [c] at h
      exact h.elim
    | some b =>
      rw [c] at h
      obtain ⟨c1, c2, c3, c4, c5, rfl⟩ := ltD_some c
      obtain ⟨as, r1⟩ := Dp.reads I _ x v (hK ▸ Rep.dp st.sub c2 hx) rx
      obtain ⟨bs, r2⟩ := Dp.reads I _ y u (hK ▸ Rep.dp st.sub c1 hy) ry
      exact PySem.W.le_data r1 r2 (by rw [PySem.W.alike_comm]; exact c3) (PySem.W.ne_none_both c3 c5) (by omega) ⟨.bl _, H, I, rfl, h _ _ _ _ (Nx.refl _ _) st (.bl _)⟩
  cases dx with
  | int i =>
    cases dy with
    | int j =>
      cases hx
      cases hy
      exact op_le pins s σ H _ _ v u Q I rx ry ⟨i, j, rfl, rfl, h _ _ _ _ (Nx.refl _ _) st (.bl _)⟩
    | _ => exact gen h
  | _ => exact gen h
theorem o_ge (hK : P.K = X.K) (hu : X.A.units + 64 < cLine) : OpR X (compareOp .GtE) (rv2 P false (cmA .ge)) := by
  intro pins s σ H x y v u Q I rx ry h
  obtain ⟨ms, F, S, dx, dy, Ex, st, hx, hy, h⟩ := h
  have gen : Post P ms F false Q Ex (match (ltD dx dy).map (!·) with | some c => .ok (.bl c) S | none => .bad) → wpAny (model X.prog X.w) X.A (compareOp .GtE v u) (EP X pins σ Q) X.xe s := fun h => by
    cases c : ltD dx dy with
    | none =>
      rw [c] at h
      exact h.elim
    | some b =>
      rw [c] at h
      obtain ⟨c1, c2, c3, c4, c5, rfl⟩ := ltD_some c
      obtain ⟨as, r1⟩ := Dp.reads I _ x v (hK ▸ Rep.dp st.sub c1 hx) rx
      obtain ⟨bs, r2⟩ := Dp.reads I _ y u (hK ▸ Rep.dp st.sub c2 hy) ry
      exact PySem.W.ge_data r1 r2 c3 c5 (by omega) ⟨.bl _, H, I, rfl, h _ _ _ _ (Nx.refl _ _) st (.bl _)⟩
  cases dx with
  | int i =>
    cases dy with
    | int j =>
      cases hx
      cases hy
      exact op_ge pins s σ H _ _ v u Q I rx ry ⟨i, j, rfl, rfl, h _ _ _ _ (Nx.refl _ _) st (.bl _)⟩
    | _ => exact gen h
  | _ => exact gen h
theorem non_v {v : V} {d : D} (r : Rep P ms F v d) : isNon d = decide (v = .non) := by
  cases r <;> first | rfl | exact (decide_eq_false (fun z => nomatch z)).symm
theorem o_is : OpR X (compareOp .Is) (rv2 P false (cmA .is)) := by
  intro pins s σ H x y v u Q I rx ry h
  obtain ⟨ms, F, S, dx, dy, Ex, st, hx, hy, h⟩ := h
  cases hy with
  | non =>
    refine op_isN pins s σ H _ _ v u Q I rx ry ⟨rfl, ?_⟩
    rw [← non_v hx]
    cases hx <;> exact h _ _ _ _ (Nx.refl _ _) st (.bl _)
  | _ => cases hx <;> exact h.elim
theorem o_isnot : OpR X (compareOp .IsNot) (rv2 P false (cmA .isnot)) := by
  intro pins s σ H x y v u Q I rx ry h
  obtain ⟨ms, F, S, dx, dy, Ex, st, hx, hy, h⟩ := h
  cases hy with
  | non =>
    refine op_notN pins s σ H _ _ v u Q I rx ry ⟨rfl, ?_⟩
    rw [← non_v hx]
    cases hx <;> exact h _ _ _ _ (Nx.refl _ _) st (.bl _)
  | _ => cases hx <;> exact h.elim
/-- a sequence as data -/
theorem items_dp {v : V} {d : D} {l : List D} (st : Sto P H ms F S) (r : Rep P ms F v d) (e : d.items S = some l) (p : D.pures l = true) :
    Dp P.K H v (.list (D.pys l)) ∨ Dp P.K H v (.tuple (D.pys l)) := by
  obtain ⟨a, xs, rfl, h | h, r⟩ := items_sq st r e
  · exact .inl (.lst h (r.dp st.sub p))
  · exact .inr (.tup h (r.dp st.sub p))
theorem inD_some {x y : D} {S : Store} {l : List D} {b : Bool} (e : y.items S = some l) (h : inD x y S = some b) :
    x.pure = true ∧ D.pures l = true ∧ PyData.depth x.py ≤ 30 ∧ PyData.depthAll (D.pys l) ≤ 30 ∧ b = (D.pys l).any fun d => PyData.eqv d x.py := by
  unfold inD at h
  rw [e] at h
  dsimp only at h
  by_cases c : (x.pure && D.pures l && decide ((PyData.depth x.py) ≤ 30) && decide (PyData.depthAll (D.pys l) ≤ 30)) = true
  · rw [if_pos c] at h
    simp only [Bool.and_eq_true, decide_eq_true_eq] at c
    obtain ⟨⟨⟨c1, c2⟩, c3⟩, c4⟩ := c
    exact ⟨c1, c2, c3, c4, (Option.some.inj h).symm⟩
  · rw [if_neg c] at h
    cases h
theorem inD_str {x y : D} {S : Store} {b : Bool} (e : y.items S = none) (h : inD x y S = some b) : ∃ i j, x = .str i ∧ y = .str j ∧ b = !(Builtin.Str.occurrences j i 0 j.length 1).isEmpty := by
  unfold inD at h
  rw [e] at h
  cases x <;> cases y <;> first | cases h | skip
  exact ⟨_, _, rfl, rfl, rfl⟩
theorem o_in (hK : P.K = X.K) (hu : X.A.units + 64 < cLine) : OpR X (compareOp .In) (rv2 P false (cmA .isin)) := by
  intro pins s σ H x y v u Q I rx ry h
  obtain ⟨ms, F, S, dx, dy, Ex, st, hx, hy, h⟩ := h
  have h : Post P ms F false Q Ex (match inD dx dy S with | some c => .ok (.bl c) S | none => .bad) := by
    cases dx <;> exact h
  cases c : inD dx dy S with
  | none =>
    rw [c] at h
    exact h.elim
  | some b =>
    rw [c] at h
    cases q : dy.items S with
    | some l =>
      obtain ⟨c1, c2, c3, c4, rfl⟩ := inD_some q c
      obtain ⟨as, r1⟩ := Dp.reads I _ x v (hK ▸ Rep.dp st.sub c1 hx) rx
      rcases items_dp st hy q c2 with g | g
      · obtain ⟨bs, r2⟩ := Dp.reads I _ y u (hK ▸ g) ry
        exact SeqAt.in_list_data r2 r1 (plain_pys _) (plain_py _) (min_dep c4 hu) ⟨.bl _, H, I, rfl, h _ _ _ _ (Nx.refl _ _) st (.bl _)⟩
      · obtain ⟨bs, r2⟩ := Dp.reads I _ y u (hK ▸ g) ry
        exact SeqAt.in_tuple_data r2 r1 (plain_pys _) (plain_py _) (min_dep c4 hu) ⟨.bl _, H, I, rfl, h _ _ _ _ (Nx.refl _ _) st (.bl _)⟩
    | none =>
      obtain ⟨i, j, rfl, rfl, rfl⟩ := inD_str q c
      cases hx
      cases hy
      exact op_in_str pins s σ H _ _ v u Q I rx ry ⟨i, j, rfl, rfl, h _ _ _ _ (Nx.refl _ _) st (.bl _)⟩
theorem o_notin (hK : P.K = X.K) (hu : X.A.units + 64 < cLine) : OpR X (compareOp .NotIn) (rv2 P false (cmA .notin)) := by
  intro pins s σ H x y v u Q I rx ry h
  obtain ⟨ms, F, S, dx, dy, Ex, st, hx, hy, h⟩ := h
  have h : Post P ms F false Q Ex (match (inD dx dy S).map (!·) with | some c => .ok (.bl c) S | none => .bad) := by
    cases dx <;> exact h
  cases c : inD dx dy S with
  | none =>
    rw [c] at h
    exact h.elim
  | some b =>
    rw [c] at h
    cases q : dy.items S with
    | some l =>
      obtain ⟨c1, c2, c3, c4, rfl⟩ := inD_some q c
      obtain ⟨as, r1⟩ := Dp.reads I _ x v (hK ▸ Rep.dp st.sub c1 hx) rx
      rcases items_dp st hy q c2 with g | g
      · obtain ⟨bs, r2⟩ := Dp.reads I _ y u (hK ▸ g) ry
        exact SeqAt.notIn_list_data r2 r1 (plain_pys _) (plain_py _) (min_dep c4 hu) ⟨.bl _, H, I, rfl, h _ _ _ _ (Nx.refl _ _) st (.bl _)⟩
      · obtain ⟨bs, r2⟩ := Dp.reads I _ y u (hK ▸ g) ry
        exact SeqAt.notIn_tuple_data r2 r1 (plain_pys _) (plain_py _) (min_dep c4 hu) ⟨.bl _, H, I, rfl, h _ _ _ _ (Nx.refl _ _) st (.bl _)⟩
    | none =>
      obtain ⟨i, j, rfl, rfl, rfl⟩ := inD_str q c
      cases hx
      cases hy
      exact op_notin_str pins s σ H _ _ v u Q I rx ry ⟨i, j, rfl, rfl, h _ _ _ _ (Nx.refl _ _) st (.bl _)⟩

/-! ### a[b], a[b:c] -/
theorem atI_rep {α β : Type} {xs : List α} {l : List β} {i : Int} {d : β} {Rr : α → β → Prop} (hl : xs.length = l.length) (hg : ∀ (j : Nat) (d : β), l[j]? = some d → ∃ v, xs[j]? = some v ∧ Rr v d) (e : atI l i = some d) : ∃ v, atI xs i = some v ∧ Rr v d := by
  unfold atI at e ⊢
  rw [hl]
  cases q : ixN l.length i with
  | none =>
    rw [q] at e
    cases e
  | some j =>
    rw [q] at e
    exact hg j d e
theorem x_at (hK : P.K = X.K) : IxR X (rv2 P false atD) := by
  intro value slice pins s σ H x y v u Q I rx ry h hs
  obtain ⟨ms, F, S, dx, dy, Ex, st, hx, hy, h⟩ := h
  cases hy with
  | int i =>
    have gen : Post P ms F false Q Ex (match dx.items S with | some l => (match atI l i with | some d => .ok d S | none => .bad) | none => .bad) → wpAny (model X.prog X.w) X.A (subscriptTail value slice v u) (EP X pins σ Q) X.xe s := fun h => by
      cases q : dx.items S with
      | none =>
        rw [q] at h
        exact h.elim
      | some l =>
        rw [q] at h
        dsimp only at h
        cases q2 : atI l i with
        | none =>
          rw [q2] at h
          exact h.elim
        | some d =>
          rw [q2] at h
          obtain ⟨a, xs, rfl, sq, r⟩ := items_sq st hx q
          obtain ⟨w, hw, rw'⟩ := atI_rep (Rr := Rep P ms F) r.length (fun j d e => r.get e) q2
          rcases sq with sq | sq
          · exact ix_seq value slice pins s σ H _ _ v u Q I rx ry (.inl ⟨a, xs, i, w, rfl, rfl, hK ▸ sq, hw, h _ _ _ _ (Nx.refl _ _) st rw'⟩) hs
          · exact ix_seq value slice pins s σ H _ _ v u Q I rx ry (.inr (.inl ⟨a, xs, i, w, rfl, rfl, hK ▸ sq, hw, h _ _ _ _ (Nx.refl _ _) st rw'⟩)) hs
    cases dx with
    | str z =>
      cases hx
      have h : Post P ms F false Q Ex (if okLen z.length then (match atI z.cps.toList i with | some c => .ok (sign c) S | none => .bad) else .bad) := h
      by_cases hz : okLen z.length = true
      · rw [if_pos hz] at h
        cases q2 : atI z.cps.toList i with
        | none =>
          rw [q2] at h
          exact h.elim
        | some c =>
          rw [q2] at h
          exact ix_seq value slice pins s σ H _ _ v u Q I rx ry (.inr (.inr ⟨z, i, c, rfl, rfl, okLen_le hz, q2, h _ _ _ _ (Nx.refl _ _) st (.str _)⟩)) hs
      · rw [if_neg hz] at h
        exact h.elim
    | _ => exact gen h
  | _ => cases hx <;> exact h.elim
def notSl : Expr → Bool
  | .Slice .. => false
  | _ => true
theorem plainIx {b : Expr} (h : notSl b = true) : PlainIx b := by
  cases b <;> first | (intro o i; rfl) | cases h
section
variable {a b : Expr} {fa fb : Env → Store → R D} {W : WX} {pos : Pos}
theorem s_idx (hK : P.K = X.K) (ha : PE X a (tE P W false fa)) (hb : PE X b (tE P W false fb)) (hs : notSl b = true) : PE X (.Subscript a b pos) (tE P W false (bin2 fa fb atD)) :=
  (pe_ix (x_at hK) ha hb (plainIx hs)).imp fun _ _ _ h => t_bin h
end
theorem cut_rep {xs : List V} {l : List D} (r : RepL P ms F xs l) (lo hi : Option Int) : RepL P ms F (cutV xs lo hi) (cutL l lo hi) := by
  unfold cutV cutL
  rw [r.length]
  exact (r.drop _).take _
theorem cut_len {α : Type} (l : List α) (lo hi : Option Int) : (cutL l lo hi).length ≤ l.length := by
  unfold cutL
  rw [List.length_take, List.length_drop]
  omega
def rvS (P : Pg) : V → Option Int → Option Int → Hp → VK → Prop := fun x lo hi H Q => ∃ ms F S d Ex, Sto P H ms F S ∧ Rep P ms F x d ∧ Post P ms F true Q Ex (cutD d lo hi S)
theorem x_cut (hK : P.K = X.K) : SlR X (rvS P) := by
  intro pins s σ H x v vl vu lo hi sl Q I rx hs pl pu h
  obtain ⟨ms, F, S, d, Ex, st, hx, h⟩ := h
  cases hx with
  | str z =>
    have h : Post P ms F true Q Ex (if okLen z.length then .ok (.str ⟨(cutL z.cps.toList lo hi).toArray⟩) S else .bad) := h
    by_cases hz : okLen z.length = true
    · rw [if_pos hz] at h
      have e : cutS z lo hi = ⟨(cutL z.cps.toList lo hi).toArray⟩ := by
        unfold cutS cutL
        have : z.cps.toList.length = z.length := by simp [Str.length]
        rw [this]
      exact sl_str pins s σ H _ v vl vu lo hi sl Q I rx hs pl pu ⟨z, rfl, okLen_le hz, by rw [e]; exact h _ _ _ _ (Nx.refl _ _) st (.str _)⟩
    · rw [if_neg hz] at h
      exact h.elim
  | @lst a xs l e r =>
    refine sl_list pins s σ H _ v vl vu lo hi sl Q I rx hs pl pu ⟨a, xs, rfl, .inl (.inl (st.sub _ _ e)), fun p hp => ?_⟩
    obtain ⟨s1, f⟩ := st.fresh hp (cut_rep r lo hi)
    exact h p _ _ _ (Nx.refl _ _) s1 f
  | @loc a n e =>
    cases q : S[n]? with
    | none =>
      simp only [cutD, q] at h
      exact h.elim
    | some c =>
      cases c with
      | lst l =>
        simp only [cutD, q] at h
        obtain ⟨_, xs, h1, h2⟩ := st.cell n a _ e q
        refine sl_list pins s σ H _ v vl vu lo hi sl Q I rx hs pl pu ⟨a, xs, rfl, .inl (.inl h1), fun p hp => ?_⟩
        obtain ⟨s1, f⟩ := st.fresh hp (cut_rep h2 lo hi)
        exact h p _ _ _ (Nx.refl _ _) s1 f
      | _ =>
        simp only [cutD, q] at h
        exact h.elim
  | @tup a o xs l e1 d1 r1 =>
    cases rx
    obtain ⟨its, r, ht, hz⟩ := I.tuple (X := X) (a := a) (xs := xs) (.inl (.inr ⟨o, st.sub _ _ e1⟩))
    have hlen : its.toArray.size = xs.length := by rw [List.size_toArray]; exact r.length.symm
    refine ⟨"tuple", _, PyProof.Rows.slot_tuple_getitem.lookup, ht.typeIs, ?_⟩
    by_cases hw : HT.sIx xs.length 0 lo = 0 ∧ HT.sIx xs.length xs.length hi = xs.length
    · have e : cutL l lo hi = l := by
        unfold cutL
        rw [← r1.length, hw.1, hw.2, List.drop_zero, Nat.sub_zero, r1.length, List.take_length]
      have h : Ord P ms F Q (.tup (cutL l lo hi)) S := h
      rw [e] at h
      exact getItem_tuple_whole ht hs pl pu (by rw [hlen]; exact hw) ⟨.ref a, H, I, rfl, h _ _ _ _ (Nx.refl _ _) st (.tup e1 d1 r1)⟩
    · refine HT.getItem_tuple_cut ht hs pl pu (by rw [hlen]; exact hw) ?_ (by rw [hlen]; exact hz)
      rw [hlen]
      exact ep_tup (fr := true) (t' := s.toks) I ((r.drop (HT.sIx xs.length 0 lo)).take (HT.sIx xs.length xs.length hi - HT.sIx xs.length 0 lo)) st (cut_rep r1 lo hi) (Nat.le_trans (cut_len _ _ _) (by rw [← r1.length]; exact hz)) h
  | _ => exact h.elim
end SV
/-! SvF: built-in functions by values. -/
namespace SV
open PySem PySem.Spec PyProof.Rows L2
variable {X : Cx} {pins : List (Addr × Obj)} {σ : L2.St} {H : Hp} {s : Shared} {P : Pg} {ms : List Addr} {F : Hp} {S : Store} {Ex : XQ}
/-- a value of the model that stands for data -/
def RepU (P : Pg) (ms : List Addr) (F : Hp) (u : Value) (d : D) : Prop := ∃ x, RelV x u ∧ Rep P ms F x d
theorem eachU {us : List Value} : ∀ {xs : List V} {l : List D}, Vals xs us → RepL P ms F xs l → PySem.W.EachIs (RepU P ms F) us l := by
  induction us with
  | nil => intro xs l r h; cases r; cases h; exact .nil
  | cons u us ih =>
    intro xs l r h
    cases r with
    | cons r1 r2 =>
      cases h with
      | cons h1 h2 => exact .cons ⟨_, r1, h1⟩ (ih r2 h2)
theorem uEach {us : List Value} {l : List D} (h : PySem.W.EachIs (RepU P ms F) us l) : ∃ xs, Vals xs us ∧ RepL P ms F xs l := by
  induction h with
  | nil => exact ⟨[], .nil, .nil⟩
  | cons h t ih =>
    obtain ⟨x, r, q⟩ := h
    obtain ⟨xs, rs, qs⟩ := ih
    exact ⟨x :: xs, .cons r rs, .cons q qs⟩
/-- items as data -/
theorem readsU (hK : P.K = X.K) (I : Inv X pins σ H s) (st : Same F H) {us : List Value} : ∀ {xs : List V} {l : List D}, D.pures l = true → Vals xs us → RepL P ms F xs l → PySem.W.EachIs (fun v d => ∃ as, Reads s.heap v (D.py d) as) us l := by
  induction us with
  | nil => intro xs l p r h; cases r; cases h; exact .nil
  | cons u us ih =>
    intro xs l p r h
    cases r with
    | cons r1 r2 =>
      cases h with
      | cons h1 h2 =>
        simp only [D.pures, Bool.and_eq_true] at p
        exact .cons (Dp.reads I _ _ _ (hK ▸ Rep.dp st p.1 h1) r1) (ih p.2 r2 h2)
theorem one_v {us : List Value} {v : V} (r : Vals [v] us) : ∃ u, us = [u] ∧ RelV v u := Vals.one r

/-! ### sorted -/
section
variable {prog : Program} {w : World} {A : Around} {E : Value → Shared → Prop}
theorem sorted_col {a : Addr} {l : List D} {Rr : Value → D → Prop} {Q : Value → Shared → Prop} (hal : PySem.W.AllAlike (l.map D.py)) (hk : PySem.W.Sortable (l.map D.py)) (hL : l.length ≤ sizeLine)
    (hu : ∀ d, d ∈ l → A.units + 2 + (D.py d).depth < cLine)
    (hcol : ∀ Q' : List Value → Shared → Prop, (∀ (s1 : Shared) (us : List Value), (∀ b o, s.heap.get? b = some o → s1.heap.get? b = some o) → s1.gens = s.gens → s1.os = s.os →
      PySem.W.EachIs Rr us l → PySem.W.EachIs (fun v d => ∃ as, Reads s1.heap v (D.py d) as) us l → Q' us s1) → wpAny (model prog w) A.in1 (collect (.ref a)) Q' E s)
    (h : ∀ (s1 s2 : Shared) (out : List Value) (c : Nat), (∀ b o, s.heap.get? b = some o → s1.heap.get? b = some o) → s1.gens = s.gens → s1.os = s.os → (∀ b o, s1.heap.get? b = some o → s2.heap.get? b = some o) → s2.gens = s1.gens → s2.os = s1.os →
      s2.heap.get? s1.heap.objs.size = some (seqObj "list" out.toArray c) → PySem.W.EachIs Rr out (sortD l) → Q (.ref s1.heap.objs.size) s2) : wpAny (model prog w) A (call (.builtin "sorted") [.ref a]) Q E s := by
  refine Calls.call_function_entry kind_sorted plain_sorted entry_sorted (args_sorted1 _) ?_
  unfold Builtin.«sorted»
  refine wpAny_bind (m := checkCount "sorted" 1 1 _) (wpAny_pure ?_)
  refine wpAny_bind (hcol _ fun s1 us k1 g1 o1 e1 r1 => ?_)
  have hL' : us.length ≤ sizeLine := by rw [e1.length]; exact hL
  refine wpAny_bind (wpAny_newList ?_ hL')
  have hoL : (s1.heap.push (seqObj "list" us.toArray 0)).get? s1.heap.objs.size = some (seqObj "list" us.toArray 0) := Heap.get?_push_size _ rfl
  have er : PySem.W.EachIs (fun v d => ∃ as, Reads (PySem.W.sortingHeap (s1.heap.push (seqObj "list" us.toArray 0)) s1.heap.objs.size us) v (D.py d) as) us l := r1.mono fun v d ⟨as, r⟩ =>
    ⟨as, PyProof.Rows.Reads.keeps (fun b o e => by
      have hlt := Heap.lt_size e
      exact PySem.W.sortingHeap_old (Nat.ne_of_lt hlt) (Heap.get?_push_of_some _ e)) r⟩
  have S := PySem.W.SortsAt.data (prog := prog) (w := w) (A := A.in1.in1) (s := { s1 with heap := PySem.W.sortingHeap (s1.heap.push (seqObj "list" us.toArray 0)) s1.heap.objs.size us }) (PySem.W.each_map (R := fun v d => ∃ as, Reads (PySem.W.sortingHeap (s1.heap.push (seqObj "list" us.toArray 0)) s1.heap.objs.size us) v d as) D.py er) hal hk
    (PySem.W.bound_map (A := A.in1.in1) hu)
  refine wpAny_bind (wpAny_holding (wpAny_call_entry slot_list_sort ⟨_, hoL, rfl⟩ entry_list_sort (PySem.W.list_sort_vals (s := { s1 with heap := s1.heap.push (seqObj "list" us.toArray 0) }) hoL S hL' ⟨_, rfl, ?_⟩) (args_list_sort _)))
  generalize hout : PySem.W.sortVals (PySem.W.dataKind (PySem.W.sortingHeap (s1.heap.push (seqObj "list" us.toArray 0)) s1.heap.objs.size us) (l.map D.py)) false us us = out
  have eo : PySem.W.EachIs Rr out (sortD l) := by
    rw [← hout]
    exact PySem.W.sortVals_data false e1 er hal
  obtain ⟨c, hc⟩ := sortedHeap_at (vs := us) (out := out.toArray) hoL
  refine wpAny_pure ⟨_, rfl, h s1 _ out c k1 g1 o1 (fun b u q => ?_) rfl rfl hc eo⟩
  have hlt := Heap.lt_size q
  show (sortedHeap (s1.heap.push (seqObj "list" us.toArray 0)) s1.heap.objs.size us out.toArray).get? b = some u
  rw [sortedHeap_old (Nat.ne_of_lt hlt) (by rw [size_push']; exact Nat.lt_succ_of_lt hlt)]
  exact Heap.get?_push_of_some _ q
end
theorem depth_mem {x : PyData} : ∀ {xs : List PyData}, x ∈ xs → x.depth ≤ PyData.depthAll xs
  | y :: ys, h => by
    rw [PyData.depthAll]
    rcases List.mem_cons.mp h with rfl | h
    · exact Nat.le_max_left _ _
    · exact Nat.le_trans (depth_mem h) (Nat.le_max_right _ _)
theorem okSort_ok {l : List D} (h : okSort l = true) : D.pures l = true ∧ PySem.W.AllAlike (l.map D.py) ∧ PySem.W.Sortable (l.map D.py) ∧ (∀ d, d ∈ l → (D.py d).depth ≤ 30) ∧ okLen l.length = true := by
  unfold okSort at h
  simp only [Bool.and_eq_true, decide_eq_true_eq] at h
  obtain ⟨⟨⟨⟨h1, h2⟩, h3⟩, h4⟩, h5⟩ := h
  rw [pys_map] at h2 h4
  refine ⟨h1, fun d hd d' hd' => ?_, ?_, fun d hd => Nat.le_trans (depth_mem (List.mem_map.mpr ⟨d, hd, rfl⟩)) h4, h5⟩
  · unfold allAlike at h2
    exact List.all_eq_true.mp (List.all_eq_true.mp h2 d hd) d' hd'
  · unfold sortable at h3
    rw [Bool.or_eq_true, List.all_eq_true, List.all_eq_true] at h3
    rcases h3 with h3 | h3
    · refine .inl fun d hd => ?_
      obtain ⟨e, he, rfl⟩ := List.mem_map.mp hd
      have q := h3 e he
      cases e with
      | tup m =>
        cases m with
        | nil => cases q
        | cons y m => exact ⟨_, _, by rw [D.py, D.pys]⟩
      | _ => cases q
    · refine .inr fun d hd => ?_
      obtain ⟨e, he, rfl⟩ := List.mem_map.mp hd
      have q := h3 e he
      rw [pures_all, List.all_eq_true] at h1
      have p := h1 e he
      cases e <;> simp_all [D.py, D.pure]
theorem perm_pures {l m : List D} (p : l.Perm m) (h : D.pures l = true) : D.pures m = true := by
  rw [pures_all, List.all_eq_true] at h ⊢
  exact fun d hd => h d (p.mem_iff.mpr hd)
/-- all objects kept, in another state -/
theorem inv_kept {s1 : Shared} (I : Inv X pins σ H s) (k : ∀ b o, s.heap.get? b = some o → s1.heap.get? b = some o) (hg : s1.gens = s.gens) (ho : s1.os = s.os) : Inv X pins σ H s1 :=
  I.call' (ch := []) ho (Un.kept k) (I.hok.kept k) (by rw [hg]; exact I.bare) (fun _ z => nomatch z)
/-- a new list of values -/
theorem ep_list {us : List Value} {xs : List V} {l : List D} {Q : VK} {s2 : Shared} {c : Nat} (I : Inv X pins σ H s) (k : ∀ b o, s.heap.get? b = some o → s2.heap.get? b = some o) (hg : s2.gens = s.gens) (ho : s2.os = s.os)
    (e : s2.heap.get? s.heap.objs.size = some (seqObj "list" us.toArray c)) (r : Vals xs us) (rl : RepL P ms F xs l) (hz : l.length ≤ sizeLine) (st : Sto P H ms F S) (h : New P ms F Q l S) : EP X pins σ Q (.ref s.heap.objs.size) s2 := by
  have hn : H s.heap.objs.size = none := I.hok.fresh (Nat.le_refl _)
  obtain ⟨s1, f⟩ := st.fresh hn rl
  have ok : ObjOk X.prog X.w (upd H s.heap.objs.size (.lst xs)) s2.heap s.heap.objs.size (.lst xs) := ⟨by rw [rl.length]; exact hz, us, c, r, e⟩
  exact ⟨.ref _, _, I.call' (ch := []) ho (Un.laid k (Nat.le_refl _) hn) (I.hok.laid k (Nat.le_refl _) ok) (by rw [hg]; exact I.bare) (fun _ z => nomatch z), rfl, h _ _ _ _ (Nx.refl _ _) s1 f⟩
theorem sortD_perm (l : List D) : (sortD l).Perm l := List.mergeSort_perm _ _
theorem b_sorted (hK : P.K = X.K) (hu : X.A.units + 64 < cLine) (hc : X.calm = true) : CallR X (.builtin "sorted") (rvN P true Ex (Bi.app .sorted)) := by
  intro pins s σ H xs us Q I r h
  obtain ⟨ms, F, S, l, st, rl, h⟩ := h
  cases rl with
  | nil => exact h.elim
  | cons h1 h2 =>
    cases h2 with
    | cons _ _ => exact h.elim
    | nil =>
      rename_i v d
      have h : Post P ms F true Q Ex (match d.items S with | some l => if okSort l then .ok (.lst (sortD l)) S else .bad | none => .bad) := by
        cases d <;> exact h
      obtain ⟨u, rfl, ru⟩ := Vals.one r
      cases q : d.items S with
      | none =>
        rw [q] at h
        exact h.elim
      | some l =>
        rw [q] at h
        dsimp only at h
        by_cases c : okSort l = true
        · rw [if_pos c] at h
          obtain ⟨c1, c2, c3, c4, c5⟩ := okSort_ok c
          obtain ⟨a, ys, rfl, sq, rl⟩ := items_sq st h1 q
          cases ru
          rw [hK] at sq
          have fin : ∀ (us : List Value) (T : String) (o : Obj) (n : Nat), (T = "list" ∨ T = "tuple") → s.heap.get? a = some o → o.cls = .type T → o.data = .seq us.toArray n → Vals ys us → wpAny (model X.prog X.w) X.A (call (.builtin "sorted") [.ref a]) (EP X pins σ Q) X.xe s := fun us T o n hT ho hcl hd rv => by
            refine sorted_col (Rr := RepU P ms F) c2 c3 (okLen_le c5) (fun d hd => ?_) (fun Q' hq => ?_) fun s1 s2 out cc k1 g1 o1 k2 g2 o2 e eo => ?_
            · have := c4 d hd
              omega
            · refine wpAny_collect_seq a hT ho hcl hd (fun h' k => ?_) (by rw [List.size_toArray, ← rv.length, rl.length]; exact okLen_le c5)
              exact hq { s with heap := h' } us.toArray.toList k rfl rfl (eachU rv rl) ((readsU hK I st.sub c1 rv rl).mono fun v d ⟨as, r⟩ => ⟨as, PyProof.Rows.Reads.keeps k r⟩)
            · obtain ⟨zs, rz, qz⟩ := uEach eo
              exact ep_list (inv_kept I k1 g1 o1) k2 g2 o2 e rz qz (by rw [(sortD_perm l).length_eq]; exact okLen_le c5) st h
          rcases sq with sq | sq
          · obtain ⟨its, rv, ⟨o, n, ho, hc, _, hd⟩, _⟩ := I.list sq
            exact fin its "list" o n (.inl rfl) ho hc hd rv
          · obtain ⟨its, rv, ⟨o, ho, hc, n, hd⟩, _⟩ := I.tuple sq
            exact fin its "tuple" o n (.inr rfl) ho hc hd rv
        · rw [if_neg c] at h
          exact h.elim
end SV
/-! SvG: more built-in functions by values. -/
namespace SV
open PySem PySem.Spec PyProof.Rows L2
variable {X : Cx} {pins : List (Addr × Obj)} {σ : L2.St} {H : Hp} {s : Shared} {P : Pg} {ms : List Addr} {F : Hp} {S : Store} {Ex : XQ}
/-- a call of one argument -/
theorem call_one {f : Value} {fr : Bool} {app : List D → Store → R D} (h0 : ∀ l S, (∀ d, l ≠ [d]) → app l S = .bad)
    (k : ∀ (pins : List (Addr × Obj)) (s : Shared) (σ : L2.St) (H : Hp) (Q : VK) (ms : List Addr) (F : Hp) (S : Store) (v : V) (d : D) (u : Value), Inv X pins σ H s → RelV v u → Sto P H ms F S → Rep P ms F v d → Post P ms F fr Q Ex (app [d] S) →
      wpAny (model X.prog X.w) X.A (call f [u]) (EP X pins σ Q) X.xe s) : CallR X f (rvN P fr Ex app) := by
  intro pins s σ H xs us Q I r h
  obtain ⟨ms, F, S, l, st, rl, h⟩ := h
  have bad : (∀ d, l ≠ [d]) → wpAny (model X.prog X.w) X.A (call f us) (EP X pins σ Q) X.xe s := fun z => by
    rw [h0 l S z] at h
    exact h.elim
  cases rl with
  | nil => exact bad fun d => by simp
  | cons h1 h2 =>
    cases h2 with
    | cons _ _ => exact bad fun d => by simp
    | nil =>
      obtain ⟨u, rfl, ru⟩ := Vals.one r
      exact k pins s σ H Q ms F S _ _ u I ru st h1 h
theorem b_len (hK : P.K = X.K) : CallR X (.builtin "len") (rvN P false Ex (Bi.app .len)) := by
  refine call_one (fun l S z => ?_) fun pins s σ H Q ms F S v d u I ru st rd h => ?_
  · match l, z with
    | [], _ => rfl
    | [d], z => exact absurd rfl (z d)
    | _ :: _ :: _, _ => rfl
  · have gen : Post P ms F false Q Ex (match d.items S with | some l => .ok (.int l.length) S | none => .bad) → wpAny (model X.prog X.w) X.A (call (.builtin "len") [u]) (EP X pins σ Q) X.xe s := fun h => by
      cases q : d.items S with
      | none =>
        rw [q] at h
        exact h.elim
      | some l =>
        rw [q] at h
        obtain ⟨a, ys, rfl, sq, rl⟩ := items_sq st rd q
        exact call_len_seq pins s σ H [.ref a] [u] Q I (.cons ru .nil) ⟨a, ys, rfl, hK ▸ sq, by rw [rl.length]; exact h _ _ _ _ (Nx.refl _ _) st (.int _)⟩
    cases rd with
    | str z =>
      have h : Post P ms F false Q Ex (if okLen z.length then .ok (.int z.length) S else .bad) := h
      by_cases c : okLen z.length = true
      · rw [if_pos c] at h
        exact call_len_str pins s σ H [.str z] [u] Q I (.cons ru .nil) ⟨z, rfl, okLen_le c, h _ _ _ _ (Nx.refl _ _) st (.int _)⟩
      · rw [if_neg c] at h
        exact h.elim
    | tup e d r => exact gen h
    | lst e r => exact gen h
    | scr e => exact gen h
    | loc e => exact gen h
    | _ => exact h.elim
theorem signs_rep : ∀ (cs : List Nat), RepL P ms F (cs.map fun c => V.str ⟨#[c]⟩) (cs.map sign)
  | [] => .nil
  | c :: cs => .cons (.str _) (signs_rep cs)
theorem vals_signsL : ∀ {cs : List Nat} {us : List Value}, us.length = cs.length → (∀ (j : Nat) (v : Value), us[j]? = some v → ∃ c t, cs[j]? = some c ∧ v = Value.str ⟨#[c]⟩ t) → Vals (cs.map fun c => V.str ⟨#[c]⟩) us
  | [], [], _, _ => .nil
  | [], _ :: _, h, _ => nomatch h
  | _ :: _, [], h, _ => nomatch h
  | c :: cs, u :: us, h, k => by
    obtain ⟨c', t, e1, rfl⟩ := k 0 u rfl
    cases e1
    exact .cons ⟨t, rfl⟩ (vals_signsL (Nat.succ.inj h) fun j v e => k (j + 1) v e)
theorem vals_signs {z : Str} {us : List Value} (hl : us.length = z.cps.toList.length) (h : ∀ (j : Nat) (v : Value), us[j]? = some v → SignAt z j v) : Vals (z.cps.toList.map fun c => V.str ⟨#[c]⟩) us :=
  vals_signsL hl fun j v e => by
    obtain ⟨c, u, e1, e2⟩ := h j v e
    exact ⟨c, u, by rw [Array.getElem?_toList]; exact e1, e2⟩
theorem b_list (hK : P.K = X.K) (hc : X.calm = true) : CallR X (.type "list") (rvN P true Ex (Bi.app .list)) := by
  refine call_one (fun l S z => ?_) fun pins s σ H Q ms F S v d u I ru st rd h => ?_
  · match l, z with
    | [], _ => rfl
    | [d], z => exact absurd rfl (z d)
    | _ :: _ :: _, _ => rfl
  · have gen : Post P ms F true Q Ex (match d.items S with | some l => .ok (.lst l) S | none => .bad) → wpAny (model X.prog X.w) X.A (call (.type "list") [u]) (EP X pins σ Q) X.xe s := fun h => by
      cases q : d.items S with
      | none =>
        rw [q] at h
        exact h.elim
      | some l =>
        rw [q] at h
        obtain ⟨a, ys, rfl, sq, rl⟩ := items_sq st rd q
        refine call_list_of pins s σ H [.ref a] [u] Q I (.cons ru .nil) ⟨a, ys, rfl, hK ▸ sq, fun p hp => ?_⟩
        obtain ⟨s1, f⟩ := st.fresh hp rl
        exact h p _ _ _ (Nx.refl _ _) s1 f
    cases rd with
    | str z =>
      have h : Post P ms F true Q Ex (if okLen z.length then .ok (.lst (signsD z)) S else .bad) := h
      by_cases c : okLen z.length = true
      · rw [if_pos c] at h
        obtain ⟨t, rfl⟩ := ru
        refine call_list_str (I.ok.hd hc) z t (fun h' tk acc' c' k e hit => ?_) (by show z.length ≤ sizeLine; exact okLen_le c)
        have rv : Vals (z.cps.toList.map fun c => V.str ⟨#[c]⟩) acc'.toList := vals_signs (by rw [Array.length_toList, hit.1, Array.length_toList]) fun j v e => hit.2 j v (by rw [← e, Array.getElem?_toList])
        have e' : h'.get? s.heap.objs.size = some (seqObj "list" acc'.toList.toArray c') := by simpa using e
        refine ep_list (s2 := { s with heap := h', toks := tk }) I k rfl rfl e' rv (signs_rep _) ?_ st h
        rw [List.length_map]
        have := okLen_le c
        simpa [Str.length] using this
      · rw [if_neg c] at h
        exact h.elim
    | tup e d r => exact gen h
    | lst e r => exact gen h
    | scr e => exact gen h
    | loc e => exact gen h
    | _ => exact h.elim
theorem b_tuple (hK : P.K = X.K) : CallR X (.type "tuple") (rvN P false Ex (Bi.app .tuple)) := by
  refine call_one (fun l S z => ?_) fun pins s σ H Q ms F S v d u I ru st rd h => ?_
  · match l, z with
    | [], _ => rfl
    | [d], z => exact absurd rfl (z d)
    | _ :: _ :: _, _ => rfl
  · have h : Post P ms F false Q Ex (match d.items S with | some l => .ok (.tup l) S | none => .bad) := by
      cases d <;> exact h
    have gen : ∀ a ys l, v = .ref a → SqL P.K H a ys → RepL P ms F ys l → Ord P ms F Q (.tup l) S → wpAny (model X.prog X.w) X.A (call (.type "tuple") [u]) (EP X pins σ Q) X.xe s := fun a ys l e sq rl h => by
      subst e
      cases ru
      rw [hK] at sq
      obtain ⟨its, r', pl, hz⟩ := I.list sq
      have hlen := r'.length
      refine PySem.call_tuple_list pl.isList (fun h' kp => ?_) (by simp only [List.size_toArray] <;> omega)
      have I1 : Inv X pins σ H { s with heap := h' } := I.kept (t' := s.toks) kp
      exact ep_tup (fr := false) (t' := s.toks) I1 r' st rl (by rw [← rl.length]; exact hz) h
    cases rd with
    | @tup a o ys l e1 d1 r1 =>
      cases ru
      obtain ⟨its, r', pl, hz⟩ := I.tuple (X := X) (a := a) (xs := ys) (.inl (.inr ⟨o, st.sub _ _ e1⟩))
      exact PySem.call_tuple_same pl ⟨.ref a, H, I, rfl, h _ _ _ _ (Nx.refl _ _) st (.tup e1 d1 r1)⟩
    | lst e r => exact gen _ _ _ rfl (.inl (.inl (st.sub _ _ e))) r h
    | scr e => exact gen _ _ _ rfl (st.sub.seq e) RepL.ints h
    | @loc a n e =>
      cases q : S[n]? with
      | none =>
        simp only [D.items, q] at h
        exact h.elim
      | some c =>
        cases c with
        | lst l =>
          simp only [D.items, q] at h
          obtain ⟨_, xs, h1, h2⟩ := st.cell n a _ e q
          exact gen _ _ _ rfl (.inl (.inl h1)) h2 h
        | _ =>
          simp only [D.items, q] at h
          exact h.elim
    | _ => exact h.elim
/-! ### min, max -/
mutual
theorem py_inj : ∀ (a b : D), a.pure = true → b.pure = true → a.py = b.py → a = b
  | .non, b, _, h, e => by cases b <;> simp_all [D.py, D.pure]
  | .bl _, b, _, h, e => by cases b <;> simp_all [D.py, D.pure]
  | .int _, b, _, h, e => by cases b <;> simp_all [D.py, D.pure]
  | .str _, b, _, h, e => by cases b <;> simp_all [D.py, D.pure]
  | .tup l, b, p, h, e => by
    cases b with
    | tup m =>
      simp only [D.py, PyData.tuple.injEq] at e
      rw [pys_inj l m (by simpa [D.pure] using p) (by simpa [D.pure] using h) e]
    | _ => simp_all [D.py, D.pure]
  | .lst l, b, p, h, e => by
    cases b with
    | lst m =>
      simp only [D.py, PyData.list.injEq] at e
      rw [pys_inj l m (by simpa [D.pure] using p) (by simpa [D.pure] using h) e]
    | _ => simp_all [D.py, D.pure]
  | .scr _, _, p, _, _ => by simp [D.pure] at p
  | .loc _, _, p, _, _ => by simp [D.pure] at p
  | .fn _, _, p, _, _ => by simp [D.pure] at p
theorem pys_inj : ∀ (a b : List D), D.pures a = true → D.pures b = true → D.pys a = D.pys b → a = b
  | [], b, _, _, e => by cases b <;> simp_all [D.pys]
  | x :: a, b, p, h, e => by
    cases b with
    | nil => simp [D.pys] at e
    | cons y b =>
      simp only [D.pys, List.cons.injEq] at e
      simp only [D.pures, Bool.and_eq_true] at p h
      rw [py_inj x y p.1 h.1 e.1, pys_inj a b p.2 h.2 e.2]
end
theorem minD_py : ∀ (l : List D) (x : D), (minD x l).py = PySem.W.minD x.py (D.pys l)
  | [], x => rfl
  | y :: l, x => by
    rw [minD, minD_py l, D.pys, PySem.W.minD, PySem.W.minD, List.foldl_cons]
    split <;> rfl
theorem maxD_py : ∀ (l : List D) (x : D), (maxD x l).py = PySem.W.maxD x.py (D.pys l)
  | [], x => rfl
  | y :: l, x => by
    rw [maxD, maxD_py l, D.pys, PySem.W.maxD, PySem.W.maxD, List.foldl_cons]
    split <;> rfl
theorem minD_mem : ∀ (l : List D) (x : D), minD x l ∈ x :: l
  | [], x => by simp [minD]
  | y :: l, x => by
    rw [minD]
    have := minD_mem l (if PySem.W.dataLt y.py x.py = true then y else x)
    split at this <;> simp_all <;> rcases this with h | h <;> simp_all
theorem maxD_mem : ∀ (l : List D) (x : D), maxD x l ∈ x :: l
  | [], x => by simp [maxD]
  | y :: l, x => by
    rw [maxD]
    have := maxD_mem l (if PySem.W.dataLt x.py y.py = true then y else x)
    split at this <;> simp_all <;> rcases this with h | h <;> simp_all
theorem pures_mem {l : List D} {d : D} (h : D.pures l = true) (m : d ∈ l) : d.pure = true := by
  rw [pures_all, List.all_eq_true] at h
  exact h d m
theorem vals_at : ∀ {us : List Value} {xs : List V} {i : Nat} {u : Value}, Vals xs us → us[i]? = some u → ∃ x, xs[i]? = some x ∧ RelV x u
  | _, _, _, _, .nil, e => by simp at e
  | _, _, 0, _, .cons r _, e => by simp at e; subst e; exact ⟨_, rfl, r⟩
  | _, _, i + 1, _, .cons _ t, e => by
    obtain ⟨v, h1, h2⟩ := vals_at (i := i) t (by simpa using e)
    exact ⟨v, by simpa using h1, h2⟩
/-- the item that reads as one of the data is that one -/
theorem item_is (hK : P.K = X.K) (I : Inv X pins σ H s) (st : Same F H) {xs : List V} {us : List Value} {l : List D} {m : D} {i : Nat} {u : Value} {h' : Heap} {bs : List Addr} (p : D.pures l = true) (rv : Vals xs us) (rl : RepL P ms F xs l) (hm : m ∈ l)
    (e : us[i]? = some u) (k : ∀ b o, s.heap.get? b = some o → h'.get? b = some o) (r : Reads h' u m.py bs) : RepU P ms F u m := by
  obtain ⟨x, hx, ru⟩ := vals_at rv e
  obtain ⟨d, hd, rd⟩ := rl.getV hx
  have pd := pures_mem p (List.mem_of_getElem? hd)
  obtain ⟨as, r0⟩ := Dp.reads I _ _ _ (hK ▸ Rep.dp st pd rd) ru
  have r1 := PyProof.Rows.Reads.keeps k r0
  have e2 := SeqAt.plain_unique _ _ _ _ _ (plain_py d) r1 r
  rw [← py_inj d m pd (pures_mem p hm) e2]
  exact ⟨x, ru, rd⟩
theorem okMin_ok {l : List D} (h : okMin l = true) : D.pures l = true ∧ PySem.W.AlikeAll (D.pys l) ∧ PyData.depthAll (D.pys l) ≤ 30 := by
  unfold okMin at h
  simp only [Bool.and_eq_true, decide_eq_true_eq] at h
  obtain ⟨⟨⟨h1, h2⟩, h3⟩, h4⟩ := h
  refine ⟨h1, ⟨fun x hx y hy => ?_, fun x hx => ?_⟩, h3⟩
  · unfold allAlike at h2
    exact List.all_eq_true.mp (List.all_eq_true.mp h2 x hx) y hy
  · rw [pys_map] at hx
    obtain ⟨d, hd, rfl⟩ := List.mem_map.mp hx
    have q := List.all_eq_true.mp h4 d hd
    have p := pures_mem h1 hd
    cases d <;> simp_all [D.py, D.pure, isNon]
theorem b_min (hK : P.K = X.K) (hu : X.A.units + 64 < cLine) (hc : X.calm = true) : CallR X (.builtin "min") (rvN P false Ex (Bi.app .min)) := by
  intro pins s σ H xs us Q I r h
  obtain ⟨ms, F, S, l, st, rl, h⟩ := h
  match l, rl, h with
  | [], _, h => exact h.elim
  | [d], .cons rd .nil, h =>
    have h : Post P ms F false Q Ex (match d.items S with | some (y :: l) => if okMin (y :: l) then .ok (minD y l) S else .bad | _ => .bad) := by
      cases d <;> exact h
    obtain ⟨u, rfl, ru⟩ := Vals.one r
    cases q : d.items S with
    | none =>
      rw [q] at h
      exact h.elim
    | some m =>
      cases m with
      | nil =>
        rw [q] at h
        exact h.elim
      | cons y l =>
        rw [q] at h
        dsimp only at h
        by_cases c : okMin (y :: l) = true
        · rw [if_pos c] at h
          obtain ⟨c1, c2, c3⟩ := okMin_ok c
          obtain ⟨a, ys, rfl, sq, rl⟩ := items_sq st rd q
          cases ru
          rw [hK] at sq
          have dp : DpAll X.K H ys (D.pys (y :: l)) := hK ▸ rl.dp st.sub c1
          have hu' : X.A.units + 1 + PyData.depthAll (D.pys (y :: l)) < cLine := by omega
          have fin : ∀ its, Vals ys its → ∀ (i : Nat) v h' tk bs, its.toArray[i]? = some v → Reads h' v (PySem.W.minD y.py (D.pys l)) bs → (∀ b o, s.heap.get? b = some o → h'.get? b = some o) → EP X pins σ Q v { s with heap := h', toks := tk } := fun its rv i v h' tk bs e r k => by
            rw [← minD_py] at r
            obtain ⟨x, rx, hx⟩ := item_is hK I st.sub c1 rv rl (minD_mem l y) (by simpa using e) k r
            exact ⟨x, H, I.kept k, rx, h _ _ _ _ (Nx.refl _ _) st hx⟩
          rcases sq with sq | sq
          · obtain ⟨its, rv, pl, _⟩ := I.list sq
            obtain ⟨as, ra⟩ := Dp.readsAll I _ _ _ dp rv
            exact PySem.W.min_list_data (I.ok.hd hc) pl.isList ra c2 hu' (fin its rv)
          · obtain ⟨its, rv, pl, _⟩ := I.tuple sq
            obtain ⟨as, ra⟩ := Dp.readsAll I _ _ _ dp rv
            exact PySem.W.min_tuple_data (I.ok.hd hc) pl ra c2 hu' (fin its rv)
        · rw [if_neg c] at h
          exact h.elim
  | [x, y], .cons r1 (.cons r2 .nil), h =>
    cases r1 with
    | int i =>
      cases r2 with
      | int j => exact call_min2 hc pins s σ H _ us Q I r ⟨i, j, rfl, h _ _ _ _ (Nx.refl _ _) st (.int _)⟩
      | _ => exact h.elim
    | _ => cases r2 <;> exact h.elim
  | x :: y :: _ :: _, _, h => cases x <;> cases y <;> exact h.elim
theorem b_max (hK : P.K = X.K) (hu : X.A.units + 64 < cLine) (hc : X.calm = true) : CallR X (.builtin "max") (rvN P false Ex (Bi.app .max)) := by
  intro pins s σ H xs us Q I r h
  obtain ⟨ms, F, S, l, st, rl, h⟩ := h
  match l, rl, h with
  | [], _, h => exact h.elim
  | [d], .cons rd .nil, h =>
    have h : Post P ms F false Q Ex (match d.items S with | some (y :: l) => if okMin (y :: l) then .ok (maxD y l) S else .bad | _ => .bad) := by
      cases d <;> exact h
    obtain ⟨u, rfl, ru⟩ := Vals.one r
    cases q : d.items S with
    | none =>
      rw [q] at h
      exact h.elim
    | some m =>
      cases m with
      | nil =>
        rw [q] at h
        exact h.elim
      | cons y l =>
        rw [q] at h
        dsimp only at h
        by_cases c : okMin (y :: l) = true
        · rw [if_pos c] at h
          obtain ⟨c1, c2, c3⟩ := okMin_ok c
          obtain ⟨a, ys, rfl, sq, rl⟩ := items_sq st rd q
          cases ru
          rw [hK] at sq
          have dp : DpAll X.K H ys (D.pys (y :: l)) := hK ▸ rl.dp st.sub c1
          have hu' : X.A.units + 1 + PyData.depthAll (D.pys (y :: l)) < cLine := by omega
          have fin : ∀ its, Vals ys its → ∀ (i : Nat) v h' tk bs, its.toArray[i]? = some v → Reads h' v (PySem.W.maxD y.py (D.pys l)) bs → (∀ b o, s.heap.get? b = some o → h'.get? b = some o) → EP X pins σ Q v { s with heap := h', toks := tk } := fun its rv i v h' tk bs e r k => by
            rw [← maxD_py] at r
            obtain ⟨x, rx, hx⟩ := item_is hK I st.sub c1 rv rl (maxD_mem l y) (by simpa using e) k r
            exact ⟨x, H, I.kept k, rx, h _ _ _ _ (Nx.refl _ _) st hx⟩
          rcases sq with sq | sq
          · obtain ⟨its, rv, pl, _⟩ := I.list sq
            obtain ⟨as, ra⟩ := Dp.readsAll I _ _ _ dp rv
            exact PySem.W.max_list_data (I.ok.hd hc) pl.isList ra c2 hu' (fin its rv)
          · obtain ⟨its, rv, pl, _⟩ := I.tuple sq
            obtain ⟨as, ra⟩ := Dp.readsAll I _ _ _ dp rv
            exact PySem.W.max_tuple_data (I.ok.hd hc) pl ra c2 hu' (fin its rv)
        · rw [if_neg c] at h
          exact h.elim
  | [x, y], .cons r1 (.cons r2 .nil), h =>
    cases r1 with
    | int i =>
      cases r2 with
      | int j => exact call_max2 hc pins s σ H _ us Q I r ⟨i, j, rfl, h _ _ _ _ (Nx.refl _ _) st (.int _)⟩
      | _ => exact h.elim
    | _ => cases r2 <;> exact h.elim
  | x :: y :: _ :: _, _, h => cases x <;> cases y <;> exact h.elim

/-! ### sum, all, any, int, str -/
theorem intsD_some : ∀ {l : List D} {ns : List Int}, intsD l = some ns → l = ns.map D.int
  | [], ns, h => by cases h; rfl
  | d :: l, ns, h => by
    cases d <;> simp [intsD] at h
    obtain ⟨m, h1, rfl⟩ := h
    rw [intsD_some h1] <;> rfl
theorem boolsD_some : ∀ {l : List D} {ns : List Bool}, boolsD l = some ns → l = ns.map D.bl
  | [], ns, h => by cases h; rfl
  | d :: l, ns, h => by
    cases d <;> simp [boolsD] at h
    obtain ⟨m, h1, rfl⟩ := h
    rw [boolsD_some h1] <;> rfl
theorem rep_ints : ∀ {xs : List V} {ns : List Int}, RepL P ms F xs (ns.map D.int) → xs = ns.map V.int
  | _, [], .nil => rfl
  | _, n :: ns, .cons r t => by
    cases r
    rw [rep_ints t] <;> rfl
theorem rep_bls : ∀ {xs : List V} {ns : List Bool}, RepL P ms F xs (ns.map D.bl) → xs = ns.map V.bl
  | _, [], .nil => rfl
  | _, n :: ns, .cons r t => by
    cases r
    rw [rep_bls t] <;> rfl
theorem b_sum (hK : P.K = X.K) (hc : X.calm = true) : CallR X (.builtin "sum") (rvN P false Ex (Bi.app .sum)) := by
  refine call_one (fun l S z => ?_) fun pins s σ H Q ms F S v d u I ru st rd h => ?_
  · match l, z with
    | [], _ => rfl
    | [d], z => exact absurd rfl (z d)
    | x :: _ :: _, _ => cases x <;> rfl
  · cases rd with
    | @lst a xs l e r =>
      replace h : Post P ms F false Q Ex (match intsD l with | some l => .ok (.int l.sum) S | none => .bad) := h
      cases q : intsD l with
      | none =>
        rw [q] at h
        exact h.elim
      | some ns =>
        rw [q] at h
        have e2 := intsD_some q
        subst e2
        have e3 := rep_ints r
        subst e3
        exact cr_sum hc pins s σ H _ _ Q I (.cons ru .nil) ⟨a, ns, rfl, .inl (.inl (st.sub _ _ e)), h _ _ _ _ (Nx.refl _ _) st (.int _)⟩
    | _ => exact h.elim
theorem b_all (hK : P.K = X.K) (hc : X.calm = true) : CallR X (.builtin "all") (rvN P false Ex (Bi.app .all)) := by
  refine call_one (fun l S z => ?_) fun pins s σ H Q ms F S v d u I ru st rd h => ?_
  · match l, z with
    | [], _ => rfl
    | [d], z => exact absurd rfl (z d)
    | x :: _ :: _, _ => cases x <;> rfl
  · cases rd with
    | @lst a xs l e r =>
      replace h : Post P ms F false Q Ex (match boolsD l with | some l => .ok (.bl (l.all id)) S | none => .bad) := h
      cases q : boolsD l with
      | none =>
        rw [q] at h
        exact h.elim
      | some ns =>
        rw [q] at h
        have e2 := boolsD_some q
        subst e2
        have e3 := rep_bls r
        subst e3
        exact cr_all hc pins s σ H _ _ Q I (.cons ru .nil) ⟨a, ns, rfl, .inl (.inl (st.sub _ _ e)), h _ _ _ _ (Nx.refl _ _) st (.bl _)⟩
    | _ => exact h.elim
theorem b_any (hK : P.K = X.K) (hc : X.calm = true) : CallR X (.builtin "any") (rvN P false Ex (Bi.app .any)) := by
  refine call_one (fun l S z => ?_) fun pins s σ H Q ms F S v d u I ru st rd h => ?_
  · match l, z with
    | [], _ => rfl
    | [d], z => exact absurd rfl (z d)
    | x :: _ :: _, _ => cases x <;> rfl
  · cases rd with
    | @lst a xs l e r =>
      replace h : Post P ms F false Q Ex (match boolsD l with | some l => .ok (.bl (l.any id)) S | none => .bad) := h
      cases q : boolsD l with
      | none =>
        rw [q] at h
        exact h.elim
      | some ns =>
        rw [q] at h
        have e2 := boolsD_some q
        subst e2
        have e3 := rep_bls r
        subst e3
        exact cr_any hc pins s σ H _ _ Q I (.cons ru .nil) ⟨a, ns, rfl, .inl (.inl (st.sub _ _ e)), h _ _ _ _ (Nx.refl _ _) st (.bl _)⟩
    | _ => exact h.elim
theorem b_int : CallR X (.type "int") (rvN P false Ex (Bi.app .int)) := by
  refine call_one (fun l S z => ?_) fun pins s σ H Q ms F S v d u I ru st rd h => ?_
  · match l, z with
    | [], _ => rfl
    | [d], z => exact absurd rfl (z d)
    | x :: _ :: _, _ => cases x <;> rfl
  · cases rd with
    | str z =>
      have h : Post P ms F false Q Ex (match PySem.intText? z with | some n => if z.length ≤ 640 then .ok (.int n) S else .bad | none => .bad) := h
      cases q : PySem.intText? z with
      | none =>
        rw [q] at h
        exact h.elim
      | some n =>
        rw [q] at h
        dsimp only at h
        by_cases c : z.length ≤ 640
        · rw [if_pos c] at h
          exact call_int_str pins s σ H _ _ Q I (.cons ru .nil) ⟨z, n, rfl, q, c, h _ _ _ _ (Nx.refl _ _) st (.int _)⟩
        · rw [if_neg c] at h
          exact h.elim
    | _ => exact h.elim
theorem b_str : CallR X (.type "str") (rvN P false Ex (Bi.app .str)) := by
  refine call_one (fun l S z => ?_) fun pins s σ H Q ms F S v d u I ru st rd h => ?_
  · match l, z with
    | [], _ => rfl
    | [d], z => exact absurd rfl (z d)
    | x :: _ :: _, _ => cases x <;> rfl
  · cases rd with
    | int i =>
      have h : Post P ms F false Q Ex (if i.natAbs.log2 < 1920 then .ok (.str (toString i)) S else .bad) := h
      by_cases c : i.natAbs.log2 < 1920
      · rw [if_pos c] at h
        exact call_str_int pins s σ H _ _ Q I (.cons ru .nil) ⟨i, rfl, c, h _ _ _ _ (Nx.refl _ _) st (.str _)⟩
      · rw [if_neg c] at h
        exact h.elim
    | _ => exact h.elim

/-! ### isinstance -/
/-- x and a class -/
def rvI (P : Pg) (T : String) (b : Bi) : List V → Hp → VK → Prop := fun vs H Q => ∃ ms F S d v Ex, vs = [v, .ty T] ∧ Sto P H ms F S ∧ Rep P ms F v d ∧ Post P ms F false Q Ex (b.app [d] S)
theorem b_isi {T : String} {b : Bi} {f : PyData → Bool} (hK : P.K = X.K) (hb : ∀ d S, b.app [d] S = if d.pure then .ok (.bl (f d.py)) S else .bad)
    (rule : ∀ {s : Shared} {v : Value} {d : PyData} {as : List Addr} {Q : Value → Shared → Prop}, Reads s.heap v d as → (∀ tk, s.toks ≤ tk → Q (.bool (f d)) { s with toks := tk }) → wpAny (model X.prog X.w) X.A (call (.builtin "isinstance") [v, .type T]) Q X.xe s) :
    CallR X (.builtin "isinstance") (rvI P T b) := by
  intro pins s σ H xs us Q I r h
  obtain ⟨ms, F, S, d, v, Ex, rfl, st, rd, h⟩ := h
  rw [hb] at h
  obtain ⟨u, u2, rfl, ru, r2⟩ := Vals.two r
  cases r2
  by_cases c : d.pure = true
  · rw [if_pos c] at h
    obtain ⟨as, r1⟩ := Dp.reads I _ _ _ (hK ▸ Rep.dp st.sub c rd) ru
    exact rule r1 fun tk _ => ⟨.bl _, H, I.tok tk, rfl, h _ _ _ _ (Nx.refl _ _) st (.bl _)⟩
  · rw [if_neg c] at h
    exact h.elim
end SV
/-! SvH: calls of built-ins and their methods; the syntax's side. -/
namespace SV
open PySem PySem.Spec PyProof.Rows L2
variable {X : Cx} {pins : List (Addr × Obj)} {σ : L2.St} {H : Hp} {s : Shared} {P : Pg} {ms : List Addr} {F : Hp} {S : Store} {Ex : XQ}

/-! ### the syntax's side -/
def notStar : Expr → Bool
  | .Starred .. => false
  | _ => true
theorem star_cons {e : Expr} {es : List Expr} {env : PySem.Env} (h : notStar e = true) : starEach (e :: es) env = (false, eval e env) :: starEach es env := by
  cases e <;> first | rfl | cases h
theorem star_all : ∀ {es : List Expr} {env : PySem.Env}, es.all notStar = true → ∀ x ∈ starEach es env, x.1 = false
  | [], _, _, x, hx => by simp [starEach] at hx
  | e :: es, env, h, x, hx => by
    rw [List.all_cons, Bool.and_eq_true] at h
    rw [star_cons h.1] at hx
    rcases List.mem_cons.mp hx with rfl | hx
    · rfl
    · exact star_all h.2 x hx
theorem back_any {es : List Expr} {env : PySem.Env} {pos : Pos} (h : es.all notStar = true) : (backTo pos (starEach es env)).any (·.1) = false := by
  rw [List.any_eq_false]
  intro x hx
  unfold backTo at hx
  obtain ⟨⟨b, t⟩, hy, rfl⟩ := List.mem_map.mp hx
  have := star_all h _ hy
  simpa using this
theorem back_few {es : List Expr} {env : PySem.Env} {pos : Pos} (h : es.all notStar = true) (hl : es.length < 29) : ((backTo pos (starEach es env)).all (fun x => !x.1) && (backToKw pos (keywordEach [] env)).all (fun x => x.1.isSome)
      && decide (es.length + ([] : List Keyword).length + (if ([] : List Keyword).isEmpty then 0 else 1) < 30)) = true := by
  have h1 : (backTo pos (starEach es env)).all (fun x => !x.1) = true := by
    rw [List.all_eq_true]
    intro x hx
    unfold backTo at hx
    obtain ⟨⟨b, t⟩, hy, rfl⟩ := List.mem_map.mp hx
    have := star_all h _ hy
    simpa using this
  rw [h1]
  simp [keywordEach, backToKw]
  omega
/-- what a method may be asked of here -/
def baseOk : Expr → Bool
  | .Call _ [] _ _ => false
  | _ => true
theorem base_ok {o : Expr} {name : Str} {env : PySem.Env} {w : Sem Value} (h : baseOk o = true) : attributeBase o name env w = w := by
  cases o with
  | Call f as kw pos =>
    cases as with
    | nil => cases h
    | cons a as => cases f <;> rfl
  | _ => rfl
section
variable {a : Expr} {es : List Expr} {fs : Env → Store → R (List D)} {fa : Env → Store → R D} {W : WX} {x : Str} {p pos apos cpos : Pos} {T id : String} {fr : Bool} {app : List D → Store → R D}
theorem vis_glob {x : Str} (hd : (x == ("__debug__" : Str)) = false) : (x == ("__debug__" : Str)) = false := hd
/-- f(..), a built-in function -/
theorem s_callB (hc : ∀ Ex, CallR X (.builtin id) (rvN P fr Ex app)) (hg : Gl X x) (hm : X.mg x = none) (hv : bootBuiltins x = some (.builtin id)) (ha : PA X (a :: es) (tA P W fs)) (hn : x ≠ "__name__") (hdb : (x == ("__debug__" : Str)) = false)
    (h : (a :: es).all notStar = true) : PE X (.Call (.Name x p) (a :: es) [] pos) (tE P W fr (rowF fs app)) := by
  rw [List.all_cons, Bool.and_eq_true] at h
  refine ⟨fun pins s σ H Q I q => ?_⟩
  exact (pe_callB (hc (ExW P W σ)) hg hm hv ha hn hdb (star_cons h.1) (back_any h.2)).run pins s σ H Q I (t_row q)
/-- T(..), a built-in type -/
theorem s_callT (hc : ∀ Ex, CallR X (.type T) (rvN P fr Ex app)) (hg : Gl X x) (hm : X.mg x = none) (hv : bootBuiltins x = some (.type T)) (ha : PA X (a :: es) (tA P W fs)) (hn : x ≠ "__name__") (hdb : (x == ("__debug__" : Str)) = false)
    (h : (a :: es).all notStar = true) : PE X (.Call (.Name x p) (a :: es) [] pos) (tE P W fr (rowF fs app)) := by
  rw [List.all_cons, Bool.and_eq_true] at h
  refine ⟨fun pins s σ H Q I q => ?_⟩
  exact (pe_callTy (hc (ExW P W σ)) hg hm hv ha hn hdb (star_cons h.1) (back_any h.2)).run pins s σ H Q I (t_row q)
/-- isinstance(a, T) -/
theorem s_isi {y : Str} {p2 : Pos} {b : Bi} (hc : CallR X (.builtin "isinstance") (rvI P T b)) (hg : Gl X "isinstance") (hm : X.mg "isinstance" = none) (hg2 : Gl X y) (hm2 : X.mg y = none) (hv2 : bootBuiltins y = some (.type T)) (ha : PE X a (tE P W false fa)) (hn2 : y ≠ "__name__") (hdb2 : (y == ("__debug__" : Str)) = false)
    (h : notStar a = true) : PE X (.Call (.Name "isinstance" p) [a, .Name y p2] [] pos) (tE P W false fun env S => (fa env S).bind fun x S => b.app [x] S) := by
  have pa := pa_cons ha (pa_cons (pe_bltn (pos := p2) hg2 hm2 hv2 (v := .ty T) rfl hn2 hdb2) pa_nil) (star_cons h)
  refine (pe_callB hc hg hm (by decide +kernel) pa (by decide) (by decide) (star_cons h) (back_any (by rfl))).imp fun σ H Q ⟨env, ms, F, S, hs, st, q⟩ => ?_
  exact ⟨env, ms, F, S, hs, st, q.bind fun x S1 v H1 ms1 F1 nx st1 rx h1 => ⟨ms1, F1, S1, x, v, _, rfl, st1, rx, h1⟩⟩

/-! ### methods -/
/-- x is of the built-in type T, without a dict of its own -/
def Ty (X : Cx) (T : String) (x : V) (H : Hp) : Prop := ∀ (pins : List (Addr × Obj)) (s : Shared) (σ : L2.St) (v : Value), Inv X pins σ H s → RelV x v → s.TypeIs v T ∧ ∀ a, v = .ref a → ∃ ob, s.heap.get? a = some ob ∧ ob.dict = none
theorem ty_of {T : String} {x : V} {H : Hp} (h : tyV X.K T x H) : Ty X T x H := fun pins s σ v I r => tyV_is I r h
theorem ty_tup {a : Addr} {o : Obj} {xs : List V} (st : Sto P H ms F S) (e : F a = some (.frz o (.tup xs))) (d : o.dict = none) : Ty X "tuple" (.ref a) H := fun pins s σ v I r => by
  cases r
  obtain ⟨h1, h2⟩ := I.hok a _ (st.sub _ _ e)
  obtain ⟨_, its, _, ob, e2, c, _⟩ := h2
  rw [h1] at e2
  cases e2
  refine ⟨⟨o, h1, c⟩, fun b z => ?_⟩
  cases z
  exact ⟨o, h1, d⟩
def tMt (X : Cx) (T : String) (r : V → List V → Hp → VK → Prop) (to : TE) (t : TA) : TE := fun σ H Q => to σ H fun x H1 => Ty X T x H1 ∧ t σ H1 fun xs H2 => r x xs H2 Q
theorem pe_mt {o e : Expr} {to : TE} {t : TA} {name : Str} {r : V → List V → Hp → VK → Prop} (pa : PlainAttrs T) (slot : Slot T name id) (hty : typeOf (.builtin id) = pure (.type "method_descriptor")) (hm : MtR X id r) (ho : PE X o to) (ha : PA X (e :: es) t)
    (hb : baseOk o = true) (hl : (apos.endLine == cpos.line) = true) (hs : (e :: es).all notStar = true) (hz : (e :: es).length < 29) : PE X (.Call (.Attribute o name apos) (e :: es) [] cpos) (tMt X T r to t) := by
  have hs' : notStar e = true ∧ es.all notStar = true := by rwa [List.all_cons, Bool.and_eq_true] at hs
  refine ⟨fun pins s σ H Q I h => ?_⟩
  refine wpAny_Call_method_late (base_ok hb) (back_few hs hz) hl rfl (thn (ho.run pins s σ H _ I h) fun v s1 ⟨x, H1, I1, r1, ty, q1⟩ => ?_)
  obtain ⟨h1, h2⟩ := ty pins s1 σ v I1 r1
  refine ⟨T, id, pa, slot, hty, h1, h2, ?_⟩
  have hA := ha.run cpos pins s1 σ H1 _ I1 q1
  rw [star_cons hs'.1] at hA ⊢
  refine Calls.callWith_builtin (by show (false || (backTo cpos (starEach es X.env)).any (·.1)) = false; rw [back_any hs'.2]; rfl) (Calls.evalArgs_plain ?_)
  exact thn hA fun us s2 ⟨vs, H2, I2, r2, q2⟩ => hm pins s2 σ H2 x vs v us Q I2 r1 r2 q2
theorem pe_mt0 {o : Expr} {to : TE} {name : Str} {r : V → List V → Hp → VK → Prop} (pa : PlainAttrs T) (slot : Slot T name id) (hty : typeOf (.builtin id) = pure (.type "method_descriptor")) (hm : MtR X id r) (ho : PE X o to)
    (hb : baseOk o = true) (hl : (apos.endLine == cpos.line) = true) : PE X (.Call (.Attribute o name apos) [] [] cpos) (fun σ H Q => to σ H fun x H1 => Ty X T x H1 ∧ r x [] H1 Q) := by
  refine ⟨fun pins s σ H Q I h => ?_⟩
  refine wpAny_Call_method0_late (base_ok hb) hl (thn (ho.run pins s σ H _ I h) fun v s1 ⟨x, H1, I1, r1, ty, q1⟩ => ?_)
  obtain ⟨h1, h2⟩ := ty pins s1 σ v I1 r1
  exact ⟨T, id, pa, slot, hty, h1, h2, Calls.callWith_builtin rfl (PySem.evalArgs_none (hm pins s1 σ H1 x [] v [] Q I1 r1 .nil q1))⟩
/-- a method by values -/
def rvM (P : Pg) (fr : Bool) (Ex : XQ) (m : Mt) : V → List V → Hp → VK → Prop := fun x xs H Q => ∃ ms F S d l, Sto P H ms F S ∧ Rep P ms F x d ∧ RepL P ms F xs l ∧ Post P ms F fr Q Ex (m.app d l S)
def mthF (m : Mt) (fo : Env → Store → R D) (fs : Env → Store → R (List D)) : Env → Store → R D := fun env S => (fo env S).bind fun x S => if m.recv x S then (fs env S).bind fun l S => m.app x l S else .bad
theorem s_mth {o e : Expr} {fo : Env → Store → R D} {name : Str} {m : Mt} (pa : PlainAttrs T) (slot : Slot T name id) (hty : typeOf (.builtin id) = pure (.type "method_descriptor")) (hm : ∀ Ex, MtR X id (rvM P fr Ex m))
    (ty : ∀ (H : Hp) (ms : List Addr) (F : Hp) (S : Store) (x : V) (d : D), Sto P H ms F S → Rep P ms F x d → m.recv d S = true → Ty X T x H)
    (ho : PE X o (tE P W false fo)) (ha : PA X (e :: es) (tA P W fs)) (hb : baseOk o = true) (hl : (apos.endLine == cpos.line) = true) (hs : (e :: es).all notStar = true) (hz : (e :: es).length < 29) :
    PE X (.Call (.Attribute o name apos) (e :: es) [] cpos) (tE P W fr (mthF m fo fs)) := by
  refine ⟨fun pins s σ H Q I q => ?_⟩
  refine (pe_mt pa slot hty (hm (ExW P W σ)) ho ha hb hl hs hz).run pins s σ H Q I ?_
  obtain ⟨env, ms, F, S, sl, st, q⟩ := q
  refine ⟨env, ms, F, S, sl, st, q.bind fun x S1 v H1 ms1 F1 nx st1 rx h1 => ?_⟩
  by_cases c : m.recv x S1 = true
  · rw [if_pos c] at h1
    refine ⟨ty H1 ms1 F1 S1 v x st1 rx c, env, ms1, F1, S1, sl.mono nx, st1, h1.row fun l S2 vs H2 ms2 F2 nx2 st2 rl h2 => ⟨ms2, F2, S2, x, l, st2, rx.mono nx2, rl, h2⟩⟩
  · rw [if_neg c] at h1
    exact h1.elim
theorem s_mth0 {o : Expr} {fo : Env → Store → R D} {name : Str} {m : Mt} (pa : PlainAttrs T) (slot : Slot T name id) (hty : typeOf (.builtin id) = pure (.type "method_descriptor")) (hm : ∀ Ex, MtR X id (rvM P fr Ex m))
    (ty : ∀ (H : Hp) (ms : List Addr) (F : Hp) (S : Store) (x : V) (d : D), Sto P H ms F S → Rep P ms F x d → m.recv d S = true → Ty X T x H)
    (ho : PE X o (tE P W false fo)) (hb : baseOk o = true) (hl : (apos.endLine == cpos.line) = true) :
    PE X (.Call (.Attribute o name apos) [] [] cpos) (tE P W fr (mthF m fo fun _ S => .ok [] S)) := by
  refine ⟨fun pins s σ H Q I q => ?_⟩
  refine (pe_mt0 pa slot hty (hm (ExW P W σ)) ho hb hl).run pins s σ H Q I ?_
  obtain ⟨env, ms, F, S, sl, st, q⟩ := q
  refine ⟨env, ms, F, S, sl, st, q.bind fun x S1 v H1 ms1 F1 nx st1 rx h1 => ?_⟩
  by_cases c : m.recv x S1 = true
  · rw [if_pos c] at h1
    exact ⟨ty H1 ms1 F1 S1 v x st1 rx c, ms1, F1, S1, x, [], st1, rx, .nil, h1⟩
  · rw [if_neg c] at h1
    exact h1.elim
end
/-! ### typing -/
theorem ty_str {m : Mt} (hm : ∀ d S, m.recv d S = true → ∃ z, d = .str z) (H : Hp) (ms : List Addr) (F : Hp) (S : Store) (x : V) (d : D) (st : Sto P H ms F S) (r : Rep P ms F x d) (c : m.recv d S = true) : Ty X "str" x H := by
  obtain ⟨z, rfl⟩ := hm d S c
  cases r
  exact ty_of rfl
theorem ty_cell {m : Mt} (hm : ∀ d S, m.recv d S = true → ∃ n l, d = .loc n ∧ S[n]? = some (.lst l)) (H : Hp) (ms : List Addr) (F : Hp) (S : Store) (x : V) (d : D) (st : Sto P H ms F S) (r : Rep P ms F x d) (c : m.recv d S = true) : Ty X "list" x H := by
  obtain ⟨n, l, rfl, e⟩ := hm d S c
  cases r with
  | loc h =>
    obtain ⟨_, xs, h1, _⟩ := st.cell _ _ _ h e
    exact ty_of (.inl ⟨rfl, xs, .inl (.inl h1)⟩)
theorem recv_cell {m : Mt} (h : m = .append ∨ m = .extend ∨ m = .pop ∨ m = .popAt ∨ m = .remove) (d : D) (S : Store) (c : m.recv d S = true) : ∃ n l, d = .loc n ∧ S[n]? = some (.lst l) := by
  rcases h with rfl | rfl | rfl | rfl | rfl <;> cases d <;> first | cases c | skip
  all_goals
    rename_i n
    refine ⟨n, ?_⟩
    cases q : S[n]? with
    | none => simp [Mt.recv, q] at c
    | some z =>
      cases z with
      | lst l => exact ⟨l, rfl, rfl⟩
      | _ => simp [Mt.recv, q] at c
/-- a method of one argument -/
theorem mt_one {m : Mt} {id : String} {fr : Bool} (h0 : ∀ d l S, (∀ y, l ≠ [y]) → m.app d l S = .bad)
    (k : ∀ (pins : List (Addr × Obj)) (s : Shared) (σ : L2.St) (H : Hp) (Q : VK) (ms : List Addr) (F : Hp) (S : Store) (x y : V) (d e : D) (v u : Value), Inv X pins σ H s → RelV x v → RelV y u → Sto P H ms F S → Rep P ms F x d → Rep P ms F y e → Post P ms F fr Q Ex (m.app d [e] S) →
      wpAny (model X.prog X.w) X.A (call (.builtin id) [v, u]) (EP X pins σ Q) X.xe s) : MtR X id (rvM P fr Ex m) := by
  intro pins s σ H x xs v us Q I rx rs h
  obtain ⟨ms, F, S, d, l, st, rd, rl, h⟩ := h
  have bad : (∀ y, l ≠ [y]) → wpAny (model X.prog X.w) X.A (call (.builtin id) (v :: us)) (EP X pins σ Q) X.xe s := fun z => by
    rw [h0 d l S z] at h
    exact h.elim
  cases rl with
  | nil => exact bad fun d => by simp
  | cons h1 h2 =>
    cases h2 with
    | cons _ _ => exact bad fun d => by simp
    | nil =>
      obtain ⟨u, rfl, ru⟩ := Vals.one rs
      exact k pins s σ H Q ms F S _ _ _ _ v u I rx ru st rd h1 h
theorem m_strip : MtR X "str.strip" (rvM P false Ex .strip) := by
  refine mt_one (fun d l S z => ?_) fun pins s σ H Q ms F S x y d e v u I rx ru st rd re h => ?_
  · match l, z with
    | [], _ => cases d <;> rfl
    | [y], z => exact absurd rfl (z y)
    | y :: _ :: _, _ => cases d <;> cases y <;> rfl
  · cases rd with
    | str a =>
      cases re with
      | str b =>
        have h : Post P ms F false Q Ex (if okLen a.length then .ok (.str (Txt.stripChars a b)) S else .bad) := h
        by_cases c : okLen a.length = true
        · rw [if_pos c] at h
          exact mt_stripChars pins s σ H _ _ v [u] Q I rx (.cons ru .nil) ⟨a, b, rfl, rfl, okLen_le c, h _ _ _ _ (Nx.refl _ _) st (.str _)⟩
        · rw [if_neg c] at h
          exact h.elim
      | _ => exact h.elim
    | _ => exact h.elim
theorem rep_strs : ∀ (l : List Str), RepL P ms F (l.map V.str) (l.map D.str)
  | [] => .nil
  | s :: l => .cons (.str s) (rep_strs l)
theorem m_split : MtR X "str.split" (rvM P true Ex .split) := by
  refine mt_one (fun d l S z => ?_) fun pins s σ H Q ms F S x y d e v u I rx ru st rd re h => ?_
  · match l, z with
    | [], _ => cases d <;> rfl
    | [y], z => exact absurd rfl (z y)
    | y :: _ :: _, _ => cases d <;> cases y <;> rfl
  · cases rd with
    | str a =>
      cases re with
      | str b =>
        have h : Post P ms F true Q Ex (if (okLen (a.length + 2) && !(b.length == 0)) = true then .ok (.lst ((Txt.split a b).map D.str)) S else .bad) := h
        by_cases c : (okLen (a.length + 2) && !(b.length == 0)) = true
        · rw [if_pos c] at h
          rw [Bool.and_eq_true] at c
          refine mt_split pins s σ H _ _ v [u] Q I rx (.cons ru .nil) ⟨a, b, rfl, rfl, by simpa using c.2, okLen_le c.1, fun p hp => ?_⟩
          obtain ⟨s1, f⟩ := st.fresh hp (rep_strs (Txt.split a b))
          exact h p _ _ _ (Nx.refl _ _) s1 f
        · rw [if_neg c] at h
          exact h.elim
      | _ => exact h.elim
    | _ => exact h.elim
theorem strsD_some : ∀ {l : List D} {ns : List Str}, strsD l = some ns → l = ns.map D.str
  | [], ns, h => by cases h; rfl
  | d :: l, ns, h => by
    cases d <;> simp [strsD] at h
    obtain ⟨m, h1, rfl⟩ := h
    rw [strsD_some h1] <;> rfl
theorem m_join (hK : P.K = X.K) : MtR X "str.join" (rvM P false Ex .join) := by
  refine mt_one (fun d l S z => ?_) fun pins s σ H Q ms F S x y d e v u I rx ru st rd re h => ?_
  · match l, z with
    | [], _ => cases d <;> rfl
    | [y], z => exact absurd rfl (z y)
    | y :: _ :: _, _ => cases d <;> cases y <;> rfl
  · cases rd with
    | str a =>
      have h : Post P ms F false Q Ex (match (e.items S).bind strsD with | some l => if okLen (joinLen a l) then .ok (.str (Txt.join a l)) S else .bad | none => .bad) := by
        cases e <;> exact h
      cases q : e.items S with
      | none =>
        rw [q] at h
        exact h.elim
      | some m =>
        rw [q] at h
        dsimp only [Option.bind] at h
        cases q2 : strsD m with
        | none =>
          rw [q2] at h
          exact h.elim
        | some ns =>
          rw [q2] at h
          have e2 := strsD_some q2
          subst e2
          dsimp only at h
          by_cases c : okLen (joinLen a ns) = true
          · rw [if_pos c] at h
            obtain ⟨p, ys, rfl, sq, rl⟩ := items_sq st re q
            have e3 := RepL.strs rl
            subst e3
            exact mt_join pins s σ H _ _ v [u] Q I rx (.cons ru .nil) ⟨a, p, ns, rfl, rfl, hK ▸ sq, okLen_le c, h _ _ _ _ (Nx.refl _ _) st (.str _)⟩
          · rw [if_neg c] at h
            exact h.elim
    | _ => exact h.elim
theorem m_scount : MtR X "str.count" (rvM P false Ex .scount) := by
  refine mt_one (fun d l S z => ?_) fun pins s σ H Q ms F S x y d e v u I rx ru st rd re h => ?_
  · match l, z with
    | [], _ => cases d <;> rfl
    | [y], z => exact absurd rfl (z y)
    | y :: _ :: _, _ => cases d <;> cases y <;> rfl
  · cases rd with
    | str a =>
      cases re with
      | str b => exact mt_count pins s σ H _ _ v [u] Q I rx (.cons ru .nil) ⟨a, b, rfl, rfl, h _ _ _ _ (Nx.refl _ _) st (.int _)⟩
      | _ => exact h.elim
    | _ => exact h.elim
theorem m_find : MtR X "str.find" (rvM P false Ex .find) := by
  refine mt_one (fun d l S z => ?_) fun pins s σ H Q ms F S x y d e v u I rx ru st rd re h => ?_
  · match l, z with
    | [], _ => cases d <;> rfl
    | [y], z => exact absurd rfl (z y)
    | y :: _ :: _, _ => cases d <;> cases y <;> rfl
  · cases rd with
    | str a =>
      cases re with
      | str b => exact mt_find pins s σ H _ _ v [u] Q I rx (.cons ru .nil) ⟨a, b, rfl, rfl, h _ _ _ _ (Nx.refl _ _) st (.int _)⟩
      | _ => exact h.elim
    | _ => exact h.elim
theorem cntD_some {l : List D} {x : D} {k : Nat} (h : cntD l x = some k) : x.pure = true ∧ D.pures l = true ∧ PyData.depth x.py ≤ 30 ∧ PyData.depthAll (D.pys l) ≤ 30 ∧ k = (D.pys l).countP fun y => PyData.eqv y x.py := by
  unfold cntD at h
  by_cases c : (x.pure && D.pures l && decide ((PyData.depth x.py) ≤ 30) && decide (PyData.depthAll (D.pys l) ≤ 30)) = true
  · rw [if_pos c] at h
    simp only [Bool.and_eq_true, decide_eq_true_eq] at c
    obtain ⟨⟨⟨c1, c2⟩, c3⟩, c4⟩ := c
    exact ⟨c1, c2, c3, c4, (Option.some.inj h).symm⟩
  · rw [if_neg c] at h
    cases h
theorem plcD_some {l : List D} {x : D} {k : Nat} (h : plcD l x = some k) : x.pure = true ∧ D.pures l = true ∧ PyData.depth x.py ≤ 30 ∧ PyData.depthAll (D.pys l) ≤ 30 ∧ okLen l.length = true ∧ SeqAt.dataPlace (D.pys l) x.py = some k := by
  unfold plcD at h
  by_cases c : (x.pure && D.pures l && decide ((PyData.depth x.py) ≤ 30) && decide (PyData.depthAll (D.pys l) ≤ 30) && okLen l.length) = true
  · rw [if_pos c] at h
    simp only [Bool.and_eq_true, decide_eq_true_eq] at c
    obtain ⟨⟨⟨⟨c1, c2⟩, c3⟩, c4⟩, c5⟩ := c
    exact ⟨c1, c2, c3, c4, c5, h⟩
  · rw [if_neg c] at h
    cases h
theorem cnt_list (hK : P.K = X.K) (hu : X.A.units + 64 < cLine) {Q : VK} {a : Addr} {ys : List V} {l : List D} {y : V} {e : D} {u : Value} (I : Inv X pins σ H s) (ru : RelV y u) (st : Sto P H ms F S) (re : Rep P ms F y e) (sq : SqL P.K H a ys) (rl : RepL P ms F ys l)
    (h : Post P ms F false Q Ex (cntR l e S)) : wpAny (model X.prog X.w) X.A (call (.builtin "list.count") [.ref a, u]) (EP X pins σ Q) X.xe s := by
  unfold cntR at h
  cases q2 : cntD l e with
  | none =>
    rw [q2] at h
    exact h.elim
  | some k =>
    rw [q2] at h
    obtain ⟨c1, c2, c3, c4, rfl⟩ := cntD_some q2
    obtain ⟨as, r1⟩ := Dp.reads I _ _ _ (hK ▸ Rep.dp st.sub c1 re) ru
    rw [hK] at sq
    have dp : DpAll X.K H ys (D.pys l) := hK ▸ rl.dp st.sub c2
    obtain ⟨its, rv, pl, _⟩ := I.list sq
    obtain ⟨bs, ra⟩ := Dp.readsAll I _ _ _ dp rv
    exact SeqAt.count_list_data pl.isList ra r1 (plain_pys _) (plain_py _) (min_dep c4 hu) ⟨.int _, H, I.tok _, ⟨_, rfl⟩, h _ _ _ _ (Nx.refl _ _) st (.int _)⟩
theorem m_lcount (hK : P.K = X.K) (hu : X.A.units + 64 < cLine) : MtR X "list.count" (rvM P false Ex .lcount) := by
  refine mt_one (fun d l S z => ?_) fun pins s σ H Q ms F S x y d e v u I rx ru st rd re h => ?_
  · match l, z with
    | [], _ => cases d <;> rfl
    | [y], z => exact absurd rfl (z y)
    | y :: _ :: _, _ => cases d <;> cases y <;> rfl
  · cases rd with
    | @lst a xs l e1 r1 =>
      cases rx
      exact cnt_list hK hu I ru st re (.inl (.inl (st.sub _ _ e1))) r1 h
    | @loc a n e1 =>
      cases rx
      cases q : S[n]? with
      | none =>
        simp only [Mt.app, q] at h
        exact h.elim
      | some c =>
        cases c with
        | lst l =>
          simp only [Mt.app, q] at h
          obtain ⟨_, xs, h1, h2⟩ := st.cell n a _ e1 q
          exact cnt_list hK hu I ru st re (.inl (.inl h1)) h2 h
        | _ =>
          simp only [Mt.app, q] at h
          exact h.elim
    | _ => exact h.elim
theorem m_tcount (hK : P.K = X.K) (hu : X.A.units + 64 < cLine) : MtR X "tuple.count" (rvM P false Ex .tcount) := by
  refine mt_one (fun d l S z => ?_) fun pins s σ H Q ms F S x y d e v u I rx ru st rd re h => ?_
  · match l, z with
    | [], _ => cases d <;> rfl
    | [y], z => exact absurd rfl (z y)
    | y :: _ :: _, _ => cases d <;> cases y <;> rfl
  · cases rd with
    | @tup a o xs l e1 d1 r1 =>
      cases rx
      replace h : Post P ms F false Q Ex (cntR l e S) := h
      unfold cntR at h
      cases q2 : cntD l e with
      | none =>
        rw [q2] at h
        exact h.elim
      | some k =>
        rw [q2] at h
        obtain ⟨c1, c2, c3, c4, rfl⟩ := cntD_some q2
        obtain ⟨as, r0⟩ := Dp.reads I _ _ _ (hK ▸ Rep.dp st.sub c1 re) ru
        have dp : DpAll X.K H xs (D.pys l) := hK ▸ r1.dp st.sub c2
        obtain ⟨its, rv, pl, _⟩ := I.tuple (X := X) (a := a) (xs := xs) (.inl (.inr ⟨o, st.sub _ _ e1⟩))
        obtain ⟨bs, ra⟩ := Dp.readsAll I _ _ _ dp rv
        exact SeqAt.count_tuple_data pl ra r0 (plain_pys _) (plain_py _) (min_dep c4 hu) ⟨.int _, H, I.tok _, ⟨_, rfl⟩, h _ _ _ _ (Nx.refl _ _) st (.int _)⟩
    | _ => exact h.elim
theorem m_tindex : MtR X "tuple.index" (rvM P false Ex .tindex) := by
  refine mt_one (fun d l S z => ?_) fun pins s σ H Q ms F S x y d e v u I rx ru st rd re h => ?_
  · match l, z with
    | [], _ => cases d <;> rfl
    | [y], z => exact absurd rfl (z y)
    | y :: _ :: _, _ => cases d <;> cases y <;> rfl
  · cases rd with
    | @tup a o xs l e1 d1 r1 =>
      cases re with
      | str z =>
        replace h : Post P ms F false Q Ex (match (strsD l).bind (idxS · z) with | some k => .ok (.int (k : Int)) S | none => .bad) := h
        cases q : strsD l with
        | none =>
          rw [q] at h
          exact h.elim
        | some ns =>
          rw [q] at h
          have e2 := strsD_some q
          subst e2
          have e3 := RepL.strs r1
          subst e3
          dsimp only [Option.bind] at h
          cases q2 : idxS ns z with
          | none =>
            rw [q2] at h
            exact h.elim
          | some k =>
            rw [q2] at h
            unfold idxS at q2
            rw [List.findIdx?_eq_some_iff_getElem] at q2
            obtain ⟨hk, hz, hno⟩ := q2
            have hz := of_decide_eq_true hz
            refine mt_tup_index pins s σ H _ _ v [u] Q I rx (.cons ru .nil) ⟨a, ns, z, k, rfl, rfl, .inl (.inr ⟨o, st.sub _ _ e1⟩), by rw [List.getElem?_eq_getElem hk, hz], fun m hm e4 => ?_, h _ _ _ _ (Nx.refl _ _) st (.int _)⟩
            have hm' : m < ns.length := Nat.lt_trans hm hk
            rw [List.getElem?_eq_getElem hm'] at e4
            have := hno m hm
            simp [Option.some.inj e4] at this
      | _ => exact h.elim
    | _ => exact h.elim

/-! ### a list in a cell changed -/
theorem m_append : MtR X "list.append" (rvM P false Ex .append) := by
  refine mt_one (fun d l S z => ?_) fun pins s σ H Q ms F S x y d e v u I rx ru st rd re h => ?_
  · match l, z with
    | [], _ => cases d <;> rfl
    | [y], z => exact absurd rfl (z y)
    | y :: _ :: _, _ => cases d <;> cases y <;> rfl
  · cases rd with
    | @loc a n e1 =>
      cases q : S[n]? with
      | none =>
        simp only [Mt.app, q] at h
        exact h.elim
      | some c =>
        cases c with
        | lst l =>
          simp only [Mt.app, q] at h
          obtain ⟨_, xs, h1, h2⟩ := st.cell n a _ e1 q
          by_cases c : okLen l.length = true
          · rw [if_pos c] at h
            exact mt_append pins s σ H _ _ v [u] Q I rx (.cons ru .nil) ⟨a, xs, y, rfl, rfl, h1, by rw [h2.length]; exact okLen_lt c, h _ _ _ _ (Nx.refl _ _) (st.write e1 q (h2.snoc re)) .non⟩
          · rw [if_neg c] at h
            exact h.elim
        | _ =>
          simp only [Mt.app, q] at h
          exact h.elim
    | _ => exact h.elim
theorem m_extend : MtR X "list.extend" (rvM P false Ex .extend) := by
  refine mt_one (fun d l S z => ?_) fun pins s σ H Q ms F S x y d e v u I rx ru st rd re h => ?_
  · match l, z with
    | [], _ => cases d <;> rfl
    | [y], z => exact absurd rfl (z y)
    | y :: _ :: _, _ => cases d <;> cases y <;> rfl
  · cases rd with
    | @loc a n e1 =>
      cases re with
      | @lst b zs m e2 r2 =>
        cases q : S[n]? with
        | none =>
          simp only [Mt.app, q] at h
          exact h.elim
        | some c =>
          cases c with
          | lst l =>
            simp only [Mt.app, q] at h
            obtain ⟨_, xs, h1, h2⟩ := st.cell n a _ e1 q
            by_cases c : okLen (l.length + m.length) = true
            · rw [if_pos c] at h
              exact mt_extend pins s σ H _ _ v [u] Q I rx (.cons ru .nil) ⟨a, b, xs, zs, rfl, rfl, h1, st.sub _ _ e2, by rw [h2.length, r2.length]; exact okLen_le c, h _ _ _ _ (Nx.refl _ _) (st.write e1 q (h2.append r2)) .non⟩
            · rw [if_neg c] at h
              exact h.elim
          | _ =>
            simp only [Mt.app, q] at h
            exact h.elim
      | _ => exact h.elim
    | _ => cases re <;> exact h.elim
theorem m_pop : MtR X "list.pop" (rvM P false Ex .pop) := by
  intro pins s σ H x xs v us Q I rx rs h
  obtain ⟨ms, F, S, d, l, st, rd, rl, h⟩ := h
  cases rl with
  | cons h1 h2 => cases rd <;> first | exact h.elim | (cases h1 <;> exact h.elim)
  | nil =>
    cases rd with
    | @loc a n e1 =>
      cases q : S[n]? with
      | none =>
        simp only [Mt.app, q] at h
        exact h.elim
      | some c =>
        cases c with
        | lst l =>
          simp only [Mt.app, q] at h
          obtain ⟨_, xs, h1, h2⟩ := st.cell n a _ e1 q
          cases q2 : l.getLast? with
          | none =>
            rw [q2] at h
            exact h.elim
          | some y =>
            rw [q2] at h
            rw [List.getLast?_eq_getElem?] at q2
            obtain ⟨w, hw, rw'⟩ := h2.get q2
            exact mt_pop pins s σ H _ _ v us Q I rx rs ⟨a, xs, w, rfl, rfl, h1, by rw [h2.length]; exact hw, h _ _ _ _ (Nx.refl _ _) (st.write e1 q h2.dropLast) rw'⟩
        | _ =>
          simp only [Mt.app, q] at h
          exact h.elim
    | _ => exact h.elim
theorem m_popAt : MtR X "list.pop" (rvM P false Ex .popAt) := by
  refine mt_one (fun d l S z => ?_) fun pins s σ H Q ms F S x y d e v u I rx ru st rd re h => ?_
  · match l, z with
    | [], _ => cases d <;> rfl
    | [y], z => exact absurd rfl (z y)
    | y :: _ :: _, _ => cases d <;> cases y <;> rfl
  · cases rd with
    | @loc a n e1 =>
      cases re with
      | int i =>
        cases q : S[n]? with
        | none =>
          simp only [Mt.app, q] at h
          exact h.elim
        | some c =>
          cases c with
          | lst l =>
            cases l with
            | nil =>
              simp only [Mt.app, q] at h
              exact h.elim
            | cons w l =>
              simp only [Mt.app, q] at h
              obtain ⟨_, xs, h1, h2⟩ := st.cell n a _ e1 q
              by_cases c : i = 0
              · rw [if_pos c] at h
                subst c
                cases h2 with
                | @cons w' xs' _ _ r1 r2 =>
                  exact mt_popAt pins s σ H _ _ v [u] Q I rx (.cons ru .nil) ⟨a, _, 0, 0, w', rfl, rfl, h1, by decide, by decide, by simp [seqIndex?], rfl, h _ _ _ _ (Nx.refl _ _) (st.write e1 q r2) r1⟩
              · rw [if_neg c] at h
                exact h.elim
          | _ =>
            simp only [Mt.app, q] at h
            exact h.elim
      | _ => exact h.elim
    | _ => cases re <;> exact h.elim
end SV
/-! SvSet: sets of texts and whole numbers: made of a list, walked. -/
namespace SV
open PySem PySem.Spec PyProof.Rows L2
/-- a value's key -/
def kOf : Value → Key
  | .int i _ => .inl i
  | .str x _ => .inr x
  | _ => .inl 0
def kE (e : Int × Value) : Key := kOf e.2
theorem kOf_is {k : Key} {v : Value} (h : keyIs k v = true) : kOf v = k := by
  rcases keyIs_shape h with ⟨i, t, rfl, rfl⟩ | ⟨x, t, rfl, rfl⟩ <;> rfl
def EOk (w : World) (e : Int × Value) : Prop := keyIs (kE e) e.2 = true ∧ e.1 = keyH w (kE e)
/-- the set at a: its members are l's -/
def SetQ (w : World) (h : Heap) (a : Addr) (l : List Key) : Prop :=
  ∃ o es ep t, (h.get? a = some o ∧ o.ExactSet ∧ o.data = .set es ep t) ∧ ((∀ e ∈ es.toList, EOk w e) ∧ (es.toList.map kE).Nodup ∧ (∀ k, k ∈ l ↔ k ∈ es.toList.map kE)) ∧
    (es.size ≤ l.length ∧ es.size < scanBound ∧ t.fits es.size = true ∧ Ris t.place.toList ∧ (w.params.followText "set-order" = true ∨ t.led = true))
section
variable {pr : Program} {w : World} {A : Around} {E : Value → Shared → Prop} {s : Shared} {a : Addr} {l : List Key}
theorem SetQ.keep {h h' : Heap} (q : SetQ w h a l) (k : ∀ o, h.get? a = some o → h'.get? a = some o) : SetQ w h' a l :=
  let ⟨o, es, ep, t, ⟨ho, r1⟩, r⟩ := q
  ⟨o, es, ep, t, ⟨k o ho, r1⟩, r⟩
theorem EOk.scan {e : Int × Value} (h : EOk w e) : e.2.scannable = true := by
  rcases keyIs_shape h.1 with ⟨i, t, _, h2⟩ | ⟨x, t, _, h2⟩ <;> rw [h2] <;> rfl
theorem eok_elems {es : List (Int × Value)} (g : ∀ e ∈ es, EOk w e) : ElemsOf (mixKind pr w) es := fun e he => ⟨⟨kE e, (g e he).1, (g e he).2⟩, (g e he).scan⟩
theorem kE_iff {e : Int × Value} (h : EOk w e) (k : Key) : keyIs k e.2 = true ↔ kE e = k := ⟨fun z => kOf_is z, fun z => z ▸ h.1⟩
/-- the last steps of an adding -/
theorem add_end {g : Bool → Sem Unit} (hg : ∀ (b : Bool) (s₁ : Shared) (Q' : Unit → Shared → Prop), Q' () s₁ → wpAny (model pr w) A (g b) Q' E s₁) {o : Obj} {es eq1 : Array (Int × Value)} {ep : Nat} {t tq : SetTable}
    (base : s.heap.get? a = some o ∧ o.ExactSet ∧ o.data = .set es ep t) (inn : (∀ e ∈ eq1.toList, EOk w e) ∧ (eq1.toList.map kE).Nodup ∧ (∀ k, k ∈ l ↔ k ∈ eq1.toList.map kE)) (sz : eq1.size ≤ l.length ∧ eq1.size < scanBound)
    (tb : tq.fits eq1.size = true ∧ Ris tq.place.toList ∧ (w.params.followText "set-order" = true ∨ tq.led = true)) {wd : Bool} {Z : Option Bool → Shared → Prop}
    (hZ : ∀ h', Heap.SameBut a s.heap h' → SetQ w h' a l → Z (some true) { s with heap := h' }) :
    wpAny (model pr w) A (do
      storeSet a eq1 tq
      if (!wd && tq.tooFull) = true then do
        g (relayAll tq eq1 (SetTable.grown eq1.size)).2.2
        storeSet a (relayAll tq eq1 (SetTable.grown eq1.size)).1 (relayAll tq eq1 (SetTable.grown eq1.size)).2.1
        pure (some true)
      else pure (some true)) Z E s := by
  obtain ⟨ho, hx, hd⟩ := base
  obtain ⟨i1, i2, i3⟩ := inn
  refine wpAny_bind (wpAny_storeSet_of ho hd ?_ (fits_of_scanBound sz.2))
  have n1 := store_at (es' := eq1) (t' := tq) ho hd
  have b1 := Heap.SameBut.update s.heap a (Obj.putSet eq1 tq)
  by_cases c : (!wd && tq.tooFull) = true
  · rw [if_pos c]
    have q1 := relayAll_perm tq eq1 (SetTable.grown eq1.size)
    have q2 := relayAll_fits tq eq1 (SetTable.grown eq1.size)
    have q3 := relayAll_ris tq eq1 (SetTable.grown eq1.size)
    have q4 := relayAll_led tq eq1 (SetTable.grown eq1.size)
    generalize relayAll tq eq1 (SetTable.grown eq1.size) = Y at q1 q2 q3 q4 ⊢
    obtain ⟨eq2, tr, gv⟩ := Y
    dsimp only at q1 q2 q3 q4 ⊢
    have zs : eq2.size = eq1.size := by
      have := q1.length_eq
      rwa [Array.length_toList, Array.length_toList] at this
    have zb : eq2.size < scanBound := zs ▸ sz.2
    refine wpAny_bind (hg _ _ _ (wpAny_bind (wpAny_storeSet_of n1 rfl ?_ (fits_of_scanBound zb))))
    have n2 := store_at (es' := eq2) (t' := tr) n1 rfl
    refine wpAny_pure (hZ _ (b1.trans (Heap.SameBut.update _ a _)) ⟨_, eq2, _, tr, ⟨n2, hx, rfl⟩, ⟨fun e he => i1 e (q1.mem_iff.mp he), (q1.map kE).nodup_iff.mpr i2, fun k => (i3 k).trans (q1.map kE).mem_iff.symm⟩, ?_⟩)
    exact ⟨zs ▸ sz.1, zb, q2, q3, tb.2.2.imp id fun z => q4 ▸ z⟩
  · rw [if_neg c]
    exact wpAny_pure (hZ _ b1 ⟨_, eq1, _, tq, ⟨n1, hx, rfl⟩, ⟨i1, i2, i3⟩, sz.1, sz.2, tb⟩)
theorem add_key {k : Key} {v : Value} {Q : Bool → Shared → Prop} (hv : keyIs k v = true) (R : SetQ w s.heap a l) (room : l.length + 1 < scanBound)
    (hQ : ∀ b h', Heap.SameBut a s.heap h' → SetQ w h' a (l ++ [k]) → Q b { s with heap := h' }) : wpAny (model pr w) A (setAddHashed a v (keyH w k)) Q E s := by
  obtain ⟨o, es, ep, t, ⟨ho, hx, hd⟩, ⟨i1, i2, i3⟩, z1, z2, z3, z4, z5⟩ := R
  have hsc : v.scannable = true := by rcases keyIs_shape hv with ⟨i, t, rfl, rfl⟩ | ⟨x, t, rfl, rfl⟩ <;> rfl
  have hel : ElemsOf (mixKind pr w) es.toList := eok_elems i1
  have hv' : (mixKind pr w).is k v = true := hv
  have hash : keyH w k = (mixKind pr w).hash k := rfl
  rw [hash]
  unfold setAddHashed setAddHashedIn
  refine wpAny_holding (wpAny_bind (wpAny_setState_of ho hd z3 ?_))
  dsimp only
  rw [byScan_of hsc z2 hel, if_pos rfl]
  unfold setAddByScan
  refine wpAny_bind (wpAny_bind (wpAny_rule (wpAny_bind (wpAny_setScan_of hv' ho hd z3 hel ?_))))
  have ml : l.length + 1 = (l ++ [k]).length := by simp
  cases hfi : List.findIdx? (fun e => (mixKind pr w).is k e.2) es.toList with
  | some j =>
    dsimp only
    obtain ⟨hj, pj, _⟩ := List.findIdx?_eq_some_iff_getElem.mp hfi
    have mem := List.getElem_mem hj
    have ek : kE es.toList[j] = k := (kE_iff (i1 _ mem) k).1 pj
    refine wpAny_pure (wpAny_pure ?_)
    refine hQ _ s.heap (Heap.SameBut.refl a s.heap) ⟨o, es, ep, t, ⟨ho, hx, hd⟩, ⟨i1, i2, fun q => ?_⟩, by omega, z2, z3, z4, z5⟩
    rw [List.mem_append, List.mem_singleton, i3 q]
    exact ⟨fun z => z.elim id fun z => z ▸ ek ▸ List.mem_map_of_mem mem, .inl⟩
  | none =>
    dsimp only
    have new : k ∉ es.toList.map kE := fun z => by
      obtain ⟨e, he, q⟩ := List.mem_map.mp z
      have c := List.findIdx?_eq_none_iff.mp hfi e he
      have c2 : (mixKind pr w).is k e.2 = true := (kE_iff (i1 e he) k).2 q
      rw [c2] at c
      cases c
    have gw : ∀ (b : Bool) {s₁ : Shared} {Q' : Unit → Shared → Prop}, Q' () s₁ → wpAny (model pr w) A (match b with | true => rule "set.scan.the-table-gave-way" | false => pure ()) Q' E s₁ := fun b s₁ Q' q => by
      cases b
      · exact wpAny_pure q
      · exact wpAny_rule q
    have q1 := layNew_perm t es ((mixKind pr w).hash k) v
    have q2 := layNew_fits t es ((mixKind pr w).hash k) v
    have q3 := layNew_ris t es ((mixKind pr w).hash k) v z4
    have q4 := layNew_led t es ((mixKind pr w).hash k) v
    generalize layNew t es ((mixKind pr w).hash k) v = Y at q1 q2 q3 q4 ⊢
    obtain ⟨eq1, to, wd, gv⟩ := Y
    dsimp only at q1 q2 q3 q4 ⊢
    rw [Array.toList_push] at q1
    have pc : eq1.toList.Perm (((mixKind pr w).hash k, v) :: es.toList) := q1.trans (List.perm_append_singleton _ _)
    have eke : kE ((mixKind pr w).hash k, v) = k := kOf_is hv
    have pk : (eq1.toList.map kE).Perm (k :: es.toList.map kE) := by
      have := pc.map kE
      rwa [List.map_cons, eke] at this
    have j1 : ∀ e ∈ eq1.toList, EOk w e := fun e he => by
      rcases List.mem_cons.mp (pc.mem_iff.mp he) with z | z
      · subst z
        exact ⟨eke.symm ▸ hv, by rw [eke]; rfl⟩
      · exact i1 e z
    have j2 : (eq1.toList.map kE).Nodup := pk.nodup_iff.mpr (List.nodup_cons.mpr ⟨new, i2⟩)
    have j3 : ∀ q, q ∈ l ++ [k] ↔ q ∈ eq1.toList.map kE := fun q => by
      rw [List.mem_append, List.mem_singleton, i3 q, pk.mem_iff, List.mem_cons]
      exact Or.comm
    have n1 : eq1.size = es.size + 1 := by
      have := pc.length_eq
      rwa [List.length_cons, Array.length_toList, Array.length_toList] at this
    have led : w.params.followText "set-order" = true ∨ to.led = true := z5.imp id fun z => q4 ▸ z
    have sz : eq1.size ≤ (l ++ [k]).length ∧ eq1.size < scanBound := ⟨by omega, by omega⟩
    refine wpAny_bind (gw _ ?_)
    split
    · refine wpAny_bind ?_
      rw [hashByValue_scannable 8 hsc]
      refine wpAny_pure (add_end ?_ ⟨ho, hx, hd⟩ ⟨j1, j2, j3⟩ sz ⟨?_, ?_, ?_⟩ ?_)
      · intro b s₁ Q' q
        cases b
        · exact wpAny_pure q
        · exact wpAny_rule q
      · first | (split <;> first | exact q2 | exact SetTable.fits_plain_off q2) | exact q2
      · first | (split <;> exact q3) | exact q3
      · first | (split <;> exact led) | exact led
      · exact fun h' sb r => wpAny_pure (hQ _ h' sb r)
    · refine wpAny_bind (wpAny_pure ?_)
      rw [if_pos rfl]
      refine add_end ?_ ⟨ho, hx, hd⟩ ⟨j1, j2, j3⟩ sz ⟨q2, q3, led⟩ ?_
      · intro b s₁ Q' q
        cases b
        · exact wpAny_pure q
        · exact wpAny_rule q
      · exact fun h' sb r => wpAny_pure (hQ _ h' sb r)
theorem setQ_nil {h : Heap} (ho : h.get? a = some { cls := .type "set", dict := none, data := .set #[] 0 (.fresh 0 0 (!w.params.followText "set-order")) }) : SetQ w h a [] := by
  refine ⟨_, #[], 0, _, ⟨ho, ⟨rfl, rfl, rfl⟩, rfl⟩, ⟨fun e he => by simp at he, by simp, fun k => by simp⟩, Nat.le_refl _, by decide, by rfl, List.Pairwise.nil, ?_⟩
  show _ ∨ (!w.params.followText "set-order") = true
  cases w.params.followText "set-order"
  · exact .inr rfl
  · exact .inl rfl
/-- all that an iterator gives put into the set -/
theorem update_keys {I : Addr} {fp wr : List Addr} {Gn : Array GenState → Array GenState → Prop} {n : Nat} {Pv : Nat → Value → Prop} {St : Nat → Shared → Prop} {Z : Result → Shared → Prop}
    (W : WalksS pr w A.in1 I fp wr Gn n Pv St) (D : Addr) (nD : D ∉ fp) (ks : List Key) (hn : n = ks.length) (hb : ks.length + 1 < scanBound) (hval : ∀ i v, Pv i v → ∃ k, ks[i]? = some k ∧ keyIs k v = true) :
    ∀ (m i : Nat) (s : Shared), n - i = m → i ≤ n → St i s → SetQ w s.heap D (ks.take i) → (∀ s', Moved (D :: wr) Gn s s' → SetQ w s'.heap D ks → Z (.ok (.ret .none)) s') →
      codeAny (model pr w) A (.builtin "set.update.loop" ⟨[.ref D, .ref I], []⟩) Z s := by
  have nDw : D ∉ wr := fun z => nD (W.sub _ z)
  have sub : ∀ b ∈ wr, b ∈ D :: wr := fun _ z => List.mem_cons_of_mem _ z
  intro m
  induction m with
  | zero =>
    intro i s em hi hst hS hZ
    have e1 : i = n := by omega
    subst e1
    rw [show ks.take i = ks from List.take_of_length_le (by omega)] at hS
    refine codeAny_builtin F.entry_set_update_loop ?_
    rw [Around.under_plainId F.plain_set_update_loop _]
    show wpAny _ A.in1 (pyNext (.ref I) >>= _) _ _ s
    refine wpAny_bind (W.done s _ _ hst fun s' mv => ?_)
    exact wpAny_pure (hZ s' (mv.mono sub) (hS.keep fun o e => mv.heap D o nDw e))
  | succ m ih =>
    intro i s em hi hst hS hZ
    refine codeAny_builtin F.entry_set_update_loop ?_
    rw [Around.under_plainId F.plain_set_update_loop _]
    show wpAny _ A.in1 (pyNext (.ref I) >>= _) _ _ s
    refine wpAny_bind (W.item i s _ _ (by omega) hst fun v s' hP hst' mv => ?_)
    obtain ⟨k, hk, hkv⟩ := hval i v hP
    show wpAny _ A.in1 (holding [v] (setAdd D v) >>= _) _ _ s'
    refine wpAny_bind (wpAny_holding ?_)
    unfold setAdd
    refine wpAny_holding (wpAny_bind ((mixKind pr w).pyHash (k := k) hkv ?_))
    refine add_key (s := { s' with toks := s'.toks + 1 }) hkv (hS.keep fun o e => mv.heap D o nDw e) ?_ fun b h' sb hS2 => ?_
    · have : (ks.take i).length ≤ ks.length := by rw [List.length_take]; exact Nat.min_le_right _ _
      omega
    · have e3 : ks.take i ++ [k] = ks.take (i + 1) := by rw [List.take_add_one, hk]; rfl
      rw [e3] at hS2
      refine wpAny_pure ⟨plainId_quiet F.plain_set_update_loop _, ih (i + 1) _ (by omega) (by omega) (W.frame _ s' _ _ hst' (Nat.le_succ _) fun b hb o e => ?_) hS2 fun s'' mv2 hS3 => ?_⟩
      · exact (sb.2 b fun z => nD (z ▸ hb)).trans e
      · refine hZ s'' (Moved.trans W.gtrans ((mv.mono sub).then_heap (Nat.le_succ _) fun b o hb e => ?_) mv2) hS3
        exact (sb.2 b fun z => hb (z ▸ List.mem_cons_self)).trans e
end
end SV
/-! SvSet2: set(..) of a list, of a tuple. -/
namespace SV
open PySem PySem.Spec PyProof.Rows L2
/-- the object that set() begins with -/
abbrev set0 (w : World) : Obj := { cls := .type "set", dict := none, data := .set #[] 0 (.fresh 0 0 (!w.params.followText "set-order")) }
section
variable {pr : Program} {w : World} {A : Around} {E : Value → Shared → Prop} {s : Shared}
set_option maxHeartbeats 6400000 in
theorem call_set {c : Addr} (T : String) (hT : T = "list" ∨ T = "tuple") {items : Array Value} {ks : List Key} {Q : Value → Shared → Prop} (hh : A.handled = none)
    {oc : Obj} {nn : Nat} (hoc : s.heap.get? c = some oc) (hcl : oc.cls = .type T) (hdt : oc.data = .seq items nn) (hsz : items.size = ks.length) (hval : ∀ (i : Nat) (v : Value), items[i]? = some v → ∃ k, ks[i]? = some k ∧ keyIs k v = true) (hb : ks.length + 1 < scanBound)
    (h : ∀ (h' : Heap) (tk : Nat), SetQ w h' s.heap.objs.size ks → (∀ b o, s.heap.get? b = some o → h'.get? b = some o) → Q (.ref s.heap.objs.size) { s with heap := h', toks := tk }) :
    wpAny (model pr w) A (call (.type "set") [.ref c]) Q E s := by
  obtain ⟨mc, tl, hmro⟩ := F.called_set.mro
  have hmade := F.called_set.made
  have hsub := F.called_set.sub
  refine wpAny_call (codeAny_of_tree ?_)
  show wpAny _ _ (callAny (.type "set") _) _ _ _
  refine wpAny_pure ⟨Code.quiet_builtin _ (by decide +kernel), codeAny_builtin F.entry_type_call ?_⟩
  rw [Around.under_plain (weight_type_call_type "set" [.ref c] []) rfl]
  have f1 := F.called_set.notType
  have f2 := F.called_set.canCreate
  have f3 := F.typeCall_set_1 (.ref c)
  repeat (any_goals (first | assumption | wp_step))
  refine codeAny_mono (code_set_led1 (.ref c) (E := E) (Q₁ := fun u s₁ => u = .ref s.heap.objs.size ∧ s₁ = { s with heap := s.heap.push (set0 w) }) ⟨rfl, rfl⟩) fun r s₁ hr => ?_
  cases r with
  | error e => exact hr
  | ok fl =>
    cases fl with
    | ret u =>
      obtain ⟨rfl, rfl⟩ := hr
      have hS : (s.heap.push (set0 w)).get? s.heap.objs.size = some (set0 w) := Heap.get?_push_size _ rfl
      have hTy : Shared.TypeIs { s with heap := s.heap.push (set0 w) } (.ref s.heap.objs.size) "set" := ⟨_, hS, rfl⟩
      have g1 := F.called_set.init.lookup
      have g2 := F.called_set.init.bind (.ref s.heap.objs.size)
      repeat (any_goals (first | assumption | wp_step))
      refine codeAny_mono (codeAny_call_builtin (R := wants (fun r s₂ => r = .none ∧ ∃ h' tk, s₂ = { s with heap := h', toks := tk } ∧ SetQ w h' s.heap.objs.size ks ∧ (∀ b o, s.heap.get? b = some o → h'.get? b = some o)) E)
        F.called_set.init.plain F.entry_set_init (check_set_init_1 hTy ?_)) fun r₂ s₂ hr₂ => ?_
      · have lt : c < s.heap.objs.size := Heap.lt_size hoc
        have hh3 : A.in1.in1.in1.handled = none := by simp [hh]
        obtain ⟨ocls, odict, odata, oslots⟩ := oc
        simp only at hcl hdt
        subst hcl hdt
        have hoc1 : (s.heap.push (set0 w)).get? c = some { cls := .type T, dict := odict, data := .seq items nn, slots := oslots } := Heap.get?_push_of_some _ hoc
        have zz : (s.heap.push (set0 w)).objs.size = s.heap.objs.size + 1 := Heap.size_push ..
        have nI : c ≠ (s.heap.push (set0 w)).objs.size := by
          rw [zz]
          exact Nat.ne_of_lt (Nat.lt_succ_of_lt lt)
        have nD : s.heap.objs.size ∉ [(s.heap.push (set0 w)).objs.size, c] := by
          rw [zz]
          simp only [List.mem_cons, List.not_mem_nil, or_false, not_or]
          exact ⟨Nat.ne_of_lt (Nat.lt_succ_self _), Nat.ne_of_gt lt⟩
        have e0 : ∀ (O : Obj), ((s.heap.push (set0 w)).push O).get? s.heap.objs.size = some (set0 w) := fun O => Heap.get?_push_of_some _ hS
        -- behind the walk
        have last : ∀ (O : Obj) (s' : Shared), Moved [s.heap.objs.size, (s.heap.push (set0 w)).objs.size] (fun a b => b = a) { s with heap := (s.heap.push (set0 w)).push O } s' → SetQ w s'.heap s.heap.objs.size ks →
            Value.none = Value.none ∧ ∃ h' tk, s' = { s with heap := h', toks := tk } ∧ SetQ w h' s.heap.objs.size ks ∧ (∀ b o, s.heap.get? b = some o → h'.get? b = some o) := fun O s' mv hS' => by
          obtain ⟨h', gn, dr, tk, ow⟩ := s'
          have q1 : gn = s.gens := mv.gens
          have q2 : dr = s.drawn := mv.drawn
          have q3 : ow = s.os := mv.os
          subst q1 q2 q3
          refine ⟨rfl, h', tk, rfl, hS', fun b o e => ?_⟩
          have lb : b < s.heap.objs.size := Heap.lt_size e
          refine mv.heap b o ?_ (Heap.get?_push_of_some _ (Heap.get?_push_of_some _ e))
          rw [zz]
          simp only [List.mem_cons, List.not_mem_nil, or_false, not_or]
          exact ⟨Nat.ne_of_lt lb, Nat.ne_of_lt (Nat.lt_succ_of_lt lb)⟩
        rcases hT with rfl | rfl
        · have k1 := F.sub_list_set
          have k2 := F.sub_list_frozenset
          have k3 : (Value.type "list" == Value.type "dict") = false := by decide
          have hl1 : (s.heap.push (set0 w)).IsList c items := ⟨_, hoc1, rfl, nn, rfl⟩
          unfold Builtin.«set.__init__» noKeywords Builtin.Frozenset.updateFrom
          generalize hPI : pyIter = PI
          wp_walk
          subst hPI
          refine wpAny_pyIter_list hl1 (wpAny_bind (wpAny_runValue ?_))
          refine update_keys ((Walks.list hh3 _ c nI items).toS) s.heap.objs.size nD ks hsz hb hval (items.size - 0) 0 _ rfl (Nat.zero_le _) ⟨⟨_, Heap.get?_push_size _ rfl, rfl, rfl⟩, hl1.push _⟩ (setQ_nil (e0 _)) fun s' mv hS' => ?_
          show wpAny _ _ _ _ _ _
          refine wpAny_pure ?_
          show wpAny _ _ (ret Value.none) _ _ _
          exact wpAny_pure (last _ s' mv hS')
        · have k1 := F.sub_tuple_set
          have k2 := F.sub_tuple_frozenset
          have k3 : (Value.type "tuple" == Value.type "dict") = false := by decide
          have hl1 : (s.heap.push (set0 w)).IsTuple c items := ⟨_, hoc1, rfl, nn, rfl⟩
          unfold Builtin.«set.__init__» noKeywords Builtin.Frozenset.updateFrom
          generalize hPI : pyIter = PI
          wp_walk
          subst hPI
          refine wpAny_pyIter_tuple hl1 (wpAny_bind (wpAny_runValue ?_))
          refine update_keys ((Walks.tuple hh3 _ c nI items).toS) s.heap.objs.size nD ks hsz hb hval (items.size - 0) 0 _ rfl (Nat.zero_le _) ⟨⟨_, Heap.get?_push_size _ rfl, rfl, rfl⟩, hl1.push _⟩ (setQ_nil (e0 _)) fun s' mv hS' => ?_
          show wpAny _ _ _ _ _ _
          refine wpAny_pure ?_
          show wpAny _ _ (ret Value.none) _ _ _
          exact wpAny_pure (last _ s' mv hS')
      · cases r₂ with
        | error e => exact hr₂
        | ok fl₂ =>
          cases fl₂ with
          | ret r =>
            obtain ⟨rfl, h', tk, rfl, hS', hk'⟩ := hr₂
            repeat (any_goals (first | assumption | wp_step))
            exact h _ _ hS' hk'
          | _ => exact hr₂.elim
    | _ => exact hr.elim
end
end SV
/-! SvSet3: sorted(set(..)), len(set(..)). -/
namespace SV
open PySem PySem.Spec PyProof.Rows L2

/-! ### each once -/
theorem mem_dd : ∀ {l : List SKey} {k : SKey}, k ∈ dd l ↔ k ∈ l
  | [], k => Iff.rfl
  | x :: l, k => by
    unfold dd
    split
    · next h =>
      rw [mem_dd, List.mem_cons]
      exact ⟨.inr, fun z => z.elim (fun e => e ▸ h) id⟩
    · rw [List.mem_cons, List.mem_cons, mem_dd]
theorem nodup_dd : ∀ (l : List SKey), (dd l).Nodup
  | [] => List.nodup_nil
  | x :: l => by
    unfold dd
    split
    · exact nodup_dd l
    · next h => exact List.nodup_cons.mpr ⟨fun z => h (mem_dd.mp z), nodup_dd l⟩
theorem len_dd : ∀ (l : List SKey), (dd l).length ≤ l.length
  | [] => Nat.le_refl _
  | x :: l => by
    unfold dd
    have := len_dd l
    split
    · exact Nat.le_succ_of_le this
    · exact Nat.succ_le_succ this
theorem kD_toks {a b : SKey} (h : PySem.W.keyToks (kD a).py = PySem.W.keyToks (kD b).py) : a = b := by
  cases a <;> cases b <;> simp [kD, D.py, PySem.W.keyToks] at h
  · rw [h]
  · exact congrArg Sum.inr (PySem.W.str_of_cps (congrArg Array.toList h))
/-- a sorted list of keys does not hang on their order -/
theorem sort_keys {ks ms : List SKey} (p : ks.Perm ms) : sortD (ks.map kD) = sortD (ms.map kD) := by
  have T := PySem.W.sortLe_total (α := D) (PyProof.Rows.listOrd PyProof.Rows.itemOrd) false (fun b => PySem.W.keyToks b.py)
  have tot : ∀ a b : D, (PySem.W.dataLe false D.py a b || PySem.W.dataLe false D.py b a) = true := fun a b => by
    rw [Bool.or_eq_true]
    exact T.total a b
  have s1 := List.pairwise_mergeSort (le := PySem.W.dataLe false D.py) (fun a b c => T.trans a b c) tot (ks.map kD)
  have s2 := List.pairwise_mergeSort (le := PySem.W.dataLe false D.py) (fun a b c => T.trans a b c) tot (ms.map kD)
  have p2 : (sortD (ks.map kD)).Perm (sortD (ms.map kD)) := (sortD_perm _).trans ((p.map kD).trans (sortD_perm _).symm)
  refine p2.eq_of_pairwise (fun a b ha hb h1 h2 => ?_) s1 s2
  obtain ⟨k1, m1, rfl⟩ := List.mem_map.mp ((sortD_perm _).mem_iff.mp ha)
  obtain ⟨k2, m2, rfl⟩ := List.mem_map.mp ((sortD_perm _).mem_iff.mp hb)
  have q1 : (!(PyProof.Rows.listOrd PyProof.Rows.itemOrd).blt (PySem.W.keyToks (kD k2).py) (PySem.W.keyToks (kD k1).py)) = true := h1
  have q2 : (!(PyProof.Rows.listOrd PyProof.Rows.itemOrd).blt (PySem.W.keyToks (kD k1).py) (PySem.W.keyToks (kD k2).py)) = true := h2
  rw [Bool.not_eq_true'] at q1 q2
  rw [kD_toks ((PyProof.Rows.listOrd PyProof.Rows.itemOrd).total _ _ q2 q1)]
theorem ok_perm {ks ms : List SKey} (p : ks.Perm ms) (h : okKeys ms = true) : okKeys ks = true := by
  unfold okKeys at h ⊢
  rw [p.length_eq]
  simp only [Bool.and_eq_true, Bool.or_eq_true, List.all_eq_true] at h ⊢
  exact ⟨h.1.imp (fun z k hk => z k (p.mem_iff.mp hk)) (fun z k hk => z k (p.mem_iff.mp hk)), h.2⟩
theorem ok_dd {ks : List SKey} (h : okKeys ks = true) : okKeys (dd ks) = true := by
  unfold okKeys at h ⊢
  simp only [Bool.and_eq_true, Bool.or_eq_true, List.all_eq_true, decide_eq_true_eq] at h ⊢
  have := len_dd ks
  exact ⟨h.1.imp (fun z k hk => z k (mem_dd.mp hk)) (fun z k hk => z k (mem_dd.mp hk)), by omega⟩
theorem keys_alike {ks : List SKey} (h : okKeys ks = true) : PySem.W.AllAlike ((ks.map kD).map D.py) ∧ PySem.W.Sortable ((ks.map kD).map D.py) := by
  unfold okKeys at h
  simp only [Bool.and_eq_true, Bool.or_eq_true, List.all_eq_true] at h
  constructor
  · intro d hd d' hd'
    rw [List.map_map] at hd hd'
    obtain ⟨k, m, rfl⟩ := List.mem_map.mp hd
    obtain ⟨k', m', rfl⟩ := List.mem_map.mp hd'
    rcases h.1 with z | z
    · have a := z k m
      have b := z k' m'
      cases k <;> cases k' <;> first | rfl | (cases a; done) | (cases b; done)
    · have a := z k m
      have b := z k' m'
      cases k <;> cases k' <;> first | rfl | (cases a; done) | (cases b; done)
  · refine .inr fun d hd => ?_
    rw [List.map_map] at hd
    obtain ⟨k, m, rfl⟩ := List.mem_map.mp hd
    cases k <;> simp [kD, D.py]
/-! ### the set in the abstract heap -/
def SetX (w : World) (a : Addr) (l : List SKey) : HO := .ext fun h => SetQ w h a l
theorem setX_new {w : World} {pr : Program} {H : Hp} {h : Heap} {a : Addr} {l : List SKey} (q : SetQ w h a l) : ObjOk pr w H h a (SetX w a l) := by
  have ⟨o, _, _, _, ⟨ho, _⟩, _⟩ := q
  exact ⟨q, ⟨o, ho⟩, fun h1 h2 p k => SetQ.keep p k⟩
variable {X : Cx} {pins : List (Addr × Obj)} {σ : L2.St} {H : Hp} {s : Shared} {P : Pg} {ms : List Addr} {F : Hp} {S : Store} {Ex : XQ}
theorem setX_get {a : Addr} {l : List SKey} (I : Inv X pins σ H s) (ha : H a = some (SetX X.w a l)) : SetQ X.w s.heap a l := (I.hok a _ ha).1
theorem keys_vals : ∀ {l : List D} {ks : List SKey} {xs : List V} {us : List Value}, keysD l = some ks → RepL P ms F xs l → Vals xs us → us.length = ks.length ∧ ∀ (i : Nat) (v : Value), us[i]? = some v → ∃ k, ks[i]? = some k ∧ keyIs k v = true
  | [], ks, xs, us, e, r, h => by
    cases r
    cases h
    cases e
    exact ⟨rfl, fun i v z => by simp at z⟩
  | d :: l, ks, xs, us, e, r, h => by
    cases r with
    | cons r1 r2 =>
      cases h with
      | cons h1 h2 =>
        unfold keysD at e
        split at e
        · next k ks' e1 e2 =>
          cases e
          obtain ⟨n, ih⟩ := keys_vals e2 r2 h2
          refine ⟨by simp [n], fun i v z => ?_⟩
          cases i with
          | succ i => exact ih i v (by simpa using z)
          | zero =>
            have z : _ = v := Option.some.inj z
            subst z
            refine ⟨k, rfl, ?_⟩
            cases r1 with
            | int i =>
              cases e1
              obtain ⟨t, rfl⟩ := h1
              exact keyIs_int _ _
            | str x =>
              cases e1
              obtain ⟨t, rfl⟩ := h1
              exact keyIs_str _ _
            | _ => cases e1
        · cases e
/-- set(..) by values -/
def rvSet (X : Cx) (P : Pg) : List V → Hp → VK → Prop := fun vs H Q => ∃ ms F S v d l ks, vs = [v] ∧ Sto P H ms F S ∧ Rep P ms F v d ∧ d.items S = some l ∧ keysD l = some ks ∧ okKeys ks = true ∧ ∀ p, H p = none → Q (.ref p) (upd H p (SetX X.w p ks))
theorem c_set (hK : P.K = X.K) (hc : X.calm = true) : CallR X (.type "set") (rvSet X P) := by
  intro pins s σ H xs us Q I r h
  obtain ⟨ms, F, S, v, d, l, ks, rfl, st, rv, hi, hk, ho, q⟩ := h
  obtain ⟨u, rfl, ru⟩ := Vals.one r
  obtain ⟨a, ys, rfl, sq, rl⟩ := items_sq st rv hi
  cases ru
  rw [hK] at sq
  have hl : ks.length + 1 < scanBound := by
    unfold okKeys at ho
    simp only [Bool.and_eq_true, decide_eq_true_eq] at ho
    have : scanBound = 4096 := rfl
    omega
  have fin : ∀ (us : List Value) (T : String) (o : Obj) (n : Nat), (T = "list" ∨ T = "tuple") → s.heap.get? a = some o → o.cls = .type T → o.data = .seq us.toArray n → Vals ys us → wpAny (model X.prog X.w) X.A (call (.type "set") [.ref a]) (EP X pins σ Q) X.xe s := fun us T o n hT ho hcl hd rv => by
    obtain ⟨n1, n2⟩ := keys_vals hk rl rv
    refine call_set T hT (I.ok.hd hc) ho hcl hd (by rw [List.size_toArray]; exact n1) (fun i v e => n2 i v (by rw [List.getElem?_toArray] at e; exact e)) hl fun h' tk hS k => ?_
    have hn : H s.heap.objs.size = none := I.hok.fresh (Nat.le_refl _)
    have J : Inv X pins σ (upd H s.heap.objs.size (SetX X.w s.heap.objs.size ks)) { s with heap := h', toks := tk } :=
      I.call' (ch := []) rfl (Un.laid k (Nat.le_refl _) hn) (I.hok.laid k (Nat.le_refl _) (setX_new hS)) I.bare (fun _ z => nomatch z)
    exact ⟨.ref _, _, J, rfl, q _ hn⟩
  rcases sq with sq | sq
  · obtain ⟨its, rv, ⟨o, n, ho, hc, _, hd⟩, _⟩ := I.list sq
    exact fin its "list" o n (.inl rfl) ho hc hd rv
  · obtain ⟨its, rv, ⟨o, ho, hc, n, hd⟩, _⟩ := I.tuple sq
    exact fin its "tuple" o n (.inr rfl) ho hc hd rv
/-- len of the set -/
def rvLenS (X : Cx) (P : Pg) : List V → Hp → VK → Prop := fun vs H Q => ∃ p ks, vs = [.ref p] ∧ H p = some (SetX X.w p ks) ∧ okKeys ks = true ∧ Q (.int (dd ks).length) H
theorem set_perm {w : World} {h : Heap} {a : Addr} {ks : List SKey} (q : SetQ w h a ks) : ∃ o es ep t, h.get? a = some o ∧ o.ExactSet ∧ o.data = .set es ep t ∧ t.fits es.size = true ∧ es.size < scanBound ∧ Ris t.place.toList ∧ (w.params.followText "set-order" = true ∨ t.led = true) ∧ (∀ e ∈ es.toList, EOk w e) ∧ (es.toList.map kE).Perm (dd ks) := by
  obtain ⟨o, es, ep, t, ⟨ho, hx, hd⟩, ⟨i1, i2, i3⟩, z1, z2, z3, z4, z5⟩ := q
  exact ⟨o, es, ep, t, ho, hx, hd, z3, z2, z4, z5, i1, (List.perm_ext_iff_of_nodup i2 (nodup_dd ks)).mpr fun k => by rw [mem_dd, i3]⟩
theorem c_lenS : CallR X (.builtin "len") (rvLenS X P) := by
  intro pins s σ H xs us Q I r h
  obtain ⟨p, ks, rfl, hp, ho, q⟩ := h
  obtain ⟨u, rfl, ru⟩ := Vals.one r
  cases ru
  obtain ⟨o, es, ep, t, ho, hx, hd, hf, hb, _, _, _, pm⟩ := set_perm (setX_get I hp)
  have e : es.size = (dd ks).length := by
    have := pm.length_eq
    rwa [List.length_map, Array.length_toList] at this
  have : scanBound = 4096 := rfl
  refine call_len_set ho hx hd hf (by omega) ⟨.int (dd ks).length, H, I.tok _, ⟨_, by rw [e]⟩, q⟩
theorem each_keys {h : Heap} : ∀ (vs : List Value), (∀ v ∈ vs, keyIs (kOf v) v = true) → PySem.W.EachIs (RepU P ms F) vs (vs.map fun v => kD (kOf v)) ∧ PySem.W.EachIs (fun v d => ∃ as, Reads h v (D.py d) as) vs (vs.map fun v => kD (kOf v))
  | [], _ => ⟨.nil, .nil⟩
  | v :: vs, hv => by
    obtain ⟨h1, h2⟩ := each_keys vs fun u hu => hv u (List.mem_cons_of_mem _ hu)
    rcases keyIs_shape (hv v List.mem_cons_self) with ⟨i, t, e1, e2⟩ | ⟨x, t, e1, e2⟩
    · subst e2
      exact ⟨.cons ⟨.int i, ⟨t, rfl⟩, .int i⟩ h1, .cons ⟨[], .int i t⟩ h2⟩
    · subst e2
      exact ⟨.cons ⟨.str x, ⟨t, rfl⟩, .str x⟩ h1, .cons ⟨[], .str x t⟩ h2⟩
/-- sorted(..) of the set -/
def rvSortS (X : Cx) (P : Pg) : List V → Hp → VK → Prop := fun vs H Q => ∃ p ks ms F S, vs = [.ref p] ∧ H p = some (SetX X.w p ks) ∧ okKeys ks = true ∧ Sto P H ms F S ∧ New P ms F Q (sortD ((dd ks).map kD)) S
theorem c_sortS (hu : X.A.units + 64 < cLine) (hc : X.calm = true) : CallR X (.builtin "sorted") (rvSortS X P) := by
  intro pins s σ H xs us Q I r h
  obtain ⟨p, ks, ms, F, S, rfl, hp, hok, st, q⟩ := h
  obtain ⟨u, rfl, ru⟩ := Vals.one r
  cases ru
  obtain ⟨o, es, ep, t, ho, hx, hd, hf, hb, hr, hl, he, pm⟩ := set_perm (setX_get I hp)
  refine Calls.call_function_entry kind_sorted plain_sorted entry_sorted (args_sorted1 _) ?_
  unfold Builtin.«sorted»
  refine wpAny_bind (m := checkCount "sorted" 1 1 _) (wpAny_pure ?_)
  refine wpAny_bind (collect_set (A := X.A.in1) (I.ok.hd hc) ⟨o, ho, hx.1, hd⟩ hf hb hr hl fun s1 vs k1 z1 g1 o1 pv => ?_)
  have pk : (vs.map kOf).Perm (dd ks) := by
    have := pv.map kOf
    rw [List.map_map] at this
    exact this.trans pm
  have vk : ∀ v ∈ vs, keyIs (kOf v) v = true := fun v hv => by
    obtain ⟨e, he', rfl⟩ := List.mem_map.mp (pv.mem_iff.mp hv)
    exact (he e he').1
  have ok2 : okKeys (vs.map kOf) = true := ok_perm pk (ok_dd hok)
  have lz : vs.length < 4000 := by
    have q1 := ok2
    unfold okKeys at q1
    simp only [Bool.and_eq_true, decide_eq_true_eq, List.length_map] at q1
    exact q1.2
  have hL : vs.length ≤ sizeLine := by
    rw [sizeLine_eq]
    omega
  obtain ⟨al1, al2⟩ := keys_alike ok2
  have el : vs.map (fun v => kD (kOf v)) = (vs.map kOf).map kD := by rw [List.map_map]; rfl
  refine wpAny_bind (wpAny_newList ?_ hL)
  have hoL : (s1.heap.push (seqObj "list" vs.toArray 0)).get? s1.heap.objs.size = some (seqObj "list" vs.toArray 0) := Heap.get?_push_size _ rfl
  have er := (each_keys (P := P) (ms := ms) (F := F) (h := PySem.W.sortingHeap (s1.heap.push (seqObj "list" vs.toArray 0)) s1.heap.objs.size vs) vs vk)
  rw [el] at er
  have Z := PySem.W.SortsAt.data (prog := X.prog) (w := X.w) (A := X.A.in1.in1) (s := { s1 with heap := PySem.W.sortingHeap (s1.heap.push (seqObj "list" vs.toArray 0)) s1.heap.objs.size vs }) (PySem.W.each_map (R := fun v d => ∃ as, Reads (PySem.W.sortingHeap (s1.heap.push (seqObj "list" vs.toArray 0)) s1.heap.objs.size vs) v d as) D.py er.2) al1 al2
    (PySem.W.bound_map (A := X.A.in1.in1) fun d hd => ?_)
  · refine wpAny_bind (wpAny_holding (wpAny_call_entry slot_list_sort ⟨_, hoL, rfl⟩ entry_list_sort (PySem.W.list_sort_vals (s := { s1 with heap := s1.heap.push (seqObj "list" vs.toArray 0) }) hoL Z hL ⟨_, rfl, ?_⟩) (args_list_sort _)))
    generalize hout : PySem.W.sortVals (PySem.W.dataKind (PySem.W.sortingHeap (s1.heap.push (seqObj "list" vs.toArray 0)) s1.heap.objs.size vs) (((vs.map kOf).map kD).map D.py)) false vs vs = out
    have eo : PySem.W.EachIs (RepU P ms F) out (sortD ((vs.map kOf).map kD)) := by
      rw [← hout]
      exact PySem.W.sortVals_data false er.1 er.2 al1
    rw [sort_keys pk] at eo
    obtain ⟨c, hcc⟩ := sortedHeap_at (vs := vs) (out := out.toArray) hoL
    obtain ⟨zs, rz, qz⟩ := uEach eo
    refine wpAny_pure ⟨_, rfl, ?_⟩
    refine ep_list (inv_kept I k1 g1 o1) (fun b u q => ?_) rfl rfl hcc rz qz ?_ st q
    · have hlt := Heap.lt_size q
      show (sortedHeap (s1.heap.push (seqObj "list" vs.toArray 0)) s1.heap.objs.size vs out.toArray).get? b = some u
      rw [sortedHeap_old (Nat.ne_of_lt hlt) (by rw [size_push']; exact Nat.lt_succ_of_lt hlt)]
      exact Heap.get?_push_of_some _ q
    · rw [(sortD_perm _).length_eq, List.length_map, ← pk.length_eq, List.length_map]
      exact hL
  · obtain ⟨k, _, rfl⟩ := List.mem_map.mp hd
    cases k <;> simp [kD, D.py, PyData.depth] <;> omega
/-! ### as expressions -/
section
variable {a : Expr} {p p2 q2 pos : Pos} {W : WX} {fa : Env → Store → R D}
def setOfF (g : List D → Store → R D) (fa : Env → Store → R D) : Env → Store → R D := fun env S => (fa env S).bind fun x S => match x.items S with
    | some l => g l S
    | none => .bad
theorem pa_one {e : Expr} {te : TE} (h : PE X e te) (hn : notStar e = true) : PA X [e] (fun σ H Q => te σ H fun v H1 => Q [v] H1) := by
  have k := pa_cons h pa_nil (star_cons hn)
  exact ⟨fun pos pins s σ H Q I z => k.run pos pins s σ H Q I z⟩
theorem s_sset (hK : P.K = X.K) (hu : X.A.units + 64 < cLine) (hc : X.calm = true) (hg : Gl X "sorted") (hm : X.mg "sorted" = none) (hv : bootBuiltins "sorted" = some (.builtin "sorted")) (hg2 : Gl X "set") (hm2 : X.mg "set" = none) (hv2 : bootBuiltins "set" = some (.type "set"))
    (hn : notStar a = true) (ha : PE X a (tE P W false fa)) : PE X (.Call (.Name "sorted" p) [.Call (.Name "set" p2) [a] [] q2] [] pos) (tE P W true (setOfF ssetR fa)) := by
  have k1 := pe_callTy (p := p2) (pos := q2) (c_set hK hc) hg2 hm2 hv2 (pa_one ha hn) (by decide) (by decide) (star_cons hn) (back_any rfl)
  refine (pe_callB (c_sortS (P := P) hu hc) hg hm hv (pa_one k1 rfl) (by decide) (by decide) (star_cons rfl) (back_any rfl)).imp fun σ H Q ⟨env, ms, F, S, hs, st, z⟩ => ?_
  refine ⟨env, ms, F, S, hs, st, z.bind fun x S1 v H1 ms1 F1 nx st1 rx h1 => ?_⟩
  cases qi : x.items S1 with
  | none =>
    rw [qi] at h1
    exact h1.elim
  | some l =>
    rw [qi] at h1
    dsimp only at h1
    unfold ssetR at h1
    cases qk : keysD l with
    | none =>
      rw [qk] at h1
      exact h1.elim
    | some ks =>
      rw [qk] at h1
      dsimp only at h1
      by_cases ok : okKeys ks = true
      · rw [if_pos ok] at h1
        exact ⟨ms1, F1, S1, v, x, l, ks, rfl, st1, rx, qi, qk, ok, fun r hr => ⟨r, ks, ms1, F1, S1, rfl, upd_same, ok, st1.free hr, h1⟩⟩
      · rw [if_neg ok] at h1
        exact h1.elim
theorem s_lset (hK : P.K = X.K) (hc : X.calm = true) (hg : Gl X "len") (hm : X.mg "len" = none) (hv : bootBuiltins "len" = some (.builtin "len")) (hg2 : Gl X "set") (hm2 : X.mg "set" = none) (hv2 : bootBuiltins "set" = some (.type "set"))
    (hn : notStar a = true) (ha : PE X a (tE P W false fa)) : PE X (.Call (.Name "len" p) [.Call (.Name "set" p2) [a] [] q2] [] pos) (tE P W false (setOfF lsetR fa)) := by
  have k1 := pe_callTy (p := p2) (pos := q2) (c_set hK hc) hg2 hm2 hv2 (pa_one ha hn) (by decide) (by decide) (star_cons hn) (back_any rfl)
  refine (pe_callB (c_lenS (P := P)) hg hm hv (pa_one k1 rfl) (by decide) (by decide) (star_cons rfl) (back_any rfl)).imp fun σ H Q ⟨env, ms, F, S, hs, st, z⟩ => ?_
  refine ⟨env, ms, F, S, hs, st, z.bind fun x S1 v H1 ms1 F1 nx st1 rx h1 => ?_⟩
  cases qi : x.items S1 with
  | none =>
    rw [qi] at h1
    exact h1.elim
  | some l =>
    rw [qi] at h1
    dsimp only at h1
    unfold lsetR at h1
    cases qk : keysD l with
    | none =>
      rw [qk] at h1
      exact h1.elim
    | some ks =>
      rw [qk] at h1
      dsimp only at h1
      by_cases ok : okKeys ks = true
      · rw [if_pos ok] at h1
        have h2 : Ord P ms1 F1 Q (.int (dd ks).length) S1 := h1
        exact ⟨ms1, F1, S1, v, x, l, ks, rfl, st1, rx, qi, qk, ok, fun r hr => ⟨r, ks, rfl, upd_same, ok, h2 _ _ ms1 F1 (Nx.refl _ _) (st1.free hr) (.int _)⟩⟩
      · rw [if_neg ok] at h1
        exact h1.elim
end
end SV
/-! SvI: what loops walk; list comprehensions. -/
namespace SV
open PySem PySem.Spec PyProof.Rows L2
variable {X : Cx} {pins : List (Addr × Obj)} {σ : L2.St} {H : Hp} {s : Shared} {P : Pg} {ms : List Addr} {F : Hp} {S : Store} {Ex : XQ}

/-- what a target of this form takes -/
def ItemR (P : Pg) (ms : List Addr) (F H : Hp) (tg : Tg) (x : V) (d : D) : Prop := match tg with
  | .one _ => Rep P ms F x d
  | .two _ _ => ∀ l, d = .tup l → ∃ T xs, x = .ref T ∧ SqT P.K H T xs ∧ RepL P ms F xs l
theorem itemR {pv : List (Addr × List V)} {tg : Tg} {x : V} {d : D} (st : Sto (P.wp pv) H ms F S) (r : Rep P ms F x d) : ItemR P ms F H tg x d := by
  cases tg with
  | one i => exact r
  | two i j =>
    intro l e
    subst e
    cases r with
    | tup h1 h2 h3 => exact ⟨_, _, rfl, .inl (.inr ⟨_, st.sub _ _ h1⟩), h3⟩
/-- the iterator yields these items -/
def ItOk (P : Pg) (tg : Tg) (J : L2.It) (src : Src) (ms : List Addr) (F : Hp) : Prop :=
  ∀ (pv : List (Addr × List V)) (i : Nat) (H : Hp) (ms' : List Addr) (F' : Hp) (S : Store), Nx ms F ms' F' → Sto (P.wp pv) H ms' F' S → Good src.guard S →
    (∀ d, src.items[i]? = some d → J.go i H ∧ ∀ x H2, J.yld i H x H2 → Sto (P.wp pv) H2 ms' F' S ∧ ItemR P ms' F' H2 tg x d) ∧ (src.items.length ≤ i → J.stop i H)
theorem ItOk.nx {tg : Tg} {J : L2.It} {src : Src} {ms' : List Addr} {F' : Hp} (x : Nx ms F ms' F') (h : ItOk P tg J src ms F) : ItOk P tg J src ms' F' := fun pv i H ms2 F2 S nx st g => h pv i H ms2 F2 S (x.trans nx) st g
def tI (P : Pg) (W : WX) (tg : Tg) (f : Env → Store → R Src) : TI := fun σ H Rr => ∃ env ms F S, Slots P ms F σ env ∧ Sto P H ms F S ∧ match f env S with
  | .ok src S' => ∀ J H' ms' F', Nx ms F ms' F' → Sto P H' ms' F' S' → ItOk P tg J src ms' F' → Rr J H'
  | .exc c S' => ∀ H' ms' F', Nx ms F ms' F' → Sto P H' ms' F' S' → ExW P W σ c H'
  | .bad => False
section
variable {iter tgE : Expr} {W : WX} {tg : Tg} {fa : Env → Store → R D}
theorem getO {α : Type} {xs : List α} {i : Nat} (h : i < xs.length) : xs[i]? = some xs[i] := List.getElem?_eq_getElem h
/-- a value walked -/
theorem s_iter (hK : P.K = X.K) (ha : PE X iter (tE P W false fa)) : PI X tgE iter (tI P W tg fun env S => (fa env S).bind fun x S => match srcD x S with | some s => .ok s S | none => .bad) := by
  refine ⟨fun pins s σ H Rr I h => ?_⟩
  obtain ⟨env, ms, F, S, hs, st, h⟩ := h
  dsimp only at h
  cases q : fa env S with
  | bad =>
    rw [q] at h
    exact h.elim
  | exc c S1 =>
    rw [q] at h
    exact wpAny_mono (ha.run pins s σ H (fun _ _ => False) I ⟨env, ms, F, S, hs, st, by rw [q]; exact h⟩) (fun _ _ ⟨_, _, _, _, z⟩ => z.elim) fun _ _ z => z
  | ok d S1 =>
    rw [q] at h
    dsimp only [R.bind_ok] at h
    refine thn (ha.run pins s σ H (fun x H1 => ∃ ms1 F1, Nx ms F ms1 F1 ∧ Sto P H1 ms1 F1 S1 ∧ Rep P ms1 F1 x d) I ⟨env, ms, F, S, hs, st, by rw [q]; exact fun v H' ms' F' nx st' r => ⟨ms', F', nx, st', r⟩⟩) fun v s1 ⟨x, H1, I1, r1, ms1, F1, nx, st1, rx⟩ => ?_
    cases q2 : srcD d S1 with
    | none =>
      rw [q2] at h
      exact h.elim
    | some src =>
      rw [q2] at h
      dsimp only at h
      have lst : ∀ a ys l g, x = .ref a → SqL P.K H1 a ys → RepL P ms1 F1 ys l → src = ⟨l, g⟩ → (∀ (pv : List (Addr × List V)) H' ms' F' S', Nx ms1 F1 ms' F' → Sto (P.wp pv) H' ms' F' S' → Good g S' → ∃ ys', SqL P.K H' a ys' ∧ RepL P ms' F' ys' l) → wpAny (model X.prog X.w) X.A (pyIter v) (PIE X pins σ tgE Rr) X.xe s1 := fun a ys l g e sq rl es keep => by
        subst e es
        cases r1
        obtain ⟨its, rv, p, hz⟩ := I1.list (hK ▸ sq)
        refine wpAny_pyIter_list p.isList ?_
        refine pi_one (tk := s1.toks) I1 _ (turn_list a _) ⟨_, Heap.get?_push_size _ rfl, rfl, rfl⟩ (h _ _ _ _ nx st1 fun pv i H' ms' F' S' nx' st' gd => ?_)
        obtain ⟨ys', sq', rl'⟩ := keep pv H' ms' F' S' nx' st' gd
        rw [hK] at sq'
        refine ⟨fun d hd => ?_, fun hi => ⟨ys', sq', by rw [rl'.length]; exact hi⟩⟩
        obtain ⟨w, hw, rw'⟩ := rl'.get hd
        refine ⟨⟨ys', w, sq', hw⟩, fun x' H2 hy => ?_⟩
        obtain ⟨e1, e2⟩ := hy
        subst e1
        have := e2 ys' sq'
        rw [hw] at this
        cases this
        exact ⟨st', itemR st' rw'⟩
      cases rx with
      | str z =>
        have q3 : (if okLen z.length then some (Src.mk (signsD z) none) else none) = some src := q2
        by_cases c : okLen z.length = true
        · rw [if_pos c] at q3
          cases q3
          obtain ⟨t, rfl⟩ := r1
          have ok : ItOk P tg (Its z) ⟨signsD z, none⟩ ms1 F1 := fun pv i H' ms' F' S' nx' st' gd => by
            refine ⟨fun d hd => ?_, fun hi => (show z.cps.size ≤ i by simpa [signsD] using hi)⟩
            have hd' : (z.cps.toList.map sign)[i]? = some d := hd
            rw [List.getElem?_map, Array.getElem?_toList] at hd'
            cases q4 : z.cps[i]? with
            | none => rw [q4] at hd'; cases hd'
            | some cc =>
              rw [q4] at hd'
              cases hd'
              refine ⟨(Array.getElem?_eq_some_iff.mp q4).1, fun x' H2 hy => ?_⟩
              obtain ⟨e1, c2, e2, rfl⟩ := hy
              subst e1
              rw [q4] at e2
              cases e2
              exact ⟨st', itemR st' (.str _)⟩
          cases hall : z.cps.all (· < 128)
          · exact wpAny_pyIter_wide hall (pi_one (tk := s1.toks) I1 _ (turn_str _ z t "str_iterator" (.inr rfl)) ⟨_, Heap.get?_push_size _ rfl, rfl, rfl⟩ (h _ _ _ _ nx st1 ok))
          · exact wpAny_pyIter_ascii hall (pi_one (tk := s1.toks) I1 _ (turn_str _ z t "str_ascii_iterator" (.inl rfl)) ⟨_, Heap.get?_push_size _ rfl, rfl, rfl⟩ (h _ _ _ _ nx st1 ok))
        · rw [if_neg c] at q3
          cases q3
      | @lst a ys l e r =>
        cases q2
        exact lst a ys l none rfl (.inl (.inl (st1.sub _ _ e))) r rfl fun pv H' ms' F' S' nx' st' _ => ⟨ys, .inl (.inl (st'.sub _ _ (nx'.sub _ _ e))), r.mono nx'⟩
      | @loc a n e =>
        cases q4 : S1[n]? with
        | none =>
          simp only [srcD, q4] at q2
          cases q2
        | some c =>
          cases c with
          | lst l =>
            simp only [srcD, q4] at q2
            cases q2
            obtain ⟨_, ys, h1, h2⟩ := st1.cell n a _ e q4
            refine lst a ys l (some (n, l)) rfl (.inl (.inl h1)) h2 rfl fun pv H' ms' F' S' nx' st' gd => ?_
            obtain ⟨_, ys', h1', h2'⟩ := st'.cell n a _ (nx'.pre _ _ e) gd
            exact ⟨ys', .inl (.inl h1'), h2'.un⟩
          | _ =>
            simp only [srcD, q4] at q2
            cases q2
      | @tup a o ys l e d r =>
        cases q2
        cases r1
        have sq : SqT X.K H1 a ys := hK ▸ sq_tup st1 e
        obtain ⟨its, rv, p, hz⟩ := I1.tuple sq
        refine wpAny_pyIter_tuple (show s1.heap.IsTuple a its.toArray from p) ?_
        refine pi_one (tk := s1.toks) I1 _ (turn_tuple a _) ⟨_, Heap.get?_push_size _ rfl, rfl, rfl⟩ (h _ _ _ _ nx st1 fun pv i H' ms' F' S' nx' st' gd => ?_)
        have sq' : SqT X.K H' a ys := .inl (.inr ⟨_, st'.sub _ _ (nx'.sub _ _ e)⟩)
        refine ⟨fun d hd => ?_, fun hi => ⟨ys, sq', by rw [r.length]; exact hi⟩⟩
        obtain ⟨w, hw, rw'⟩ := (r.mono nx').get hd
        refine ⟨⟨ys, w, sq', hw⟩, fun x' H2 hy => ?_⟩
        obtain ⟨e1, e2⟩ := hy
        subst e1
        have := e2 ys sq'
        rw [hw] at this
        cases this
        exact ⟨st', itemR st' rw'⟩
      | _ => cases q2
/-- range(a), range(a, b) -/
theorem rng_ok {lo : Int} {n : Nat} : ItOk P tg (Itr lo n) ⟨rngD lo n, none⟩ ms F := fun pv i H' ms' F' S' nx' st' gd => by
  have hlen : (rngD lo n).length = n := by simp [rngD]
  refine ⟨fun d hd => ?_, fun hi => by rw [hlen] at hi; exact hi⟩
  have hl := (List.getElem?_eq_some_iff.mp hd).1
  rw [hlen] at hl
  have e : d = .int (lo + (i : Int)) := by
    have hd' : (rngD lo n)[i]? = some d := hd
    simp [rngD, hl] at hd'
    exact hd'.symm
  subst e
  refine ⟨hl, fun x' H2 hy => ?_⟩
  obtain ⟨e1, rfl⟩ := hy
  subst e1
  exact ⟨st', itemR st' (.int _)⟩
theorem s_rng1 {p pos : Pos} {a : Expr} (hg : Gl X "range") (hm : X.mg "range" = none) (ha : PE X a (tE P W false fa)) (h : notStar a = true) : PI X tgE (.Call (.Name "range" p) [a] [] pos) (tI P W tg fun env S => (fa env S).bind fun x S => match x with
    | .int j => if okI j then .ok ⟨rngD 0 j.toNat, none⟩ S else .bad
    | _ => .bad) := by
  refine (pi_range1 hg hm (pa_cons ha pa_nil (star_cons h)) (star_cons h)).imp fun σ H Rr ⟨env, ms, F, S, hs, st, q⟩ => ⟨env, ms, F, S, hs, st, ?_⟩
  dsimp only at q
  cases q1 : fa env S with
  | bad =>
    rw [q1] at q
    exact q
  | exc c S1 =>
    rw [q1] at q
    exact q
  | ok d S1 =>
    rw [q1] at q
    refine fun v H' ms' F' nx st' r => ?_
    cases r with
    | int j =>
      have q : (match (if okI j then R.ok (Src.mk (rngD 0 j.toNat) none) S1 else .bad) with
        | .ok src S' => ∀ J H' ms' F', Nx ms F ms' F' → Sto P H' ms' F' S' → ItOk P tg J src ms' F' → Rr J H'
        | .exc c S' => ∀ H' ms' F', Nx ms F ms' F' → Sto P H' ms' F' S' → ExW P W σ c H'
        | .bad => False) := q
      by_cases c : okI j = true
      · rw [if_pos c] at q
        unfold okI at c
        obtain ⟨c1, c2⟩ := of_decide_eq_true c
        exact ⟨j, rfl, c1, c2, q _ _ _ _ nx st' rng_ok⟩
      · rw [if_neg c] at q
        exact q.elim
    | _ => exact q.elim
theorem s_rng2 {p pos : Pos} {a b : Expr} {fb : Env → Store → R D} (hg : Gl X "range") (hm : X.mg "range" = none) (ha : PE X a (tE P W false fa)) (hb : PE X b (tE P W false fb)) (h : notStar a = true) (h2 : notStar b = true) : PI X tgE (.Call (.Name "range" p) [a, b] [] pos) (tI P W tg fun env S => (fa env S).bind fun x S => (fb env S).bind fun y S => match x, y with
    | .int i, .int j => if okI i && okI j then .ok ⟨rngD i (j - i).toNat, none⟩ S else .bad
    | _, _ => .bad) := by
  refine (pi_range2 hg hm (pa_cons ha (pa_cons hb pa_nil (star_cons h2)) (star_cons h)) (by rw [star_cons h, star_cons h2]; rfl) (star_cons h2)).imp fun σ H Rr ⟨env, ms, F, S, hs, st, q⟩ => ⟨env, ms, F, S, hs, st, ?_⟩
  dsimp only at q
  cases q1 : fa env S with
  | bad =>
    rw [q1] at q
    exact q
  | exc c S1 =>
    rw [q1] at q
    exact q
  | ok d S1 =>
    rw [q1] at q
    dsimp only [R.bind_ok] at q
    refine fun v H1 ms1 F1 nx st1 r => ⟨env, ms1, F1, S1, hs.mono nx, st1, ?_⟩
    cases q2 : fb env S1 with
    | bad =>
      rw [q2] at q
      exact q
    | exc c S2 =>
      rw [q2] at q
      exact fun H' ms' F' nx' => q H' ms' F' (nx.trans nx')
    | ok e S2 =>
      rw [q2] at q
      refine fun u H2 ms2 F2 nx2 st2 r2 => ?_
      cases r with
      | int i =>
        cases r2 with
        | int j =>
          have q : (match (if (okI i && okI j) = true then R.ok (Src.mk (rngD i (j - i).toNat) none) S2 else .bad) with
            | .ok src S' => ∀ J H' ms' F', Nx ms F ms' F' → Sto P H' ms' F' S' → ItOk P tg J src ms' F' → Rr J H'
            | .exc c S' => ∀ H' ms' F', Nx ms F ms' F' → Sto P H' ms' F' S' → ExW P W σ c H'
            | .bad => False) := q
          by_cases c : (okI i && okI j) = true
          · rw [if_pos c] at q
            rw [Bool.and_eq_true] at c
            obtain ⟨c1, c2⟩ := of_decide_eq_true c.1
            obtain ⟨c3, c4⟩ := of_decide_eq_true c.2
            exact ⟨i, j, rfl, ⟨c1, c2, c3, c4⟩, q _ _ _ _ (nx.trans nx2) st2 rng_ok⟩
          · rw [if_neg c] at q
            exact q.elim
        | _ => exact q.elim
      | _ => cases r2 <;> exact q.elim
end
end SV
/-! SvJ: list comprehensions. -/
namespace SV
open PySem PySem.Spec PyProof.Rows L2
variable {X : Cx} {pins : List (Addr × Obj)} {σ : L2.St} {H : Hp} {s : Shared} {P : Pg} {ms : List Addr} {F : Hp} {S : Store} {Ex : XQ}
/-- no error leaves a comprehension -/
abbrev W0 : WX := fun _ _ _ _ => False
/-- whatever is being made -/
def tEx (P : Pg) (W : WX) (f : Env → Store → R D) : TE := fun σ H Q => ∃ pv, tE (P.wp pv) W false f σ H Q
def tTx (P : Pg) (W : WX) (f : Env → Store → R D) : TT := fun σ H Q => ∃ pv, tT (P.wp pv) W f σ H Q
theorem s_ex {e : Expr} {W : WX} {f : Env → Store → R D} (h : ∀ pv, PE X e (tE (P.wp pv) W false f)) : PE X e (tEx P W f) := ⟨fun pins s σ H Q I ⟨pv, q⟩ => (h pv).run pins s σ H Q I q⟩
theorem s_tx {e : Expr} {W : WX} {f : Env → Store → R D} (h : ∀ pv, PT X e (tT (P.wp pv) W f)) : PT X e (tTx P W f) := ⟨fun pins s σ H Q I ⟨pv, q⟩ => (h pv).run pins s σ H Q I q⟩
theorem _root_.L2.PTs.imp {e : List Expr} {t t' : TT} (h : PTs X e t) (k : ∀ σ H Q, t' σ H Q → t σ H Q) : PTs X e t' := ⟨fun pins s σ H Q I q => h.run pins s σ H Q I (k σ H Q q)⟩
theorem s_noif {W : WX} : PTs X [] (tTx P W fun _ S => .ok (.bl true) S) := pts_nil.imp fun σ H Q ⟨pv, env, ms, F, S, hs, st, h⟩ => by
  obtain ⟨c, e, q⟩ := h _ _ _ _ (Nx.refl _ _) st (.bl true)
  cases e
  exact q
def Tg.slots : Tg → List Nat
  | .one i => [i]
  | .two i j => [i, j]
def gT (K : PySem.W.Frag) : Tg → TG
  | .one i => gName i
  | .two i j => gTup K 2 (gCons (gName i) (gCons (gName j) gNil))
def Tg.ok : Tg → Bool
  | .one _ => true
  | .two i j => i != j
theorem wipe_one (σ : L2.St) (i : Nat) : wipe σ [i] = σ.set i none := rfl
theorem wipe_two (σ : L2.St) (i j : Nat) : wipe σ [i, j] = (σ.set j none).set i none := rfl
theorem Slots.nil {i : Nat} {env : Env} (h : Slots P ms F σ env) {v : V} {d : D} (r : Rep P ms F v d) : Slots P ms F ((σ.set i none).set i (some v)) (env.set i (some d)) := by
  rw [List.set_set]
  exact h.set r
/-- the target stored, in a frame without it -/
theorem tgt_blk {tg : Tg} {d : D} {env env' : Env} {x : V} {Q : L2.St → Hp → Prop} (hok : tg.ok = true) (e : tg.set d env = some env') (hs : Slots P ms F σ env) (r : ItemR P ms F H tg x d)
    (h : ∀ σ2, wipe σ2 tg.slots = wipe σ tg.slots → Slots P ms F σ2 env' → Q σ2 H) : gT P.K tg x (wipe σ tg.slots) H Q := by
  cases tg with
  | one i =>
    cases e
    refine h _ ?_ (hs.nil r)
    show ((σ.set i none).set i (some x)).set i none = σ.set i none
    rw [List.set_set, List.set_set]
  | two i j =>
    have hij : i ≠ j := by simpa [Tg.ok] using hok
    have key : ∀ a b, d = .tup [a, b] → env' = (env.set i (some a)).set j (some b) → gT P.K (.two i j) x (wipe σ (Tg.two i j).slots) H Q := fun a b e1 e2 => by
      obtain ⟨T, xs, rfl, sq, rl⟩ := r _ e1
      subst e2
      cases rl with
      | cons r1 t =>
        cases t with
        | cons r2 t2 =>
          cases t2
          rename_i va vb
          refine ⟨T, [va, vb], rfl, sq, rfl, va, [vb], rfl, vb, [], rfl, rfl, ?_⟩
          have e3 : (((σ.set j none).set i none).set i (some va)).set j (some vb) = (σ.set i (some va)).set j (some vb) := by
            rw [List.set_set, List.set_comm _ _ (Ne.symm hij), List.set_set]
          refine h _ ?_ ?_
          · show ((((((σ.set j none).set i none).set i (some va)).set j (some vb)).set j none).set i none) = (σ.set j none).set i none
            rw [e3, List.set_set, List.set_comm _ _ hij, List.set_set]
          · show Slots P ms F ((((σ.set j none).set i none).set i (some va)).set j (some vb)) _
            rw [e3]
            exact (hs.set r1).set r2
    cases d with
    | tup l =>
      match l, e with
      | [a, b], e => exact key a b rfl (Option.some.inj e).symm
      | [], e => cases e
      | [_], e => cases e
      | _ :: _ :: _ :: _, e => cases e
    | _ => cases e
noncomputable def lcF (tg : Tg) (fi : Env → Store → R Src) (fc fe : Env → Store → R D) : Env → Store → R D := fun env S => (fi env S).bind fun src S => if okLen src.items.length then (lcLoop src.guard (fun d => tg.set d env) fc fe src.items S).nox.bind fun l S => .ok (.lst l) S else .bad
def Fin (P : Pg) (ms : List Addr) (F : Hp) (Q : VK) (acc : List D) : R (List D) → Prop
  | .ok ys S => New P ms F Q (acc ++ ys) S
  | _ => False
theorem Fin.nx {ms' : List Addr} {F' : Hp} {Q : VK} {acc : List D} {r : R (List D)} (x : Nx ms F ms' F') (h : Fin P ms F Q acc r) : Fin P ms' F' Q acc r := match r, h with
  | .ok ys S, h => New.nx x h
section
variable {iter tgE elt : Expr} {ifs : List Expr} {scope : Scope} {own : List (Str × Nat)} {pos : Pos} {W : WX} {tg : Tg} {fi : Env → Store → R Src} {fc fe : Env → Store → R D}
theorem t_lc {vs : List Nat} {σ : L2.St} {H : Hp} {Q : VK} (hok : tg.ok = true) (hown : vs = tg.slots) (h : tE P W true (lcF tg fi fc fe) σ H Q) : tLc (tI P W tg fi) (gT P.K tg) (tTx P W0 fc) (tEx P W0 fe) vs σ H Q := by
  obtain ⟨env, ms, F, S, sl, st, h⟩ := h
  refine ⟨env, ms, F, S, sl, st, ?_⟩
  unfold lcF at h
  cases q : fi env S with
  | bad =>
    rw [q] at h
    exact h
  | exc c S1 =>
    rw [q] at h
    exact h
  | ok src S1 =>
    rw [q] at h
    dsimp only [R.bind_ok] at h
    refine fun J H1 ms1 F1 nx st1 it D hD => ?_
    by_cases c : okLen src.items.length = true
    · rw [if_pos c] at h
      have h0 : Fin P ms1 F1 Q [] (lcLoop src.guard (fun d => tg.set d env) fc fe src.items S1) := by
        cases q2 : lcLoop src.guard (fun d => tg.set d env) fc fe src.items S1 with
        | bad =>
          rw [q2] at h
          exact h
        | exc c S1 =>
          rw [q2] at h
          exact h
        | ok l S2 =>
          rw [q2] at h
          exact New.nx nx h
      clear h
      obtain ⟨s0, f0⟩ := st1.fresh hD (.nil (P := P) (ms := ms1) (F := F1))
      have hpv := f0.priv
      obtain ⟨xs0, r0, hD0, h00⟩ := s0.hold f0
      cases r0
      refine ⟨fun i m H => m = src.items.length - i ∧ i ≤ src.items.length ∧ ∃ ms' F' S' xs acc, Nx ms1 F1 ms' F' ∧ Sto (P.wp ((D, xs) :: P.pv)) H ms' F' S' ∧ RepL P ms' F' xs acc ∧ acc.length ≤ i ∧
        Fin P ms' F' Q acc (lcLoop src.guard (fun d => tg.set d env) fc fe (src.items.drop i) S'), ⟨_, rfl, Nat.zero_le _, ms1, F1, S1, [], [], Nx.refl _ _, h00, .nil, Nat.le_refl _, h0⟩, ?_⟩
      rintro i m H2 ⟨rfl, hi2, ms2, F2, S2, xs, acc, nx2, st2, rl2, hl2, fin2⟩
      by_cases hlt : i < src.items.length
      · right
        rw [List.drop_eq_getElem_cons hlt] at fin2
        have gd : Good src.guard S2 := by
          unfold lcLoop at fin2
          by_cases g : Good src.guard S2
          · exact g
          · rw [if_neg g] at fin2
            exact fin2.elim
        unfold lcLoop at fin2
        rw [if_pos gd] at fin2
        obtain ⟨go, yl⟩ := (it _ i H2 ms2 F2 S2 nx2 st2 gd).1 src.items[i] (getO hlt)
        refine ⟨go, fun H' => ∃ ms' F' S' xs acc, Nx ms1 F1 ms' F' ∧ Sto (P.wp ((D, xs) :: P.pv)) H' ms' F' S' ∧ RepL P ms' F' xs acc ∧ acc.length ≤ i + 1 ∧
          Fin P ms' F' Q acc (lcLoop src.guard (fun d => tg.set d env) fc fe (src.items.drop (i + 1)) S'), fun H' hh => ⟨_, by omega, rfl, hlt, hh⟩, fun x H3 hy => ?_⟩
        obtain ⟨st3, rx⟩ := yl x H3 hy
        cases qs : tg.set src.items[i] env with
        | none =>
          rw [qs] at fin2
          exact fin2.elim
        | some env' =>
          rw [qs] at fin2
          dsimp only at fin2
          rw [hown]
          refine tgt_blk hok qs (sl.mono (nx.trans nx2)) rx fun σ2 hw sl2 => ⟨hw, (D, xs) :: P.pv, env', ms2, F2, S2, ⟨sl2.1, fun j e z => let ⟨v, z1, z2⟩ := sl2.2 j e z; ⟨v, z1, z2.wp⟩⟩, st3, ?_⟩
          cases qc : fc env' S2 with
          | bad =>
            rw [qc] at fin2
            exact fin2
          | exc cc S3 =>
            rw [qc] at fin2
            exact fin2.elim
          | ok cd S3 =>
            rw [qc] at fin2
            dsimp only [R.nox_ok, R.bind_ok] at fin2
            refine fun v H4 ms4 F4 nx4 st4 rv => ?_
            cases rv with
            | bl b =>
              refine ⟨b, rfl, ?_⟩
              cases b with
              | false =>
                refine iteF ⟨ms4, F4, S3, xs, acc, nx2.trans nx4, st4, rl2.mono nx4, by omega, ?_⟩
                exact Fin.nx nx4 fin2
              | true =>
                refine iteT ⟨(D, xs) :: P.pv, env', ms4, F4, S3, ⟨sl2.1, fun j e z => let ⟨v, z1, z2⟩ := sl2.2 j e z; ⟨v, z1, (z2.mono nx4).wp⟩⟩, st4, ?_⟩
                cases qe : fe env' S3 with
                | bad =>
                  rw [qe] at fin2
                  exact fin2
                | exc cc S5 =>
                  rw [qe] at fin2
                  exact fin2.elim
                | ok ed S5 =>
                  rw [qe] at fin2
                  dsimp only [R.nox_ok, R.bind_ok] at fin2
                  refine fun y H5 ms5 F5 nx5 st5 ry => ?_
                  obtain ⟨p1, p2, p3⟩ := st5.prv (D, xs) List.mem_cons_self
                  have rl5 := (rl2.mono nx4).mono nx5
                  refine ⟨xs, p1, ?_, ms5, F5, S5, xs ++ [y], acc ++ [ed], (nx2.trans nx4).trans nx5, st5.grow hpv, rl5.snoc ry.un, by simp; omega, ?_⟩
                  · rw [rl5.length]
                    have := okLen_lt c
                    omega
                  · cases ql : lcLoop src.guard (fun d => tg.set d env) fc fe (src.items.drop (i + 1)) S5 with
                    | bad =>
                      rw [ql] at fin2
                      exact fin2
                    | exc cc S6 =>
                      rw [ql] at fin2
                      exact fin2.elim
                    | ok ys S6 =>
                      rw [ql] at fin2
                      have fin3 : New P ms2 F2 Q (acc ++ (ed :: ys)) S6 := fin2
                      show New P ms5 F5 Q ((acc ++ [ed]) ++ ys) S6
                      rw [List.append_assoc]
                      exact New.nx (nx4.trans nx5) fin3
            | _ => exact fin2.elim
      · left
        have e : i = src.items.length := by omega
        subst e
        rw [List.drop_length] at fin2
        unfold lcLoop at fin2
        by_cases gd : Good src.guard S2
        · rw [if_pos gd] at fin2
          refine ⟨(it _ src.items.length H2 ms2 F2 S2 nx2 st2 gd).2 (Nat.le_refl _), ?_⟩
          have fin3 : New P ms2 F2 Q (acc ++ []) S2 := fin2
          rw [List.append_nil] at fin3
          obtain ⟨s5, f5⟩ := st2.give hpv rl2
          exact fin3 D H2 ms2 F2 (Nx.refl _ _) s5 f5
        · rw [if_neg gd] at fin2
          exact fin2.elim
    · rw [if_neg c] at h
      exact h.elim
theorem s_lc (hK : P.K = X.K) (hc : X.calm = true) (hN : X.N.Nodup) (hok : tg.ok = true) (hi : PI X tgE iter (tI P W tg fi)) (ok : BlkOk X.N X.env.scope scope own) (hown : own.map (·.2) = tg.slots)
    (hg : ∀ (s : Shared) (H : Hp) (C : Addr) (cl : List (Str × Addr)) (fp : List Addr), PG (X.blk s H scope (compEnvC scope cl C X.env) fp) tgE (gT P.K tg))
    (ht : ∀ (s : Shared) (H : Hp) (C : Addr) (cl : List (Str × Addr)) (fp : List Addr), PTs (X.blk s H scope (compEnvC scope cl C X.env) fp) ifs (tTx P W0 fc))
    (he : ∀ (s : Shared) (H : Hp) (C : Addr) (cl : List (Str × Addr)) (fp : List Addr), PE (X.blk s H scope (compEnvC scope cl C X.env) fp) elt (tEx P W0 fe))
    (hs : ∀ x, foldedSetIterable iter X.env x = pure x) : PE X (.ListComp elt [⟨tgE, iter, ifs, 0⟩] scope pos) (tE P W true (lcF tg fi fc fe)) :=
  (pe_lc hc hN hi ok hg ht he hs).imp fun σ H Q h => t_lc hok hown h
/-- name = [..] on one line -/
theorem s_setLc {i : Nat} {y : Str} {py : Pos} {spos : Pos} (hy : X.N[i]? = some y) (hyl : X.env.scope.names.lookup y = some .local) (hsw : swapsWith (.ListComp elt [⟨tgE, iter, ifs, 0⟩] scope pos) (some (.Name y py)) spos.line X.env = pure true) (hK : P.K = X.K) (hc : X.calm = true) (hN : X.N.Nodup) (hok : tg.ok = true) (hi : PI X tgE iter (tI P W tg fi)) (ok : BlkOk X.N X.env.scope scope own) (hown : own.map (·.2) = tg.slots)
    (hg : ∀ (s : Shared) (H : Hp) (C : Addr) (cl : List (Str × Addr)) (fp : List Addr), PG (X.blk s H scope (compEnvC scope cl C X.env) fp) tgE (gT P.K tg))
    (ht : ∀ (s : Shared) (H : Hp) (C : Addr) (cl : List (Str × Addr)) (fp : List Addr), PTs (X.blk s H scope (compEnvC scope cl C X.env) fp) ifs (tTx P W0 fc))
    (he : ∀ (s : Shared) (H : Hp) (C : Addr) (cl : List (Str × Addr)) (fp : List Addr), PE (X.blk s H scope (compEnvC scope cl C X.env) fp) elt (tEx P W0 fe))
    (hs : ∀ x, foldedSetIterable iter X.env x = pure x) :
    PS X (.Assign [.Name y py] (.ListComp elt [⟨tgE, iter, ifs, 0⟩] scope pos) spos) (tAsg (tE P W true (lcF tg fi fc fe)) (gName i)) :=
  ⟨fun pins s σ H D I q => (ps_setLc hc hN hy hyl hsw hi ok hg ht he hs).run pins s σ H D I (t_lc hok hown q)⟩
end
end SV
/-! SvK: the checker of expressions and its soundness. -/
namespace SV
open PySem PySem.Spec PyProof.Rows L2

/-- no form with a test of its own -/
def plainT : Expr → Bool
  | .IfExp .. => false
  | .BoolOp .. => false
  | .UnaryOp .. => false
  | .Compare .. => false
  | _ => true
def isBO : Expr → Bool
  | .BoolOp .. => true
  | _ => false
/-- what is known of the program's names -/
structure Tab where
  /-- the defs by number -/
  names : Nat → Option Str
  /-- whether a def hands back a new list -/
  fresh : Nat → Bool
  /-- the module's constants -/
  csts : List (Str × D)

/-! ### the checker -/
def vis (sc : Scope) (x : Str) : Bool := match sc.names.lookup x with
  | some .local => true
  | some .cell => true
  | some .free => true
  | _ => false
def glb (sc : Scope) (x : Str) : Bool := decide (sc.names.lookup x = some .globalImplicit) && !(x == ("__debug__" : Str)) && !(x == ("__classdict__" : Str)) && !(x == ("__name__" : Str))
def nameOk (x : Str) : Bool := !(x == ("__debug__" : Str)) && !(x == ("__classdict__" : Str))
def Op2.mt : Op2 → Operator → Bool
  | .add, .Add => true
  | .sub, .Sub => true
  | .mul, .Mult => true
  | .mod, .Mod => true
  | .pow, .Pow => true
  | _, _ => false
def Cm.mt : Cm → CmpOp → Bool
  | .eq, .Eq => true
  | .ne, .NotEq => true
  | .lt, .Lt => true
  | .le, .LtE => true
  | .gt, .Gt => true
  | .ge, .GtE => true
  | .isin, .In => true
  | .notin, .NotIn => true
  | .is, .Is => true
  | .isnot, .IsNot => true
  | _, _ => false
def cstIs : D → Const → Bool
  | .int i, .int j => decide (i = j)
  | .bl b, .bool c => decide (b = c)
  | .non, .none => true
  | .str s, .str t => decide (s = t)
  | _, _ => false
/-- a test that is no if-expression -/
def tOk : Expr → Bool
  | .IfExp .. => false
  | _ => true
def notSet : Expr → Bool
  | .Set .. => false
  | _ => true
def Bi.nm : Bi → Str
  | .len => "len" | .sorted => "sorted" | .list => "list" | .tuple => "tuple" | .min => "min" | .max => "max" | .sum => "sum" | .all => "all" | .any => "any" | .int => "int" | .str => "str"
  | _ => "isinstance"
/-- the class that an isinstance names -/
def Bi.cl : Bi → Option Str
  | .isInt => some "int" | .isBool => some "bool" | .isStr => some "str" | .isTuple => some "tuple" | .isList => some "list"
  | _ => none
def Bi.fresh : Bi → Bool
  | .sorted => true
  | .list => true
  | _ => false
def Mt.nm : Mt → Str
  | .strip => "strip" | .split => "split" | .join => "join" | .scount => "count" | .find => "find" | .sindex => "index" | .lcount => "count" | .tcount => "count" | .tindex => "index"
  | .append => "append" | .extend => "extend" | .pop => "pop" | .popAt => "pop" | .remove => "remove"
/-- served -/
def Mt.has : Mt → Bool
  | .sindex => false
  | .remove => false
  | _ => true
def Mt.fresh : Mt → Bool
  | .split => true
  | _ => false
def Es.len : Es → Nat
  | .nil => 0
  | .cons _ es => es.len + 1
section
variable (T : Tab)
def E.fresh : E → Bool
  | .lst _ => true
  | .op _ _ _ => true
  | .sl _ _ _ => true
  | .bi f _ => f.fresh
  | .mth m _ _ => m.fresh
  | .lc _ _ _ _ => true
  | .call f _ => T.fresh f
  | .snap _ => true
  | .sset _ => true
  | _ => false
def tgOwn (N : List Str) : Tg → List (Str × Nat)
  | .one i => [(N.getD i "", i)]
  | .two i j => [(N.getD i "", i), (N.getD j "", j)]
/-- a name that may be stored: a local one, in a def's own frame a cell too -/
def locOk (cl : Bool) (sc : Scope) (x : Str) : Bool := decide (sc.names.lookup x = some .local) || (cl && decide (sc.names.lookup x = some .cell))
/-- a target that is stored in the scope -/
def tgOk (cl : Bool) (N : List Str) (sc : Scope) : Tg → Expr → Bool
  | .one i, .Name x _ => decide (N[i]? = some x) && locOk cl sc x
  | .two i j, .Tuple [.Name x _, .Name y _] _ _ => decide (N[i]? = some x) && locOk cl sc x && decide (N[j]? = some y) && locOk cl sc y && (i != j)
  | _, _ => false
mutual
def chk (N : List Str) (sc : Scope) : E → Expr → Bool
  | .var i, e => match e with
    | .Name x _ => decide (N[i]? = some x) && vis sc x && nameOk x
    | _ => false
  | .snap i, e => match e with
    | .Name x _ => decide (N[i]? = some x) && vis sc x && nameOk x
    | _ => false
  | .cst d, e => match e with
    | .Constant c _ _ => cstIs d c
    | _ => false
  | .glb x d, e => match e with
    | .Name y _ => decide (x = y) && glb sc y && (flatOf d).isSome && decide ((T.csts.lookup x).bind flatOf = flatOf d)
    | _ => false
  | .op o a b, e => match e with
    | .BinOp l p r _ => o.mt p && chk N sc a l && chk N sc b r
    | _ => false
  | .neg a, e => match e with
    | .UnaryOp .USub x _ => chk N sc a x
    | _ => false
  | .cmp o a b, e => match e with
    | .Compare l [p] [r] _ => o.mt p && !behindInMarks p r && chk N sc a l && chk N sc b r
    | _ => false
  | .chn o o' a b c, e => match e with
    | .Compare l [p, p'] [m, r] _ => o.mt p && o'.mt p' && !lastMarks [p, p'] [m, r] && chk N sc a l && chk N sc b m && chk N sc c r
    | _ => false
  | .not a, e => match e with
    | .UnaryOp .Not x _ => tOk x && chk N sc a x
    | _ => false
  | .and a b, e => match e with
    | .BoolOp .And (x :: y :: r) p => tOk x && tOk y && chk N sc a x && (match r with
      | [] => chk N sc b y
      | z :: r => chk N sc b (.BoolOp .And (y :: z :: r) p))
    | _ => false
  | .or a b, e => match e with
    | .BoolOp .Or (x :: y :: r) p => tOk x && tOk y && chk N sc a x && (match r with
      | [] => chk N sc b y
      | z :: r => chk N sc b (.BoolOp .Or (y :: z :: r) p))
    | _ => false
  | .ite c a b, e => match e with
    | .IfExp t x y _ => tOk t && chk N sc c t && chk N sc a x && chk N sc b y
    | _ => false
  | .tup es, e => match e with
    | .Tuple xs _ _ => chks N sc es xs
    | _ => false
  | .lst es, e => match e with
    | .List xs _ => chks N sc es xs
    | _ => false
  | .idx a b, e => match e with
    | .Subscript x y _ => notSl y && chk N sc a x && chk N sc b y
    | _ => false
  | .sl a lo hi, e => match e with
    | .Subscript x (.Slice l h none _) _ => chk N sc a x && chko N sc lo l && chko N sc hi h
    | _ => false
  | .rev _, _ => false
  | .call f es, e => match e with
    | .Call (.Name x _) (a :: as) [] _ => decide (T.names f = some x) && glb sc x && (a :: as).all notStar && chks N sc es (a :: as)
    | _ => false
  | .bi f es, e => match e with
    | .Call (.Name x _) (a :: as) [] _ => decide (x = f.nm) && glb sc x && (a :: as).all notStar && (match f.cl with
      | none => chks N sc es (a :: as)
      | some y => (match as with
        | [.Name z _] => decide (z = y) && glb sc z && chks N sc es [a]
        | _ => false))
    | _ => false
  | .mth m o es, e => match e with
    | .Call (.Attribute x n apos) as [] cpos => m.has && decide (n = m.nm) && (match as with
      | [] => decide (m = .pop)
      | _ => decide (m ≠ .pop)) && baseOk x && (apos.endLine == cpos.line) && as.all notStar && decide (as.length < 29) && chk N sc o x && chks N sc es as
    | _ => false
  | .lc elt tg it cond, e => match e with
    | .ListComp x [⟨t, i, ifs, a⟩] scope _ => decide (a = 0) && blkC N sc scope (tgOwn N tg) && tgOk false N (relS scope sc) tg t && notSet i && chki N sc it i && (match cond, ifs with
      | .none, [] => true
      | .some c, [k] => tOk k && chk N (relS scope sc) c k
      | _, _ => false) && chk N (relS scope sc) elt x
    | _ => false
  | .cell a, e => a.fresh T && plainT e && chk N sc a e
  | .sset a, e => match e with
    | .Call (.Name x _) [.Call (.Name y _) [b] [] _] [] _ => decide (x = "sorted") && glb sc x && decide (y = "set") && glb sc y && notStar b && chk N sc a b
    | _ => false
  | .lset a, e => match e with
    | .Call (.Name x _) [.Call (.Name y _) [b] [] _] [] _ => decide (x = "len") && glb sc x && decide (y = "set") && glb sc y && notStar b && chk N sc a b
    | _ => false
def chks (N : List Str) (sc : Scope) : Es → List Expr → Bool
  | .nil, l => match l with
    | [] => true
    | _ => false
  | .cons e es, l => match l with
    | x :: l => notStar x && chk N sc e x && chks N sc es l
    | _ => false
def chko (N : List Str) (sc : Scope) : Eo → Option Expr → Bool
  | .none, o => match o with
    | none => true
    | _ => false
  | .some e, o => match o with
    | some x => chk N sc e x
    | _ => false
def chki (N : List Str) (sc : Scope) : It → Expr → Bool
  | .e a, e => chk N sc a e
  | .rng1 a, e => match e with
    | .Call (.Name x _) [p] [] _ => decide (x = "range") && glb sc x && notStar p && chk N sc a p
    | _ => false
  | .rng2 a b, e => match e with
    | .Call (.Name x _) [p, q] [] _ => decide (x = "range") && glb sc x && notStar p && notStar q && chk N sc a p && chk N sc b q
    | _ => false
  | .rng3 _ _ _, _ => false
  | .zip _ _, _ => false
  | .enum _, _ => false
end
end
end SV
/-! SvL: the soundness of expressions. -/
namespace SV
open PySem PySem.Spec PyProof.Rows L2
variable {X : Cx} {pins : List (Addr × Obj)} {σ : L2.St} {H : Hp} {s : Shared} {P : Pg} {ms : List Addr} {F : Hp} {S : Store} {Ex : XQ} {W : WX}

/-! ### slices, cells, calls -/
def tO (P : Pg) (W : WX) (f : Env → Store → R (Option Int)) : TO := fun σ H Q => ∃ env ms F S, Slots P ms F σ env ∧ Sto P H ms F S ∧ match f env S with
  | .ok o S' => ∀ H' ms' F', Nx ms F ms' F' → Sto P H' ms' F' S' → Q o H'
  | .exc c S' => ∀ H' ms' F', Nx ms F ms' F' → Sto P H' ms' F' S' → ExW P W σ c H'
  | .bad => False
theorem _root_.L2.PO.imp {e : Option Expr} {t t' : TO} (h : PO X e t) (k : ∀ σ H Q, t' σ H Q → t σ H Q) : PO X e t' := ⟨fun pins s σ H Q I q => h.run pins s σ H Q I (k σ H Q q)⟩
theorem s_onone : PO X none (tO P W fun _ S => .ok none S) := po_none.imp fun σ H Q ⟨env, ms, F, S, hs, st, h⟩ => h H ms F (Nx.refl _ _) st
theorem s_osome {e : Expr} {f : Env → Store → R D} (h : PE X e (tE P W false f)) : PO X (some e) (tO P W fun env S => (f env S).bind fun x S => match x with
    | .int i => .ok (some i) S
    | _ => .bad) := (po_some h).imp fun σ H Q ⟨env, ms, F, S, hs, st, h⟩ => by
  refine ⟨env, ms, F, S, hs, st, ?_⟩
  dsimp only at h
  cases q : f env S with
  | bad =>
    rw [q] at h
    exact h
  | exc c S1 =>
    rw [q] at h
    exact h
  | ok d S1 =>
    rw [q] at h
    refine fun v H1 ms1 F1 nx st1 r => ?_
    cases r with
    | int i => exact ⟨i, rfl, h _ _ _ nx st1⟩
    | _ => exact h.elim
def slF (fa : Env → Store → R D) (fl fh : Env → Store → R (Option Int)) : Env → Store → R D := fun env S => (fa env S).bind fun x S => (fl env S).bind fun l S => (fh env S).bind fun h S => cutD x l h S
theorem s_sl {a : Expr} {lo hi : Option Expr} {pos p2 : Pos} {fa : Env → Store → R D} {fl fh : Env → Store → R (Option Int)} (hK : P.K = X.K) (ha : PE X a (tE P W false fa)) (hl : PO X lo (tO P W fl)) (hh : PO X hi (tO P W fh)) :
    PE X (.Subscript a (.Slice lo hi none p2) pos) (tE P W true (slF fa fl fh)) := (pe_slice (x_cut hK) ha hl hh).imp fun σ H Q ⟨env, ms, F, S, hs, st, h⟩ => by
  refine ⟨env, ms, F, S, hs, st, ?_⟩
  unfold slF at h
  cases q : fa env S with
  | bad =>
    rw [q] at h
    exact h
  | exc c S1 =>
    rw [q] at h
    exact h
  | ok d S1 =>
    rw [q] at h
    refine fun v H1 ms1 F1 nx st1 r => ⟨env, ms1, F1, S1, hs.mono nx, st1, ?_⟩
    dsimp only [R.bind_ok] at h
    cases q2 : fl env S1 with
    | bad =>
      rw [q2] at h
      exact h
    | exc c S2 =>
      rw [q2] at h
      exact fun H' ms' F' nx' => h H' ms' F' (nx.trans nx')
    | ok l S2 =>
      rw [q2] at h
      refine fun H2 ms2 F2 nx2 st2 => ⟨env, ms2, F2, S2, (hs.mono nx).mono nx2, st2, ?_⟩
      dsimp only [R.bind_ok] at h
      cases q3 : fh env S2 with
      | bad =>
        rw [q3] at h
        exact h
      | exc c S3 =>
        rw [q3] at h
        exact fun H' ms' F' nx' => h H' ms' F' ((nx.trans nx2).trans nx')
      | ok u S3 =>
        rw [q3] at h
        exact fun H3 ms3 F3 nx3 st3 => ⟨ms3, F3, S3, d, _, st3, (r.mono nx2).mono nx3, Post.nx ((nx.trans nx2).trans nx3) h⟩
/-- a new list put into a cell -/
def cellF (f : Env → Store → R D) : Env → Store → R D := fun env S => (f env S).bind fun x S => match x with
    | .lst l => .ok (.loc S.length) (S ++ [.lst l])
    | _ => .bad
theorem t_cell {f : Env → Store → R D} {σ : L2.St} {H : Hp} {Q : VK} (h : tE P W false (cellF f) σ H Q) : tE P W true f σ H Q := by
  obtain ⟨env, ms, F, S, hs, st, h⟩ := h
  unfold cellF at h
  refine ⟨env, ms, F, S, hs, st, ?_⟩
  cases q : f env S with
  | bad =>
    rw [q] at h
    exact h
  | exc c S1 =>
    rw [q] at h
    exact h
  | ok d S1 =>
    rw [q] at h
    cases d with
    | lst l =>
      refine fun p H1 ms1 F1 nx st1 fr => ?_
      obtain ⟨s2, nx2⟩ := st1.adopt fr
      refine h (.ref p) H1 _ F1 (nx.trans nx2) s2 (.loc ?_)
      rw [← st1.len, List.getElem?_append_right (Nat.le_refl _), Nat.sub_self]
      rfl
    | _ => exact h.elim
theorem s_cell {e : Expr} {f : Env → Store → R D} (h : PE X e (tE P W true f)) : PE X e (tE P W false (cellF f)) := h.imp fun σ H Q q => t_cell q
/-- a cell let go -/
theorem s_snap {i : Nat} {x : Str} {pos : Pos} (hN : X.N[i]? = some x) (hv : Vis X.env.scope x) (hd : (x == ("__debug__" : Str)) = false) (hcd : (x == ("__classdict__" : Str)) = false) :
    PE X (.Name x pos) (tE P W true fun env S => match env.getD i none with
    | some (.loc n) => match S[n]? with
      | some (.lst l) => .ok (.lst l) (S.set n .dead)
      | _ => .bad
    | _ => .bad) := (pe_var hN hv hd hcd).imp fun σ H Q ⟨env, ms, F, S, hs, st, h⟩ => by
  dsimp only at h
  cases q : env.getD i none with
  | none =>
    rw [q] at h
    exact h.elim
  | some d =>
    rw [q] at h
    have e : env[i]? = some (some d) := by
      rw [List.getD_eq_getElem?_getD] at q
      cases z : env[i]? with
      | none => rw [z] at q; cases q
      | some o => rw [z] at q; exact congrArg some q
    obtain ⟨v, h1, h2⟩ := hs.2 i d e
    cases h2 with
    | @loc a n e1 =>
      dsimp only at h
      cases q2 : S[n]? with
      | none =>
        rw [q2] at h
        exact h.elim
      | some c =>
        cases c with
        | lst l =>
          rw [q2] at h
          obtain ⟨s2, f⟩ := st.snap e1 q2
          exact ⟨.ref a, h1, h a H ms F (Nx.refl _ _) s2 f⟩
        | _ =>
          rw [q2] at h
          exact h.elim
    | _ => exact h.elim
/-- a def's promise: what the evaluator answers -/
def spOf (P : Pg) (fr : Bool) (g : List D → Store → R D) : Sp := fun vs H Q E => ∃ pv ms F S ds, Sto (P.wp pv) H ms F S ∧ RepL P ms F vs ds ∧ Post (P.wp pv) ms F fr Q (fun c H' => ∀ C, P.mg (P.cls c) = some (.ref C) → E (.ref C) none H') (g ds S)
/-- a def that may be called here -/
def CallOk (X : Cx) (P : Pg) (fr : Bool) (g : List D → Store → R D) (x : Str) : Prop :=
  ∃ (k : Nat) (f : Addr) (fd : FuncData) (ps : List Str), FnOk X.prog X.w X.K X.mg X.base (L2.CX X.prog X.w) k f fd ps (spOf P fr g) ∧ X.mg x = some (.ref f) ∧ PySem.W.keepIn X.K (.ref f) = true ∧ Binds X.K fd ps [] ∧ Room k X.A
theorem s_call {a : Expr} {es : List Expr} {x : Str} {p pos : Pos} {fr : Bool} {g : List D → Store → R D} {fs : Env → Store → R (List D)} (tk : Takes X W) (hg : Gl X x) (hdb : (x == ("__debug__" : Str)) = false) (hc : CallOk X (P.wp []) fr g x) (ha : PA X (a :: es) (tA P W fs)) (h : (a :: es).all notStar = true) :
    PE X (.Call (.Name x p) (a :: es) [] pos) (tE P W fr (rowF fs g)) := by
  obtain ⟨k, f, fd, ps, F, hm, hk, hb, hr⟩ := hc
  rw [List.all_cons, Bool.and_eq_true] at h
  refine (pe_callS F hr hg hm hk hb (E := WE W) (fun σ => passAt tk σ) ha hdb (star_cons h.1) (back_any h.2)).imp fun σ H Q q => ?_
  obtain ⟨env, ms, F, S, sl, st, q⟩ := q
  exact ⟨env, ms, F, S, sl, st, q.row fun l S1 vs H1 ms1 F1 nx st1 rl h1 => ⟨P.pv, ms1, F1, S1, l, st1, rl.wp, h1⟩⟩
/-- what stands around -/
structure Ctx (T : Tab) (Γ : Nat → List D → Store → R D) (X : Cx) (P : Pg) : Prop where
  hK : P.K = X.K
  units : X.A.units + 64 < cLine
  calm : X.calm = true
  nd : X.N.Nodup
  blt : ∀ x ∈ (["len", "sorted", "list", "tuple", "min", "max", "sum", "all", "any", "int", "str", "isinstance", "bool", "range", "set"] : List Str), X.mg x = none
  csts : ∀ x d, T.csts.lookup x = some d → ∃ u v, X.mg x = some u ∧ RelV v u ∧ flatOf d = some v
  fns : ∀ f x, T.names f = some x → CallOk X (P.wp []) (T.fresh f) (Γ f) x
end SV
/-! SvM: the soundness of the checker, expressions. -/
namespace SV
open PySem PySem.Spec PyProof.Rows L2
theorem bt_len : bootBuiltins "len" = some (.builtin "len") := by decide +kernel
theorem bt_sorted : bootBuiltins "sorted" = some (.builtin "sorted") := by decide +kernel
theorem bt_list : bootBuiltins "list" = some (.type "list") := by decide +kernel
theorem bt_tuple : bootBuiltins "tuple" = some (.type "tuple") := by decide +kernel
theorem bt_min : bootBuiltins "min" = some (.builtin "min") := by decide +kernel
theorem bt_max : bootBuiltins "max" = some (.builtin "max") := by decide +kernel
theorem bt_sum : bootBuiltins "sum" = some (.builtin "sum") := by decide +kernel
theorem bt_all : bootBuiltins "all" = some (.builtin "all") := by decide +kernel
theorem bt_any : bootBuiltins "any" = some (.builtin "any") := by decide +kernel
theorem bt_int : bootBuiltins "int" = some (.type "int") := by decide +kernel
theorem bt_str : bootBuiltins "str" = some (.type "str") := by decide +kernel
theorem bt_set : bootBuiltins "set" = some (.type "set") := by decide +kernel
theorem bt_bool : bootBuiltins "bool" = some (.type "bool") := by decide +kernel

variable {T : Tab} {Γ : Nat → List D → Store → R D} {X : Cx} {P : Pg} {W : WX}
theorem glb_ok {sc : Scope} {x : Str} (hs : X.env.scope = sc) (h : glb sc x = true) : Gl X x ∧ (x == ("__debug__" : Str)) = false ∧ (x == ("__classdict__" : Str)) = false ∧ x ≠ "__name__" := by
  unfold glb at h
  simp only [Bool.and_eq_true, Bool.not_eq_true', decide_eq_true_eq] at h
  obtain ⟨⟨⟨h1, h2⟩, h3⟩, h4⟩ := h
  refine ⟨?_, h2, h3, fun e => ?_⟩
  · show X.env.scope.names.lookup x = _
    rw [hs]
    exact h1
  · rw [e] at h4
    exact absurd h4 (by decide)
theorem vis_ok {sc : Scope} {x : Str} (hs : X.env.scope = sc) (h : vis sc x = true) : Vis X.env.scope x := by
  rw [hs]
  unfold vis at h
  unfold Vis
  split at h
  · exact .inl ‹_›
  · exact .inr (.inl ‹_›)
  · exact .inr (.inr ‹_›)
  · cases h
theorem name_ok {x : Str} (h : nameOk x = true) : (x == ("__debug__" : Str)) = false ∧ (x == ("__classdict__" : Str)) = false := by
  unfold nameOk at h
  simpa only [Bool.and_eq_true, Bool.not_eq_true'] using h
section
variable {a : Expr} {es : List Expr} {x : Str} {p pos : Pos} {fs : Env → Store → R (List D)}
theorem s_bi {f : Bi} (c : Ctx T Γ X P) (hg : Gl X x) (hdb : (x == ("__debug__" : Str)) = false) (hn : x ≠ "__name__") (hf : f.cl = none) (hx : x = f.nm) (ha : PA X (a :: es) (tA P W fs)) (h : (a :: es).all notStar = true) :
    PE X (.Call (.Name x p) (a :: es) [] pos) (tE P W f.fresh (rowF fs f.app)) := by
  have hm : X.mg x = none := c.blt x (by rw [hx]; cases f <;> first | decide +kernel | cases hf)
  subst hx
  cases f with
  | len => exact s_callB (fun Ex => b_len c.hK) hg hm bt_len ha hn hdb h
  | sorted => exact s_callB (fun Ex => b_sorted c.hK c.units c.calm) hg hm bt_sorted ha hn hdb h
  | list => exact s_callT (fun Ex => b_list c.hK c.calm) hg hm bt_list ha hn hdb h
  | tuple => exact s_callT (fun Ex => b_tuple c.hK) hg hm bt_tuple ha hn hdb h
  | min => exact s_callB (fun Ex => b_min c.hK c.units c.calm) hg hm bt_min ha hn hdb h
  | max => exact s_callB (fun Ex => b_max c.hK c.units c.calm) hg hm bt_max ha hn hdb h
  | sum => exact s_callB (fun Ex => b_sum c.hK c.calm) hg hm bt_sum ha hn hdb h
  | all => exact s_callB (fun Ex => b_all c.hK c.calm) hg hm bt_all ha hn hdb h
  | any => exact s_callB (fun Ex => b_any c.hK c.calm) hg hm bt_any ha hn hdb h
  | int => exact s_callT (fun Ex => b_int) hg hm bt_int ha hn hdb h
  | str => exact s_callT (fun Ex => b_str) hg hm bt_str ha hn hdb h
  | _ => cases hf
theorem s_isiB {fa : Env → Store → R D} {y : Str} {p2 : Pos} {f : Bi} (c : Ctx T Γ X P) (hg : Gl X "isinstance") (hg2 : Gl X y) (hn2 : y ≠ "__name__") (hdb2 : (y == ("__debug__" : Str)) = false) (hf : f.cl = some y) (ha : PE X a (tE P W false fa)) (h : notStar a = true) :
    PE X (.Call (.Name "isinstance" p) [a, .Name y p2] [] pos) (tE P W false fun env S => (fa env S).bind fun x S => f.app [x] S) := by
  have hm : X.mg "isinstance" = none := c.blt _ (by decide +kernel)
  have hm2 : X.mg y = none := c.blt y (by cases f <;> first | (cases hf; decide +kernel) | cases hf)
  cases f with
  | isInt =>
    cases hf
    exact s_isi (b_isi c.hK (fun _ _ => rfl) PySem.W.isinstance_int_data) hg hm hg2 hm2 bt_int ha hn2 hdb2 h
  | isBool =>
    cases hf
    exact s_isi (b_isi c.hK (fun _ _ => rfl) PySem.W.isinstance_bool_data) hg hm hg2 hm2 bt_bool ha hn2 hdb2 h
  | isStr =>
    cases hf
    exact s_isi (b_isi c.hK (fun _ _ => rfl) PySem.W.isinstance_str_data) hg hm hg2 hm2 bt_str ha hn2 hdb2 h
  | isTuple =>
    cases hf
    exact s_isi (b_isi c.hK (fun _ _ => rfl) PySem.W.isinstance_tuple_data) hg hm hg2 hm2 bt_tuple ha hn2 hdb2 h
  | isList =>
    cases hf
    exact s_isi (b_isi c.hK (fun _ _ => rfl) PySem.W.isinstance_list_data) hg hm hg2 hm2 bt_list ha hn2 hdb2 h
  | _ => cases hf
end
section
variable {o : Expr} {es : List Expr} {apos cpos : Pos} {fo : Env → Store → R D} {fs : Env → Store → R (List D)}
theorem recv_str {m : Mt} (h : m = .strip ∨ m = .split ∨ m = .join ∨ m = .scount ∨ m = .find) (d : D) (S : Store) (c : m.recv d S = true) : ∃ z, d = .str z := by
  rcases h with rfl | rfl | rfl | rfl | rfl <;> cases d <;> first | exact ⟨_, rfl⟩ | cases c
theorem ty_lcount (H : Hp) (ms : List Addr) (F : Hp) (S : Store) (x : V) (d : D) (st : Sto P H ms F S) (r : Rep P ms F x d) (c : Mt.lcount.recv d S = true) : Ty X "list" x H := by
  cases r with
  | lst h1 h2 => exact ty_of (.inl ⟨rfl, _, .inl (.inl (st.sub _ _ h1))⟩)
  | @loc a n e =>
    cases q : S[n]? with
    | none => simp [Mt.recv, q] at c
    | some z =>
      cases z with
      | lst l =>
        obtain ⟨_, xs, h1, _⟩ := st.cell _ _ _ e q
        exact ty_of (.inl ⟨rfl, xs, .inl (.inl h1)⟩)
      | _ => simp [Mt.recv, q] at c
  | _ => cases c
theorem ty_tup' {m : Mt} (hm : m = .tcount ∨ m = .tindex) (H : Hp) (ms : List Addr) (F : Hp) (S : Store) (x : V) (d : D) (st : Sto P H ms F S) (r : Rep P ms F x d) (c : m.recv d S = true) : Ty X "tuple" x H := by
  cases r with
  | tup h1 h2 h3 => exact ty_tup st h1 h2
  | _ => rcases hm with rfl | rfl <;> cases c
theorem s_mt {e : Expr} {m : Mt} (c : Ctx T Γ X P) (hh : m.has = true) (hp : m ≠ .pop) (ho : PE X o (tE P W false fo)) (ha : PA X (e :: es) (tA P W fs)) (hb : baseOk o = true) (hl : (apos.endLine == cpos.line) = true) (hs : (e :: es).all notStar = true) (hz : (e :: es).length < 29) :
    PE X (.Call (.Attribute o m.nm apos) (e :: es) [] cpos) (tE P W m.fresh (mthF m fo fs)) := by
  cases m with
  | strip => exact s_mth PySem.F.plainAttrs_str PySem.F.slot_str_strip PySem.F.type_str_strip (fun Ex => m_strip) (ty_str (recv_str (.inl rfl))) ho ha hb hl hs hz
  | split => exact s_mth PySem.F.plainAttrs_str PySem.F.slot_str_split PySem.F.type_str_split (fun Ex => m_split) (ty_str (recv_str (.inr (.inl rfl)))) ho ha hb hl hs hz
  | join => exact s_mth PySem.F.plainAttrs_str PySem.F.slot_str_join PySem.F.type_str_join (fun Ex => m_join c.hK) (ty_str (recv_str (.inr (.inr (.inl rfl))))) ho ha hb hl hs hz
  | scount => exact s_mth PySem.F.plainAttrs_str PySem.F.slot_str_count PySem.F.type_str_count (fun Ex => m_scount) (ty_str (recv_str (.inr (.inr (.inr (.inl rfl)))))) ho ha hb hl hs hz
  | find => exact s_mth PySem.F.plainAttrs_str PySem.F.slot_str_find PySem.F.type_str_find (fun Ex => m_find) (ty_str (recv_str (.inr (.inr (.inr (.inr rfl)))))) ho ha hb hl hs hz
  | lcount => exact s_mth PySem.F.plainAttrs_list PySem.F.slot_list_count PySem.F.type_list_count (fun Ex => m_lcount c.hK c.units) ty_lcount ho ha hb hl hs hz
  | tcount => exact s_mth PySem.F.plainAttrs_tuple PySem.F.slot_tuple_count PySem.F.type_tuple_count (fun Ex => m_tcount c.hK c.units) (ty_tup' (.inl rfl)) ho ha hb hl hs hz
  | tindex => exact s_mth PySem.F.plainAttrs_tuple PySem.F.slot_tuple_index PySem.F.type_tuple_index (fun Ex => m_tindex) (ty_tup' (.inr rfl)) ho ha hb hl hs hz
  | append => exact s_mth PySem.F.plainAttrs_list PySem.F.slot_list_append PySem.F.type_list_append (fun Ex => m_append) (ty_cell (recv_cell (.inl rfl))) ho ha hb hl hs hz
  | extend => exact s_mth PySem.F.plainAttrs_list PySem.F.slot_list_extend PySem.F.type_list_extend (fun Ex => m_extend) (ty_cell (recv_cell (.inr (.inl rfl)))) ho ha hb hl hs hz
  | popAt => exact s_mth PySem.F.plainAttrs_list PySem.F.slot_list_pop PySem.F.type_list_pop (fun Ex => m_popAt) (ty_cell (recv_cell (.inr (.inr (.inr (.inl rfl)))))) ho ha hb hl hs hz
  | pop => exact absurd rfl hp
  | sindex => cases hh
  | remove => cases hh
theorem s_pop (c : Ctx T Γ X P) (ho : PE X o (tE P W false fo)) (hb : baseOk o = true) (hl : (apos.endLine == cpos.line) = true) : PE X (.Call (.Attribute o Mt.pop.nm apos) [] [] cpos) (tE P W false (mthF .pop fo fun _ S => .ok [] S)) :=
  s_mth0 PySem.F.plainAttrs_list PySem.F.slot_list_pop PySem.F.type_list_pop (fun Ex => m_pop) (ty_cell (recv_cell (.inr (.inr (.inl rfl))))) ho hb hl
end
/-- the context of a comprehension's block -/
theorem Ctx.blk (c : Ctx T Γ X P) (pv : List (Addr × List V)) (s : Shared) (H : Hp) (scope : Scope) (cenv : PySem.Env) (fp : List Addr) : Ctx T Γ (X.blk s H scope cenv fp) (P.wp pv) :=
  ⟨c.hK, c.units, c.calm, c.nd, c.blt, c.csts, c.fns⟩
theorem Ctx.wp (c : Ctx T Γ X P) (pv : List (Addr × List V)) : Ctx T Γ X (P.wp pv) := ⟨c.hK, c.units, c.calm, c.nd, c.blt, c.csts, c.fns⟩
theorem set_ok {iter : Expr} {env : PySem.Env} (h : notSet iter = true) : ∀ x, foldedSetIterable iter env x = pure x := by
  intro x
  cases iter <;> first | rfl | cases h
theorem test_ok {e : Expr} {env : PySem.Env} (h : plainT e = true) : ∀ whole, isTrue e env whole = (do let v ← whole; standAt e.pos; holding [v] (truthy v)) := by
  intro whole
  cases e <;> first | rfl | cases h
theorem neg_test {e : Expr} {p : Pos} {env : PySem.Env} : ∀ whole, isTrue (.UnaryOp .USub e p) env whole = (do let v ← whole; standAt (Expr.UnaryOp .USub e p).pos; holding [v] (truthy v)) := fun _ => rfl
end SV
/-! SvN: the soundness of the checker, expressions: the induction. -/
namespace SV
open PySem PySem.Spec PyProof.Rows L2
variable {T : Tab} {Γ : Nat → List D → Store → R D}
theorem cst_ok {X : Cx} {P : Pg} {W : WX} {d : D} {c : Const} {j : Nat} {pos : Pos} (h : cstIs d c = true) : PE X (.Constant c j pos) (tE P W false fun _ S => .ok d S) := by
  cases d <;> cases c <;> first | cases h | skip
  · exact s_cst pe_non fun _ _ => .non
  · have h := of_decide_eq_true h
    subst h
    exact s_cst pe_bl fun _ _ => .bl _
  · have h := of_decide_eq_true h
    subst h
    exact s_cst pe_int fun _ _ => .int _
  · have h := of_decide_eq_true h
    subst h
    exact s_cst pe_str fun _ _ => .str _
theorem op_ok {X : Cx} {P : Pg} {o : Op2} {p : Operator} (h : o.mt p = true) : OpR X (binaryOp p) (rv2 P true o.app) := by
  cases o <;> cases p <;> first | cases h | skip
  · exact o_add
  · exact o_sub
  · exact o_mul
  · exact o_mod
  · exact o_pow
theorem cm_ok {X : Cx} {P : Pg} {o : Cm} {p : CmpOp} (c : Ctx T Γ X P) (h : o.mt p = true) : OpR X (compareOp p) (rv2 P false (cmA o)) := by
  cases o <;> cases p <;> first | cases h | skip
  · exact o_eq c.hK c.units
  · exact o_ne c.hK c.units
  · exact o_lt c.hK c.units
  · exact o_le c.hK c.units
  · exact o_gt c.hK c.units
  · exact o_ge c.hK c.units
  · exact o_in c.hK c.units
  · exact o_notin c.hK c.units
  · exact o_is
  · exact o_isnot
theorem loc_ok {cl : Bool} {sc : Scope} {x : Str} (h : locOk cl sc x = true) : Loc sc x ∧ (cl = true ∨ sc.names.lookup x = some .local) := by
  unfold locOk at h
  simp only [Bool.or_eq_true, Bool.and_eq_true, decide_eq_true_eq] at h
  rcases h with h | ⟨h1, h2⟩
  · exact ⟨.inl h, .inr h⟩
  · exact ⟨.inr h2, .inl h1⟩
theorem tgt_okC {cl : Bool} {N : List Str} {sc : Scope} {tg : Tg} {t : Expr} (h : tgOk cl N sc tg t = true) : (∀ i, tg = .one i → ∃ x p, t = .Name x p ∧ N[i]? = some x ∧ locOk cl sc x = true) ∧ tg.ok = true ∧
    (∀ i j, tg = .two i j → ∃ x p y q a b, t = .Tuple [.Name x p, .Name y q] a b ∧ N[i]? = some x ∧ locOk cl sc x = true ∧ N[j]? = some y ∧ locOk cl sc y = true) := by
  unfold tgOk at h
  split at h
  · simp only [Bool.and_eq_true, decide_eq_true_eq] at h
    exact ⟨fun i e => by cases e; exact ⟨_, _, rfl, h⟩, rfl, fun i j e => nomatch e⟩
  · simp only [Bool.and_eq_true, decide_eq_true_eq] at h
    obtain ⟨⟨⟨⟨h1, h2⟩, h3⟩, h4⟩, h5⟩ := h
    exact ⟨fun i e => (nomatch e), h5, fun i j e => by cases e; exact ⟨_, _, _, _, _, _, rfl, h1, h2, h3, h4⟩⟩
  · cases h
/-- a target within the block -/
theorem tgt_ok {cl : Bool} {X : Cx} {K : PySem.W.Frag} {N : List Str} {sc : Scope} {tg : Tg} {t : Expr} (hK : K = X.K) (hc : X.calm = true) (hnd : X.N.Nodup) (hN : X.N = N) (hs : X.env.scope = sc) (hf : cl = true → ∀ x, X.fn x = true) (h : tgOk cl N sc tg t = true) : PG X t (gT K tg) := by
  subst hN hs hK
  obtain ⟨h1, h2, h3⟩ := tgt_okC h
  have fl : ∀ {x : Str}, locOk cl X.env.scope x = true → X.fn x = true ∨ X.env.scope.names.lookup x = some .local := fun hx => (loc_ok hx).2.imp (fun z => hf z _) id
  cases tg with
  | one i =>
    obtain ⟨x, p, rfl, k1, k2⟩ := h1 i rfl
    exact pg_name hnd k1 (loc_ok k2).1 (fl k2)
  | two i j =>
    obtain ⟨x, p, y, q, a, b, rfl, k1, k2, k3, k4⟩ := h3 i j rfl
    exact pg_tup hc (pgs_cons (pg_name hnd k1 (loc_ok k2).1 (fl k2)) (pgs_cons (pg_name hnd k3 (loc_ok k4).1 (fl k4)) pgs_nil))
def SoundS (Γ : Nat → List D → Store → R D) (X : Cx) (P : Pg) (W : WX) (es : Es) (l : List Expr) : Prop := PA X l (tA P W (evs Γ es)) ∧ (l = [] → evs Γ es = fun _ S => .ok [] S) ∧ (∀ a, l = [a] → ∃ fe, PE X a (tE P W false fe) ∧ (evs Γ es = fun env S => (fe env S).bind fun x S => .ok [x] S) ∧ notStar a = true)
theorem soundS_cons {Γ : Nat → List D → Store → R D} {X : Cx} {P : Pg} {W : WX} {e : E} {es : Es} {a : Expr} {l : List Expr} (h : notStar a = true) (k : PE X a (tE P W false (ev Γ e))) (ks : SoundS Γ X P W es l) : SoundS Γ X P W (.cons e es) (a :: l) := by
  refine ⟨?_, fun z => absurd z (List.cons_ne_nil _ _), fun b z => ?_⟩
  · have e1 : evs Γ (.cons e es) = fun env S => (ev Γ e env S).bind fun x S => (evs Γ es env S).bind fun l S => .ok (x :: l) S := by
      funext env S
      rw [evs]
    rw [e1]
    exact s_cons k ks.1 (star_cons h)
  · cases z
    refine ⟨_, k, ?_, h⟩
    funext env S
    rw [evs, ks.2.1 rfl]
    rfl
/-- an expression, as a value and as a test -/
def SoundE (T : Tab) (Γ : Nat → List D → Store → R D) (c : E) : Prop := ∀ (X : Cx) (P : Pg) (W : WX) (N : List Str) (sc : Scope) (e : Expr), Ctx T Γ X P → Takes X W → X.N = N → X.env.scope = sc → chk T N sc c e = true →
  PE X e (tE P W (c.fresh T) (ev Γ c)) ∧ (tOk e = true → PT X e (tT P W (ev Γ c))) ∧ (isBO e = true → PW X e (tT P W (ev Γ c)))
theorem notT {X : Cx} {P : Pg} {W : WX} {e : Expr} {fr : Bool} {f : Env → Store → R D} (h : PE X e (tE P W fr f)) (ht : plainT e = true) :
    PE X e (tE P W fr f) ∧ (tOk e = true → PT X e (tT P W f)) ∧ (isBO e = true → PW X e (tT P W f)) := ⟨h, fun _ => s_valT h.ord (test_ok ht), fun q => by
  cases e <;> first | (cases ht; done) | (cases q; done)⟩
theorem s_mtN {X : Cx} {P : Pg} {W : WX} {o : Expr} {as : List Expr} {apos cpos : Pos} {fo : Env → Store → R D} {fs : Env → Store → R (List D)} {m : Mt} (hne : as = [] → False) (c : Ctx T Γ X P) (hh : m.has = true) (hp : m ≠ .pop) (ho : PE X o (tE P W false fo)) (ha : PA X as (tA P W fs)) (hb : baseOk o = true) (hl : (apos.endLine == cpos.line) = true) (hs : as.all notStar = true) (hz : as.length < 29) :
    PE X (.Call (.Attribute o m.nm apos) as [] cpos) (tE P W m.fresh (mthF m fo fs)) := by
  cases as with
  | nil => exact absurd rfl hne
  | cons a as => exact s_mt c hh hp ho ha hb hl hs hz
set_option maxHeartbeats 4000000 in
mutual
theorem sE : ∀ c : E, SoundE T Γ c
  | .var i, X, P, W, N, sc, e, c, tk, hN, hs, h => by
    unfold chk at h
    split at h
    · simp only [Bool.and_eq_true, decide_eq_true_eq] at h
      obtain ⟨⟨h1, h2⟩, h3⟩ := h
      exact notT (s_var (by rw [hN]; exact h1) (vis_ok hs h2) (name_ok h3).1 (name_ok h3).2) rfl
    · cases h
  | .snap i, X, P, W, N, sc, e, c, tk, hN, hs, h => by
    unfold chk at h
    split at h
    · simp only [Bool.and_eq_true, decide_eq_true_eq] at h
      obtain ⟨⟨h1, h2⟩, h3⟩ := h
      exact notT (s_snap (by rw [hN]; exact h1) (vis_ok hs h2) (name_ok h3).1 (name_ok h3).2) rfl
    · cases h
  | .cst d, X, P, W, N, sc, e, c, tk, hN, hs, h => by
    unfold chk at h
    split at h
    · exact notT (cst_ok h) rfl
    · cases h
  | .glb x d, X, P, W, N, sc, e, c, tk, hN, hs, h => by
    unfold chk at h
    split at h
    · simp only [Bool.and_eq_true, decide_eq_true_eq] at h
      obtain ⟨⟨⟨h1, h2⟩, h3⟩, h4⟩ := h
      subst h1
      obtain ⟨g1, g2, g3, g4⟩ := glb_ok hs h2
      cases q : T.csts.lookup x with
      | none =>
        rw [q] at h4
        rw [← h4] at h3
        cases h3
      | some d' =>
        rw [q] at h4
        obtain ⟨u, v, m1, m2, m3⟩ := c.csts x d' q
        have m4 : flatOf d = some v := by rw [← h4]; exact m3
        exact notT (s_cst (pe_glob g1 m1 m2 g2) fun ms F => flat_rep m4) rfl
    · cases h
  | .op o a b, X, P, W, N, sc, e, c, tk, hN, hs, h => by
    unfold chk at h
    split at h
    · simp only [Bool.and_eq_true] at h
      obtain ⟨⟨h1, h2⟩, h3⟩ := h
      exact notT (s_op (op_ok h1) (sE a X P W N sc _ c tk hN hs h2).1.ord (sE b X P W N sc _ c tk hN hs h3).1.ord) rfl
    · cases h
  | .neg a, X, P, W, N, sc, e, c, tk, hN, hs, h => by
    unfold chk at h
    split at h
    · have k := s_neg (pos := ‹Pos›) (sE a X P W N sc _ c tk hN hs h).1.ord
      exact ⟨k, fun _ => s_valT k neg_test, fun q => by cases q⟩
    · cases h
  | .cmp o a b, X, P, W, N, sc, e, c, tk, hN, hs, h => by
    unfold chk at h
    split at h
    · simp only [Bool.and_eq_true, Bool.not_eq_true'] at h
      obtain ⟨⟨⟨h1, h2⟩, h3⟩, h4⟩ := h
      have ka := (sE a X P W N sc _ c tk hN hs h3).1.ord
      have kb := (sE b X P W N sc _ c tk hN hs h4).1.ord
      exact ⟨s_cmp (cm_ok c h1) ka kb h2, fun _ => s_cmpT (cm_ok c h1) ka kb h2, fun q => by cases q⟩
    · cases h
  | .chn o o' a b d, X, P, W, N, sc, e, c, tk, hN, hs, h => by
    unfold chk at h
    split at h
    · simp only [Bool.and_eq_true, Bool.not_eq_true'] at h
      obtain ⟨⟨⟨⟨⟨h1, h2⟩, h3⟩, h4⟩, h5⟩, h6⟩ := h
      have ka := (sE a X P W N sc _ c tk hN hs h4).1.ord
      have kb := (sE b X P W N sc _ c tk hN hs h5).1.ord
      have kd := (sE d X P W N sc _ c tk hN hs h6).1.ord
      exact ⟨s_chn (cm_ok c h1) (cm_ok c h2) ka kb kd h3, fun _ => s_chnT (cm_ok c h1) (cm_ok c h2) ka kb kd h3, fun q => by cases q⟩
    · cases h
  | .not a, X, P, W, N, sc, e, c, tk, hN, hs, h => by
    unfold chk at h
    split at h
    · simp only [Bool.and_eq_true] at h
      obtain ⟨h1, h2⟩ := h
      have k := sE a X P W N sc _ c tk hN hs h2
      exact ⟨s_not k.1.ord, fun _ => s_notT (k.2.1 h1), fun q => by cases q⟩
    · cases h
  | .and a b, X, P, W, N, sc, e, c, tk, hN, hs, h => by
    unfold chk at h
    split at h
    · simp only [Bool.and_eq_true] at h
      obtain ⟨⟨⟨h1, h2⟩, h3⟩, h4⟩ := h
      have ka := sE a X P W N sc _ c tk hN hs h3
      split at h4
      · have kb := sE b X P W N sc _ c tk hN hs h4
        exact ⟨s_and (p2 := ‹Pos›) ka.1.ord (pe_one kb.1.ord), fun _ => (s_andT (ka.2.1 h1) (pw_and1 (kb.2.1 h2))).pt, fun _ => s_andT (ka.2.1 h1) (pw_and1 (kb.2.1 h2))⟩
      · have kb := sE b X P W N sc _ c tk hN hs h4
        exact ⟨s_and (p2 := ‹Pos›) ka.1.ord kb.1.ord, fun _ => (s_andT (ka.2.1 h1) (kb.2.2 rfl)).pt, fun _ => s_andT (ka.2.1 h1) (kb.2.2 rfl)⟩
    · cases h
  | .or a b, X, P, W, N, sc, e, c, tk, hN, hs, h => by
    unfold chk at h
    split at h
    · simp only [Bool.and_eq_true] at h
      obtain ⟨⟨⟨h1, h2⟩, h3⟩, h4⟩ := h
      have ka := sE a X P W N sc _ c tk hN hs h3
      split at h4
      · have kb := sE b X P W N sc _ c tk hN hs h4
        exact ⟨s_or (p2 := ‹Pos›) ka.1.ord (pe_one kb.1.ord), fun _ => (s_orT (ka.2.1 h1) (pw_or1 (kb.2.1 h2))).pt, fun _ => s_orT (ka.2.1 h1) (pw_or1 (kb.2.1 h2))⟩
      · have kb := sE b X P W N sc _ c tk hN hs h4
        exact ⟨s_or (p2 := ‹Pos›) ka.1.ord kb.1.ord, fun _ => (s_orT (ka.2.1 h1) (kb.2.2 rfl)).pt, fun _ => s_orT (ka.2.1 h1) (kb.2.2 rfl)⟩
    · cases h
  | .ite d a b, X, P, W, N, sc, e, c, tk, hN, hs, h => by
    unfold chk at h
    split at h
    · simp only [Bool.and_eq_true] at h
      obtain ⟨⟨⟨h1, h2⟩, h3⟩, h4⟩ := h
      exact ⟨s_ite ((sE d X P W N sc _ c tk hN hs h2).2.1 h1) (sE a X P W N sc _ c tk hN hs h3).1.ord (sE b X P W N sc _ c tk hN hs h4).1.ord, (fun z => by cases z), (fun z => by cases z)⟩
    · cases h
  | .tup es, X, P, W, N, sc, e, c, tk, hN, hs, h => by
    unfold chk at h
    split at h
    · exact notT (s_tup (sS es X P W N sc _ c tk hN hs h).1) rfl
    · cases h
  | .lst es, X, P, W, N, sc, e, c, tk, hN, hs, h => by
    unfold chk at h
    split at h
    · exact notT (s_lst (sS es X P W N sc _ c tk hN hs h).1) rfl
    · cases h
  | .idx a b, X, P, W, N, sc, e, c, tk, hN, hs, h => by
    unfold chk at h
    split at h
    · simp only [Bool.and_eq_true] at h
      obtain ⟨⟨h1, h2⟩, h3⟩ := h
      exact notT (s_idx c.hK (sE a X P W N sc _ c tk hN hs h2).1.ord (sE b X P W N sc _ c tk hN hs h3).1.ord h1) rfl
    · cases h
  | .sl a lo hi, X, P, W, N, sc, e, c, tk, hN, hs, h => by
    unfold chk at h
    split at h
    · simp only [Bool.and_eq_true] at h
      obtain ⟨⟨h1, h2⟩, h3⟩ := h
      exact notT (s_sl c.hK (sE a X P W N sc _ c tk hN hs h1).1.ord (sO lo X P W N sc _ c tk hN hs h2) (sO hi X P W N sc _ c tk hN hs h3)) rfl
    · cases h
  | .rev _, _, _, _, _, _, _, _, _, _, _, h => by
    unfold chk at h
    cases h
  | .call f es, X, P, W, N, sc, e, c, tk, hN, hs, h => by
    unfold chk at h
    split at h
    · simp only [Bool.and_eq_true, decide_eq_true_eq] at h
      obtain ⟨⟨⟨h1, h2⟩, h3⟩, h4⟩ := h
      obtain ⟨g1, g2, g3, g4⟩ := glb_ok hs h2
      exact notT (s_call tk g1 g2 (c.fns f _ h1) (sS es X P W N sc _ c tk hN hs h4).1 h3) rfl
    · cases h
  | .bi f es, X, P, W, N, sc, e, c, tk, hN, hs, h => by
    unfold chk at h
    split at h
    · simp only [Bool.and_eq_true, decide_eq_true_eq] at h
      obtain ⟨⟨⟨h1, h2⟩, h3⟩, h4⟩ := h
      obtain ⟨g1, g2, g3, g4⟩ := glb_ok hs h2
      cases q : f.cl with
      | none =>
        rw [q] at h4
        exact notT (s_bi c g1 g2 g4 q h1 (sS es X P W N sc _ c tk hN hs h4).1 h3) rfl
      | some y =>
        rw [q] at h4
        dsimp only at h4
        split at h4
        · simp only [Bool.and_eq_true, decide_eq_true_eq] at h4
          obtain ⟨⟨k1, k2⟩, k3⟩ := h4
          subst k1
          obtain ⟨y1, y2, y3, y4⟩ := glb_ok hs k2
          have hx : f.nm = "isinstance" ∧ f.fresh = false := by cases f <;> first | exact ⟨rfl, rfl⟩ | cases q
          rw [h1, hx.1] at g1
          have hxx := h1.trans hx.1
          obtain ⟨fe, k4, k5, k6⟩ := (sS es X P W N sc _ c tk hN hs k3).2.2 _ rfl
          have k8 : ev Γ (.bi f es) = fun env S => (fe env S).bind fun x S => f.app [x] S := by
            funext env S
            show (evs Γ es env S).bind _ = _
            rw [k5]
            dsimp only
            cases fe env S <;> rfl
          have k9 : (E.bi f es).fresh T = false := hx.2
          rw [k9, hxx, k8]
          exact notT (s_isiB c g1 y1 y4 y2 q k4 k6) rfl
        · cases h4
    · cases h
  | .mth m o es, X, P, W, N, sc, e, c, tk, hN, hs, h => by
    unfold chk at h
    split at h
    · simp only [Bool.and_eq_true, decide_eq_true_eq] at h
      obtain ⟨⟨⟨⟨⟨⟨⟨⟨h1, h2⟩, h9⟩, h3⟩, h4⟩, h5⟩, h6⟩, h7⟩, h8⟩ := h
      subst h2
      have ko := (sE o X P W N sc _ c tk hN hs h7).1.ord
      have ks := sS es X P W N sc _ c tk hN hs h8
      split at h9
      · have h9 := of_decide_eq_true h9
        subst h9
        have k8 : ev Γ (.mth .pop o es) = mthF .pop (ev Γ o) fun _ S => .ok [] S := by
          funext env S
          show (ev Γ o env S).bind _ = _
          rw [ks.2.1 rfl]
          rfl
        rw [k8]
        exact notT (s_pop c ko h3 h4) rfl
      · rename_i hne
        exact notT (s_mtN hne c h1 (of_decide_eq_true h9) ko ks.1 h3 h4 h5 h6) rfl
    · cases h
  | .lc elt tg it cond, X, P, W, N, sc, e, c, tk, hN, hs, h => by
    unfold chk at h
    split at h
    · simp only [Bool.and_eq_true, decide_eq_true_eq] at h
      obtain ⟨⟨⟨⟨⟨⟨h1, h2⟩, h3⟩, h4⟩, h5⟩, h6⟩, h7⟩ := h
      subst h1
      have hb := blkOk_by h2
      have hok := (tgt_okC h3).2.1
      refine notT (s_lc (own := tgOwn N tg) c.hK c.calm c.nd hok (sI it X P W N sc tg _ _ c tk hN hs h5) (by rw [hN, hs]; exact hb) (by cases tg <;> rfl) (fun s H C cl fp => tgt_ok (cl := false) (sc := relS _ sc) c.hK c.calm c.nd hN (by rw [← hs]; rfl) (fun z => by cases z) h3) (fun s H C cl fp => ?_)
        (fun s H C cl fp => s_ex fun pv => (sE elt _ _ _ N (relS _ sc) _ (c.blk pv s H _ _ fp) takes0 hN (by rw [← hs]; rfl) h7).1.ord) (set_ok h4)) rfl
      split at h6
      · exact s_noif
      · simp only [Bool.and_eq_true] at h6
        exact pts_one (s_tx fun pv => (sE _ _ _ _ N (relS _ sc) _ (c.blk pv s H _ _ fp) takes0 hN (by rw [← hs]; rfl) h6.2).2.1 h6.1)
      · cases h6
    · cases h
  | .cell a, X, P, W, N, sc, e, c, tk, hN, hs, h => by
    unfold chk at h
    simp only [Bool.and_eq_true] at h
    obtain ⟨h1, h2⟩ := h
    have k := sE a X P W N sc e c tk hN hs h2
    rw [h1.1] at k
    exact notT (s_cell k.1) h1.2
  | .sset a, X, P, W, N, sc, e, c, tk, hN, hs, h => by
    unfold chk at h
    split at h
    · simp only [Bool.and_eq_true, decide_eq_true_eq] at h
      obtain ⟨⟨⟨⟨⟨h1, h2⟩, h3⟩, h4⟩, h5⟩, h6⟩ := h
      subst h1 h3
      exact notT (s_sset c.hK c.units c.calm (glb_ok hs h2).1 (c.blt _ (by decide +kernel)) bt_sorted (glb_ok hs h4).1 (c.blt _ (by decide +kernel)) bt_set h5 (sE a X P W N sc _ c tk hN hs h6).1.ord) rfl
    · cases h
  | .lset a, X, P, W, N, sc, e, c, tk, hN, hs, h => by
    unfold chk at h
    split at h
    · simp only [Bool.and_eq_true, decide_eq_true_eq] at h
      obtain ⟨⟨⟨⟨⟨h1, h2⟩, h3⟩, h4⟩, h5⟩, h6⟩ := h
      subst h1 h3
      exact notT (s_lset c.hK c.calm (glb_ok hs h2).1 (c.blt _ (by decide +kernel)) bt_len (glb_ok hs h4).1 (c.blt _ (by decide +kernel)) bt_set h5 (sE a X P W N sc _ c tk hN hs h6).1.ord) rfl
    · cases h
theorem sS : ∀ es : Es, ∀ (X : Cx) (P : Pg) (W : WX) (N : List Str) (sc : Scope) (l : List Expr), Ctx T Γ X P → Takes X W → X.N = N → X.env.scope = sc → chks T N sc es l = true → SoundS Γ X P W es l
  | .nil, X, P, W, N, sc, l, c, tk, hN, hs, h => by
    unfold chks at h
    split at h
    · exact ⟨s_nil, fun _ => rfl, fun a z => nomatch z⟩
    · cases h
  | .cons e es, X, P, W, N, sc, l, c, tk, hN, hs, h => by
    unfold chks at h
    split at h
    · simp only [Bool.and_eq_true] at h
      obtain ⟨⟨h1, h2⟩, h3⟩ := h
      exact soundS_cons h1 (sE e X P W N sc _ c tk hN hs h2).1.ord (sS es X P W N sc _ c tk hN hs h3)
    · cases h
theorem sO : ∀ o : Eo, ∀ (X : Cx) (P : Pg) (W : WX) (N : List Str) (sc : Scope) (l : Option Expr), Ctx T Γ X P → Takes X W → X.N = N → X.env.scope = sc → chko T N sc o l = true → PO X l (tO P W (evo Γ o))
  | .none, X, P, W, N, sc, l, c, tk, hN, hs, h => by
    unfold chko at h
    split at h
    · exact s_onone
    · cases h
  | .some e, X, P, W, N, sc, l, c, tk, hN, hs, h => by
    unfold chko at h
    split at h
    · exact s_osome (sE e X P W N sc _ c tk hN hs h).1.ord
    · cases h
theorem sI : ∀ it : It, ∀ (X : Cx) (P : Pg) (W : WX) (N : List Str) (sc : Scope) (tg : Tg) (t e : Expr), Ctx T Γ X P → Takes X W → X.N = N → X.env.scope = sc → chki T N sc it e = true → PI X t e (tI P W tg (evi Γ it))
  | .e a, X, P, W, N, sc, tg, t, e, c, tk, hN, hs, h => by
    unfold chki at h
    exact s_iter c.hK (sE a X P W N sc _ c tk hN hs h).1.ord
  | .rng1 a, X, P, W, N, sc, tg, t, e, c, tk, hN, hs, h => by
    unfold chki at h
    split at h
    · simp only [Bool.and_eq_true, decide_eq_true_eq] at h
      obtain ⟨⟨⟨h1, h2⟩, h3⟩, h4⟩ := h
      obtain ⟨g1, g2, g3, g4⟩ := glb_ok hs h2
      subst h1
      exact s_rng1 g1 (c.blt _ (by decide +kernel)) (sE a X P W N sc _ c tk hN hs h4).1.ord h3
    · cases h
  | .rng2 a b, X, P, W, N, sc, tg, t, e, c, tk, hN, hs, h => by
    unfold chki at h
    split at h
    · simp only [Bool.and_eq_true, decide_eq_true_eq] at h
      obtain ⟨⟨⟨⟨⟨h1, h2⟩, h3⟩, h5⟩, h4⟩, h6⟩ := h
      obtain ⟨g1, g2, g3, g4⟩ := glb_ok hs h2
      subst h1
      exact s_rng2 g1 (c.blt _ (by decide +kernel)) (sE a X P W N sc _ c tk hN hs h4).1.ord (sE b X P W N sc _ c tk hN hs h6).1.ord h3 h5
    · cases h
  | .rng3 _ _ _, _, _, _, _, _, _, _, _, _, _, _, _, h => by
    unfold chki at h
    cases h
  | .zip _ _, _, _, _, _, _, _, _, _, _, _, _, _, h => by
    unfold chki at h
    cases h
  | .enum _, _, _, _, _, _, _, _, _, _, _, _, _, h => by
    unfold chki at h
    cases h
end
end SV
/-! SvO: statements: the code, its evaluator, the checker. -/
namespace SV
open PySem PySem.Spec PyProof.Rows L2

mutual
inductive C where
  | pass
  | expr (e : E)
  | set (i : Nat) (e : E)
  | setT (i j : Nat) (e : E)
  | par (i j : Nat) (a b : E)
  | ret (e : E)
  | retN
  | ifs (c : E) (a b : Cs)
  | for (tg : Tg) (it : It) (b : Cs)
  | whl (c : E) (b : Cs)
  | brk
  | cnt
  | never
inductive Cs where
  | nil
  | cons (c : C) (cs : Cs)
end
/-- how a statement ends -/
inductive Fl where
  | nx (env : Env)
  | ret (d : D)
  | bk (env : Env)
  | ct (env : Env)
open Classical in
noncomputable def forLoop (g : Option (Nat × List D)) (st : D → Env → Option Env) (f : Env → Store → R Fl) : List D → Env → Store → R Fl
  | [], env, S => if Good g S then .ok (.nx env) S else .bad
  | x :: xs, env, S => if Good g S then (match st x env with
    | none => .bad
    | some env => (f env S).bind fun r S => match r with
      | .nx env => forLoop g st f xs env S
      | .ct env => forLoop g st f xs env S
      | .bk env => .ok (.nx env) S
      | .ret d => .ok (.ret d) S) else .bad
def whlLoop (c : Env → Store → R D) (f : Env → Store → R Fl) : Nat → Env → Store → R Fl
  | 0, _, _ => .bad
  | n + 1, env, S => (c env S).bind fun d S => match d with
    | .bl true => (f env S).bind fun r S => match r with
      | .nx env => whlLoop c f n env S
      | .ct env => whlLoop c f n env S
      | .bk env => .ok (.nx env) S
      | .ret d => .ok (.ret d) S
    | .bl false => .ok (.nx env) S
    | _ => .bad
section
variable (Γ : Nat → List D → Store → R D) (fu : Nat)
mutual
noncomputable def xc : C → Env → Store → R Fl
  | .pass, env, S => .ok (.nx env) S
  | .expr e, env, S => (ev Γ e env S).bind fun _ S => .ok (.nx env) S
  | .set i e, env, S => (ev Γ e env S).bind fun x S => .ok (.nx (env.set i (some x))) S
  | .setT i j e, env, S => (ev Γ e env S).bind fun x S => match (Tg.two i j).set x env with
    | some env => .ok (.nx env) S
    | none => .bad
  | .par i j a b, env, S => (evs Γ (.cons a (.cons b .nil)) env S).bind fun l S => match l with
    | [x, y] => .ok (.nx ((env.set i (some x)).set j (some y))) S
    | _ => .bad
  | .ret e, env, S => (ev Γ e env S).bind fun x S => .ok (.ret x) S
  | .retN, env, S => .ok (.ret .non) S
  | .ifs c a b, env, S => (ev Γ c env S).bind fun x S => match x with
    | .bl true => xcs a env S
    | .bl false => xcs b env S
    | _ => .bad
  | .for tg it b, env, S => (evi Γ it env S).bind fun src S => forLoop src.guard tg.set (fun env S => xcs b env S) src.items env S
  | .whl c b, env, S => whlLoop (fun env S => ev Γ c env S) (fun env S => xcs b env S) fu env S
  | .brk, env, S => .ok (.bk env) S
  | .cnt, env, S => .ok (.ct env) S
  | .never, _, _ => .bad
noncomputable def xcs : Cs → Env → Store → R Fl
  | .nil, env, S => .ok (.nx env) S
  | .cons c cs, env, S => (xc c env S).bind fun r S => match r with
    | .nx env => xcs cs env S
    | r => .ok r S
end
end

/-! ### the checker -/
def isLc : Expr → Bool
  | .ListComp .. => true
  | _ => false
/-- a value that is stored as it is made -/
def swapsOk (sc : Scope) (x : Str) (py : Pos) : Expr → Bool
  | .ListComp _ _ scope pos => decide (sc.names.lookup x = some .cell) || (decide (sc.names.lookup x = some .local) && (match sc.kind with | .function => true | _ => false) && (py.line == pos.line) && !(scope.names.any fun (n, k) => n == x && (k == .local || k == .cell)))
  | .SetComp .. => false
  | .DictComp .. => false
  | _ => true
def noComp : Expr → Bool
  | .ListComp .. => false
  | .SetComp .. => false
  | .DictComp .. => false
  | _ => true
def noTup : Expr → Bool
  | .Tuple .. => false
  | .List .. => false
  | .ListComp .. => false
  | .SetComp .. => false
  | .DictComp .. => false
  | _ => true
section
variable (T : Tab) (N : List Str) (sc : Scope) (fr : Bool)
mutual
def chkC : C → Stmt → Bool
  | .pass, s => match s with
    | .Pass _ => true
    | _ => false
  | .expr e, s => match s with
    | .Expr x _ => noComp x && chk T N sc e x
    | _ => false
  | .set i e, s => match s with
    | .Assign [.Name x p] v _ => decide (N[i]? = some x) && locOk true sc x && swapsOk sc x p v && chk T N sc e v
    | _ => false
  | .setT i j e, s => match s with
    | .Assign [t] v _ => tgOk true N sc (.two i j) t && noTup v && chk T N sc e v
    | _ => false
  | .par i j a b, s => match s with
    | .Assign [.Tuple [.Name x p, .Name y q] _ _] (.Tuple [u, v] _ _) _ => (decide (N[i]? = some x) && decide (sc.names.lookup x = some .local) && decide (N[j]? = some y) && decide (sc.names.lookup y = some .local)) && ((i != j) && !(x == y) && (match sc.kind with | .function => true | _ => false) && (p.line == q.line)) &&
      (notStar u && notStar v && !([u, v].all (foldedForSure 8)) && !([u, v].all (constantsAlone 8))) && (chk T N sc a u && chk T N sc b v)
    | _ => false
  | .ret e, s => match s with
    | .Return (some x) _ => (!fr || e.fresh T) && chk T N sc e x
    | _ => false
  | .retN, s => match s with
    | .Return none _ => true
    | _ => false
  | .ifs c a b, s => match s with
    | .If t x y _ => tOk t && chk T N sc c t && chkCs a x && chkCs b y
    | _ => false
  | .for tg it b, s => match s with
    | .For t i x [] _ => tgOk true N sc tg t && notSet i && chki T N sc it i && chkCs b x
    | _ => false
  | .whl c b, s => match s with
    | .While t x [] _ => tOk t && chk T N sc c t && chkCs b x
    | _ => false
  | .brk, s => match s with
    | .Break _ => true
    | _ => false
  | .cnt, s => match s with
    | .Continue _ => true
    | _ => false
  | .never, _ => true
def chkCs : Cs → List Stmt → Bool
  | .nil, l => match l with
    | [] => true
    | _ => false
  | .cons c cs, l => match l with
    | s :: l => chkC c s && chkCs cs l
    | _ => false
end
end

/-! ### what a statement asks -/
variable {X : Cx} {P : Pg} {W : WX} {ms ms' : List Addr} {F F' : Hp} {T : Tab} {Γ : Nat → List D → Store → R D}
def FlK (P : Pg) (ms : List Addr) (F : Hp) (q : L2.St → Hp → Prop) (env : Env) (S : Store) : Prop :=
  ∀ σ' H' ms' F', Nx ms F ms' F' → Slots P ms' F' σ' env → Sto P H' ms' F' S → q σ' H'
def PostS (P : Pg) (W : WX) (fr : Bool) (ms : List Addr) (F : Hp) (A : Ends) : R Fl → Prop
  | .ok (.nx env) S => FlK P ms F A.nx env S
  | .ok (.bk env) S => FlK P ms F A.bk env S
  | .ok (.ct env) S => FlK P ms F A.ct env S
  | .ok (.ret d) S => Val P ms F fr A.rt d S
  | .exc c S => ∀ H' ms' F', Nx ms F ms' F' → Sto P H' ms' F' S → ∀ σ', ExW P W σ' c H'
  | .bad => False
theorem FlK.nxt {q : L2.St → Hp → Prop} {env : Env} {S : Store} (x : Nx ms F ms' F') (h : FlK P ms F q env S) : FlK P ms' F' q env S := fun σ' H' m2 F2 nx => h σ' H' m2 F2 (x.trans nx)
theorem PostS.nxt {fr : Bool} {A : Ends} {r : R Fl} (x : Nx ms F ms' F') (h : PostS P W fr ms F A r) : PostS P W fr ms' F' A r := match r, h with
  | .ok (.nx env) S, h => FlK.nxt (P := P) (q := A.nx) x h
  | .ok (.bk env) S, h => FlK.nxt (P := P) (q := A.bk) x h
  | .ok (.ct env) S, h => FlK.nxt (P := P) (q := A.ct) x h
  | .ok (.ret d) S, h => Val.nx x h
  | .exc c S, h => fun H2 m2 F2 nx st => h H2 m2 F2 (x.trans nx) st
  | .bad, h => h
def tS (P : Pg) (W : WX) (fr : Bool) (f : Env → Store → R Fl) : TS := fun A σ H => ∃ env ms F S, Slots P ms F σ env ∧ Sto P H ms F S ∧ PostS P W fr ms F A (f env S)
theorem _root_.L2.PS.imq {s : Stmt} {t t' : TS} (h : PS X s t) (k : ∀ A σ H, t' A σ H → t A σ H) : PS X s t' := ⟨fun pins s σ H A I q => h.run pins s σ H A I (k A σ H q)⟩
theorem _root_.L2.PSs.imq {s : List Stmt} {t t' : TS} (h : PSs X s t) (k : ∀ A σ H, t' A σ H → t A σ H) : PSs X s t' := ⟨fun pins s σ H A I q => h.run pins s σ H A I (k A σ H q)⟩
/-- an expression ahead -/
theorem PostS.bindE {fr fr2 : Bool} {A : Ends} {Q : VK} {σ : L2.St} {r : R D} {g : D → Store → R Fl} (h : PostS P W fr ms F A (r.bind g))
    (k : ∀ d S, PostS P W fr ms F A (g d S) → Val P ms F fr2 Q d S) : Post P ms F fr2 Q (ExW P W σ) r := match r, h with
  | .ok d S, h => k d S h
  | .exc c S, h => fun H' ms' F' nx st => h H' ms' F' nx st σ
  | .bad, h => h
section
variable {fr : Bool} {e : Expr} {f : Env → Store → R D} {pos : Pos}
theorem z_pass : PS X (.Pass pos) (tS P W fr fun env S => .ok (.nx env) S) := ps_pass.imq fun A σ H ⟨env, ms, F, S, hs, st, h⟩ => h σ H ms F (Nx.refl _ _) hs st
theorem z_brk : PS X (.Break pos) (tS P W fr fun env S => .ok (.bk env) S) := ps_break.imq fun A σ H ⟨env, ms, F, S, hs, st, h⟩ => h σ H ms F (Nx.refl _ _) hs st
theorem z_cnt : PS X (.Continue pos) (tS P W fr fun env S => .ok (.ct env) S) := ps_continue.imq fun A σ H ⟨env, ms, F, S, hs, st, h⟩ => h σ H ms F (Nx.refl _ _) hs st
theorem z_never {s : Stmt} : PS X s (tS P W fr fun _ _ => .bad) := ps_never.imq fun A σ H ⟨env, ms, F, S, hs, st, h⟩ => h
theorem swaps_none (h : noComp e = true) : swapsWith e none pos.line X.env = pure false := by
  cases e <;> first | rfl | cases h
theorem z_expr (hn : noComp e = true) (h : PE X e (tE P W false f)) : PS X (.Expr e pos) (tS P W fr fun env S => (f env S).bind fun _ S => .ok (.nx env) S) :=
  (ps_expr h (swaps_none hn)).imq fun A σ H ⟨env, ms, F, S, hs, st, h⟩ => ⟨env, ms, F, S, hs, st, h.bindE fun d S k => fun v H' ms' F' nx st' r => k σ H' ms' F' nx (hs.mono nx) st'⟩
theorem z_ret (h : PE X e (tE P W fr f)) : PS X (.Return (some e) pos) (tS P W fr fun env S => (f env S).bind fun x S => .ok (.ret x) S) :=
  (ps_ret h).imq fun A σ H ⟨env, ms, F, S, hs, st, h⟩ => ⟨env, ms, F, S, hs, st, h.bindE fun d S k => k⟩
theorem z_retN : PS X (.Return none pos) (tS P W fr fun env S => .ok (.ret .non) S) := ps_retN.imq fun A σ H ⟨env, ms, F, S, hs, st, h⟩ => by
  have h : Val P ms F fr A.rt .non S := h
  have h2 : Ord P ms F A.rt .non S := by cases fr <;> exact h
  exact h2 _ H ms F (Nx.refl _ _) st .non
def setF (i : Nat) (f : Env → Store → R D) : Env → Store → R Fl := fun env S => (f env S).bind fun x S => .ok (.nx (env.set i (some x))) S
theorem t_set {i : Nat} {A : Ends} {σ : L2.St} {H : Hp} (h : tS P W fr (setF i f) A σ H) : tAsg (tE P W false f) (gName i) A σ H := by
  obtain ⟨env, ms, F, S, hs, st, h⟩ := h
  exact ⟨env, ms, F, S, hs, st, h.bindE fun d S k => fun v H' ms' F' nx st' r => k _ H' ms' F' nx ((hs.mono nx).set r) st'⟩
theorem swaps_name {x : Str} {p : Pos} (h : noComp e = true) : swapsWith e (some (.Name x p)) pos.line X.env = pure false := by
  cases e <;> first | rfl | cases h
theorem z_set {i : Nat} {x : Str} {p : Pos} (hN : X.N.Nodup) (hi : X.N[i]? = some x) (hx : Loc X.env.scope x) (hf : X.fn x = true ∨ X.env.scope.names.lookup x = some .local) (hn : swapsWith e (some (.Name x p)) pos.line X.env = pure false) (h : PE X e (tE P W false f)) : PS X (.Assign [.Name x p] e pos) (tS P W fr (setF i f)) :=
  (ps_set hN hi hx h hn hf).imq fun A σ H q => t_set q
theorem z_setT {N : List Str} {sc : Scope} {i j : Nat} {t : Expr} (hK : P.K = X.K) (hc : X.calm = true) (hnd : X.N.Nodup) (hN : X.N = N) (hs : X.env.scope = sc) (hf : ∀ x, X.fn x = true) (ht : tgOk true N sc (.two i j) t = true) (hn : noTup e = true) (h : PE X e (tE P W false f)) :
    PS X (.Assign [t] e pos) (tS P W fr fun env S => (f env S).bind fun x S => match (Tg.two i j).set x env with
    | some env => .ok (.nx env) S
    | none => .bad) := by
  have hg := tgt_ok hK hc hnd hN hs (fun _ => hf) ht
  obtain ⟨-, hij, h3⟩ := tgt_okC ht
  obtain ⟨x, p, y, q, a, b, rfl, -⟩ := h3 i j rfl
  refine (ps_asg h hg (by cases e <;> first | rfl | cases hn) (by cases e <;> first | rfl | cases hn)).imq fun A σ H ⟨env, ms, F, S, hs, st, h⟩ => ⟨env, ms, F, S, hs, st, h.bindE fun d S k => fun v H' ms' F' nx st' r => ?_⟩
  cases qs : (Tg.two i j).set d env with
  | none =>
    rw [qs] at k
    exact k.elim
  | some env' =>
    rw [qs] at k
    cases d with
    | tup l =>
      match l, qs with
      | [u, w], qs =>
        cases qs
        cases r with
        | tup r1 r2 r3 =>
          cases r3 with
          | cons ra t1 =>
            cases t1 with
            | cons rb t2 =>
              cases t2
              exact ⟨_, _, rfl, .inl (.inr ⟨_, st'.sub _ _ r1⟩), rfl, _, _, rfl, _, _, rfl, rfl, k _ H' ms' F' nx (((hs.mono nx).set ra).set rb) st'⟩
      | [], qs => cases qs
      | [_], qs => cases qs
      | _ :: _ :: _ :: _, qs => cases qs
    | _ => cases qs
theorem par_sw {u v : Expr} {x y : Str} {p q pt pt2 : Pos} {kt k2 : Nat} (hk : X.env.scope.kind = .function) (hx : X.env.scope.names.lookup x = some .local) (hy : X.env.scope.names.lookup y = some .local) (hl : (p.line == q.line) = true) (hn : (x == y) = false) (s1 : notStar u = true) (s2 : notStar v = true)
    (f : [u, v].all (foldedForSure 8) = false) (c : [u, v].all (constantsAlone 8) = false) : swappedStores [.Tuple [.Name x p, .Name y q] kt pt] (.Tuple [u, v] k2 pt2) X.env = pure (some [x, y]) := by
  have kx : X.env.kindOf x = some .local := hx
  have ky : X.env.kindOf y = some .local := hy
  have hb : X.env.blockKind = .function := by unfold Env.blockKind; rw [hk]; rfl
  have hl2 : (q.line == p.line) = true := by
    rw [beq_iff_eq] at hl ⊢
    exact hl.symm
  have hn2 : x ≠ y := fun e => by
    rw [e] at hn
    simp at hn
  have l1 : ((some NameKind.local : Option NameKind) == some NameKind.local) = true := by decide
  have ff : ((NameKind.local : NameKind) == NameKind.local) = true := by decide
  unfold swappedStores
  simp only [hb, kx, ky, List.any_cons, List.any_nil, f, c, List.filterMap_cons, List.filterMap_nil, List.head?_cons, Option.map_some, Option.getD_some, Expr.pos, hl2, l1, beq_self_eq_true, Bool.and_self, List.length_cons, List.length_nil]
  have ed : ([x, y] : List Str).eraseDups = [x, y] := by
    have hyx : (y == x) = false := by
      rw [beq_eq_false_iff_ne]
      exact fun e => hn2 e.symm
    simp [List.eraseDups_cons, hyx]
  rw [if_neg (by decide), if_neg (fun hh => by
    rw [Bool.or_eq_true, Bool.or_false] at hh
    rcases hh with hh | hh
    · cases u <;> first | (cases s1; done) | (cases hh; done)
    · cases v <;> first | (cases s2; done) | (cases hh; done))]
  simp only [ed, if_true, List.length_cons, List.length_nil]
  rfl
theorem z_par {i j : Nat} {x y : Str} {u v : Expr} {px py pt pt2 : Pos} {kt k2 : Nat} {fs : Env → Store → R (List D)} (hc : X.calm = true) (hN : X.N.Nodup) (hi : X.N[i]? = some x) (hj : X.N[j]? = some y) (hij : i ≠ j) (hx : X.env.scope.names.lookup x = some .local) (hy : X.env.scope.names.lookup y = some .local)
    (hw : swappedStores [.Tuple [.Name x px, .Name y py] kt pt] (.Tuple [u, v] k2 pt2) X.env = pure (some [x, y])) (ha : PA X [u, v] (tA P W fs)) :
    PS X (.Assign [.Tuple [.Name x px, .Name y py] kt pt] (.Tuple [u, v] k2 pt2) pos) (tS P W fr fun env S => (fs env S).bind fun l S => match l with
    | [x, y] => .ok (.nx ((env.set i (some x)).set j (some y))) S
    | _ => .bad) := by
  refine (ps_par hc hN hi hj hij hx hy ha hw).imq fun A σ H ⟨env, ms, F, S, hs, st, h⟩ => ⟨env, ms, F, S, hs, st, ?_⟩
  dsimp only at h
  cases q : fs env S with
  | bad =>
    rw [q] at h
    exact h
  | exc c S1 =>
    rw [q] at h
    exact fun H' ms' F' nx st' => h H' ms' F' nx st' σ
  | ok l S1 =>
    rw [q] at h
    refine fun vs H1 ms1 F1 nx st1 rl => ?_
    match l, rl, h with
    | [d1, d2], .cons r1 (.cons r2 .nil), h => exact ⟨_, _, rfl, h _ H1 ms1 F1 nx (((hs.mono nx).set r1).set r2) st1⟩
    | [], _, h => exact h.elim
    | [_], _, h => exact h.elim
    | _ :: _ :: _ :: _, _, h => exact h.elim
theorem z_ifs {c : Expr} {a b : List Stmt} {fa fb : Env → Store → R Fl} (hc : PT X c (tT P W f)) (ha : PSs X a (tS P W fr fa)) (hb : PSs X b (tS P W fr fb)) :
    PS X (.If c a b pos) (tS P W fr fun env S => (f env S).bind fun x S => match x with
    | .bl true => fa env S
    | .bl false => fb env S
    | _ => .bad) :=
  (ps_if hc ha hb).imq fun A σ H ⟨env, ms, F, S, hs, st, h⟩ => ⟨env, ms, F, S, hs, st, h.bindE fun d S k => fun v H' ms' F' nx st' r => by
    cases r with
    | bl b =>
      refine ⟨b, rfl, ?_⟩
      cases b with
      | true => exact iteT ⟨env, ms', F', S, hs.mono nx, st', k.nxt nx⟩
      | false => exact iteF ⟨env, ms', F', S, hs.mono nx, st', k.nxt nx⟩
    | _ => exact k.elim⟩
theorem z_nil : PSs X [] (tS P W fr fun env S => .ok (.nx env) S) := pss_nil.imq fun A σ H ⟨env, ms, F, S, hs, st, h⟩ => h σ H ms F (Nx.refl _ _) hs st
theorem z_cons {s : Stmt} {l : List Stmt} {fa fb : Env → Store → R Fl} (ha : PS X s (tS P W fr fa)) (hb : PSs X l (tS P W fr fb)) :
    PSs X (s :: l) (tS P W fr fun env S => (fa env S).bind fun r S => match r with
    | .nx env => fb env S
    | r => .ok r S) :=
  (pss_cons ha hb).imq fun A σ H ⟨env, ms, F, S, hs, st, h⟩ => ⟨env, ms, F, S, hs, st, by
    dsimp only at h
    cases q : fa env S with
    | bad =>
      rw [q] at h
      exact h
    | exc c S1 =>
      rw [q] at h
      exact h
    | ok r S1 =>
      rw [q] at h
      cases r with
      | nx env1 => exact fun σ' H' ms' F' nx hs' st' => ⟨env1, ms', F', S1, hs', st', PostS.nxt nx h⟩
      | ret d => exact h
      | bk env1 => exact h
      | ct env1 => exact h⟩
end
end SV
/-! SvP: loops; the soundness of the checker of statements. -/
namespace SV
open PySem PySem.Spec PyProof.Rows L2
variable {X : Cx} {P : Pg} {W : WX} {T : Tab} {Γ : Nat → List D → Store → R D} {fr : Bool} {pos : Pos}
/-- the target stored, in the frame -/
theorem tgt_here {tg : Tg} {d : D} {env env' : Env} {x : V} {σ : L2.St} {ms : List Addr} {F H : Hp} {Q : L2.St → Hp → Prop} (e : tg.set d env = some env') (hs : Slots P ms F σ env) (r : ItemR P ms F H tg x d)
    (h : ∀ σ2, Slots P ms F σ2 env' → Q σ2 H) : gT P.K tg x σ H Q := by
  cases tg with
  | one i =>
    cases e
    exact h _ (hs.set r)
  | two i j =>
    have key : ∀ a b, d = .tup [a, b] → env' = (env.set i (some a)).set j (some b) → gT P.K (.two i j) x σ H Q := fun a b e1 e2 => by
      obtain ⟨T, xs, rfl, sq, rl⟩ := r _ e1
      subst e2
      cases rl with
      | cons r1 t =>
        cases t with
        | cons r2 t2 =>
          cases t2
          exact ⟨T, _, rfl, sq, rfl, _, _, rfl, _, _, rfl, rfl, h _ ((hs.set r1).set r2)⟩
    cases d with
    | tup l =>
      match l, e with
      | [a, b], e => exact key a b rfl (Option.some.inj e).symm
      | [], e => cases e
      | [_], e => cases e
      | _ :: _ :: _ :: _, e => cases e
    | _ => cases e
theorem z_for {iter tgE : Expr} {body : List Stmt} {tg : Tg} {fi : Env → Store → R Src} {fb : Env → Store → R Fl} (hp : PassesOwn (model X.prog X.w) X.A X.env X.xe) (hc : X.calm = true) (hi : PI X tgE iter (tI P W tg fi)) (hg : PG X tgE (gT P.K tg)) (hb : PSs X body (tS P W fr fb))
    (hs : ∀ x, foldedSetIterable iter X.env x = pure x) : PS X (.For tgE iter body [] pos) (tS P W fr fun env S => (fi env S).bind fun src S => forLoop src.guard tg.set fb src.items env S) := by
  refine (ps_for hp hc hi hg hb hs).imq fun A σ H ⟨env, ms, F, S, sl, st, h⟩ => ⟨env, ms, F, S, sl, st, ?_⟩
  dsimp only at h
  cases q : fi env S with
  | bad =>
    rw [q] at h
    exact h
  | exc c S1 =>
    rw [q] at h
    exact fun H' ms' F' nx st' => h H' ms' F' nx st' σ
  | ok src S1 =>
    rw [q] at h
    dsimp only [R.bind_ok] at h
    refine fun J H1 ms1 F1 nx st1 it => ?_
    refine ⟨fun i m σ' H' => m = src.items.length - i ∧ i ≤ src.items.length ∧ ∃ env' ms' F' S', Nx ms1 F1 ms' F' ∧ Slots P ms' F' σ' env' ∧ Sto P H' ms' F' S' ∧
      PostS P W fr ms' F' A (forLoop src.guard tg.set fb (src.items.drop i) env' S'), ⟨_, rfl, Nat.zero_le _, env, ms1, F1, S1, Nx.refl _ _, sl.mono nx, st1, PostS.nxt nx h⟩, ?_⟩
    rintro i m σ2 H2 ⟨rfl, hi2, env2, ms2, F2, S2, nx2, sl2, st2, fin2⟩
    by_cases hlt : i < src.items.length
    · right
      rw [List.drop_eq_getElem_cons hlt] at fin2
      have gd : Good src.guard S2 := by
        unfold forLoop at fin2
        by_cases g : Good src.guard S2
        · exact g
        · rw [if_neg g] at fin2
          exact fin2.elim
      unfold forLoop at fin2
      rw [if_pos gd] at fin2
      have it2 := it P.pv i H2 ms2 F2 S2 nx2 st2 gd
      obtain ⟨go, yl⟩ := it2.1 src.items[i] (getO hlt)
      refine ⟨go, fun σ' H' => ∃ env' ms' F' S', Nx ms1 F1 ms' F' ∧ Slots P ms' F' σ' env' ∧ Sto P H' ms' F' S' ∧
        PostS P W fr ms' F' A (forLoop src.guard tg.set fb (src.items.drop (i + 1)) env' S'), fun σ' H' hh => ⟨_, by omega, rfl, hlt, hh⟩, fun x H3 hy => ?_⟩
      obtain ⟨st3, rx⟩ := yl x H3 hy
      cases qs : tg.set src.items[i] env2 with
      | none =>
        rw [qs] at fin2
        exact fin2.elim
      | some env' =>
        rw [qs] at fin2
        dsimp only at fin2
        refine tgt_here qs sl2 rx fun σ3 sl3 => ⟨env', ms2, F2, S2, sl3, st3, ?_⟩
        cases qb : fb env' S2 with
        | bad =>
          rw [qb] at fin2
          exact fin2
        | exc cc S3 =>
          rw [qb] at fin2
          exact fin2
        | ok r S3 =>
          rw [qb] at fin2
          dsimp only [R.bind_ok] at fin2
          cases r with
          | nx env3 => exact fun σ4 H4 ms4 F4 nx4 sl4 st4 => ⟨env3, ms4, F4, S3, nx2.trans nx4, sl4, st4, PostS.nxt nx4 fin2⟩
          | ct env3 => exact fun σ4 H4 ms4 F4 nx4 sl4 st4 => ⟨env3, ms4, F4, S3, nx2.trans nx4, sl4, st4, PostS.nxt nx4 fin2⟩
          | bk env3 => exact fin2
          | ret d => exact fin2
    · left
      have e : i = src.items.length := by omega
      subst e
      rw [List.drop_length] at fin2
      unfold forLoop at fin2
      by_cases gd : Good src.guard S2
      · rw [if_pos gd] at fin2
        exact ⟨(it P.pv src.items.length H2 ms2 F2 S2 nx2 st2 gd).2 (Nat.le_refl _), fin2 σ2 H2 ms2 F2 (Nx.refl _ _) sl2 st2⟩
      · rw [if_neg gd] at fin2
        exact fin2.elim
theorem z_whl {c : Expr} {body : List Stmt} {f : Env → Store → R D} {fb : Env → Store → R Fl} {fu : Nat} (hp : PassesOwn (model X.prog X.w) X.A X.env X.xe) (hc : PT X c (tT P W f)) (hb : PSs X body (tS P W fr fb)) :
    PS X (.While c body [] pos) (tS P W fr (whlLoop f fb fu)) := by
  refine (ps_while hp hc hb).imq fun A σ H ⟨env, ms, F, S, sl, st, h⟩ => ?_
  refine ⟨fun m σ' H' => ∃ env' ms' F' S', Slots P ms' F' σ' env' ∧ Sto P H' ms' F' S' ∧ PostS P W fr ms' F' A (whlLoop f fb m env' S'), ⟨fu, env, ms, F, S, sl, st, h⟩, ?_⟩
  rintro m σ2 H2 ⟨env2, ms2, F2, S2, sl2, st2, h2⟩
  cases m with
  | zero => exact h2.elim
  | succ m =>
    unfold whlLoop at h2
    refine ⟨env2, ms2, F2, S2, sl2, st2, h2.bindE fun d S3 k => fun v H3 ms3 F3 nx3 st3 r => ?_⟩
    cases r with
    | bl b =>
      refine ⟨b, rfl, ?_⟩
      cases b with
      | false => exact iteF (k σ2 H3 ms3 F3 nx3 (sl2.mono nx3) st3)
      | true =>
        refine iteT ⟨fun σ' H' => ∃ env' ms' F' S', Slots P ms' F' σ' env' ∧ Sto P H' ms' F' S' ∧ PostS P W fr ms' F' A (whlLoop f fb m env' S'), fun σ' H' hh => ⟨m, Nat.lt_succ_self _, hh⟩, env2, ms3, F3, S3, sl2.mono nx3, st3, ?_⟩
        have k := PostS.nxt nx3 k
        dsimp only at k
        cases qb : fb env2 S3 with
        | bad =>
          rw [qb] at k
          exact k
        | exc cc S4 =>
          rw [qb] at k
          exact k
        | ok r S4 =>
          rw [qb] at k
          dsimp only [R.bind_ok] at k
          cases r with
          | nx env3 => exact fun σ4 H4 ms4 F4 nx4 sl4 st4 => ⟨env3, ms4, F4, S4, sl4, st4, PostS.nxt nx4 k⟩
          | ct env3 => exact fun σ4 H4 ms4 F4 nx4 sl4 st4 => ⟨env3, ms4, F4, S4, sl4, st4, PostS.nxt nx4 k⟩
          | bk env3 => exact k
          | ret d => exact k
    | _ => exact k.elim

/-! ### name = [..] -/
/-- the statement, for whatever the comprehension makes -/
def SetR (X : Cx) (v : Expr) (t : TE) : Prop := ∀ (i : Nat) (y : Str) (py spos : Pos), X.N[i]? = some y → X.env.scope.names.lookup y = some .local → swapsWith v (some (.Name y py)) spos.line X.env = pure true → PS X (.Assign [.Name y py] v spos) (tAsg t (gName i))
theorem setR_chk {N : List Str} {sc : Scope} {fu : Nat} (c : Ctx T Γ X P) (tk : Takes X W) (hN : X.N = N) (hs : X.env.scope = sc) : ∀ {e : E} {v : Expr}, chk T N sc e v = true → isLc v = true → SetR X v (tE P W (e.fresh T) (ev Γ e))
  | .lc elt tg it cond, v, h, hv => by
    unfold chk at h
    split at h
    · simp only [Bool.and_eq_true, decide_eq_true_eq] at h
      obtain ⟨⟨⟨⟨⟨⟨h1, h2⟩, h3⟩, h4⟩, h5⟩, h6⟩, h7⟩ := h
      subst h1
      have hb := blkOk_by h2
      have hok := (tgt_okC h3).2.1
      intro i y py spos g1 g2 g3
      refine s_setLc (own := tgOwn N tg) g1 g2 g3 c.hK c.calm c.nd hok (sI it X P W N sc tg _ _ c tk hN hs h5) (by rw [hN, hs]; exact hb) (by cases tg <;> rfl) (fun s H C cl fp => tgt_ok (cl := false) (sc := relS _ sc) c.hK c.calm c.nd hN (by rw [← hs]; rfl) (fun z => by cases z) h3) (fun s H C cl fp => ?_)
        (fun s H C cl fp => s_ex fun pv => (sE elt _ _ _ N (relS _ sc) _ (c.blk pv s H _ _ fp) takes0 hN (by rw [← hs]; rfl) h7).1.ord) (set_ok h4)
      split at h6
      · exact s_noif
      · simp only [Bool.and_eq_true] at h6
        exact pts_one (s_tx fun pv => (sE _ _ _ _ N (relS _ sc) _ (c.blk pv s H _ _ fp) takes0 hN (by rw [← hs]; rfl) h6.2).2.1 h6.1)
      · cases h6
    · cases h
  | .cell a, v, h, hv => by
    unfold chk at h
    simp only [Bool.and_eq_true] at h
    have k := setR_chk (fu := fu) c tk hN hs h.2 hv
    rw [h.1.1] at k
    intro i y py spos g1 g2 g3
    exact (k i y py spos g1 g2 g3).imq fun A σ H q => t_cell q
  | .var _, v, h, hv => by
    cases v <;> first | (cases hv; done) | (unfold chk at h; cases h; done)
  | .cst _, v, h, hv => by
    cases v <;> first | (cases hv; done) | (unfold chk at h; cases h; done)
  | .glb _ _, v, h, hv => by
    cases v <;> first | (cases hv; done) | (unfold chk at h; cases h; done)
  | .op _ _ _, v, h, hv => by
    cases v <;> first | (cases hv; done) | (unfold chk at h; cases h; done)
  | .neg _, v, h, hv => by
    cases v <;> first | (cases hv; done) | (unfold chk at h; cases h; done)
  | .cmp _ _ _, v, h, hv => by
    cases v <;> first | (cases hv; done) | (unfold chk at h; cases h; done)
  | .chn _ _ _ _ _, v, h, hv => by
    cases v <;> first | (cases hv; done) | (unfold chk at h; cases h; done)
  | .not _, v, h, hv => by
    cases v <;> first | (cases hv; done) | (unfold chk at h; cases h; done)
  | .and _ _, v, h, hv => by
    cases v <;> first | (cases hv; done) | (unfold chk at h; cases h; done)
  | .or _ _, v, h, hv => by
    cases v <;> first | (cases hv; done) | (unfold chk at h; cases h; done)
  | .ite _ _ _, v, h, hv => by
    cases v <;> first | (cases hv; done) | (unfold chk at h; cases h; done)
  | .tup _, v, h, hv => by
    cases v <;> first | (cases hv; done) | (unfold chk at h; cases h; done)
  | .lst _, v, h, hv => by
    cases v <;> first | (cases hv; done) | (unfold chk at h; cases h; done)
  | .idx _ _, v, h, hv => by
    cases v <;> first | (cases hv; done) | (unfold chk at h; cases h; done)
  | .sl _ _ _, v, h, hv => by
    cases v <;> first | (cases hv; done) | (unfold chk at h; cases h; done)
  | .rev _, v, h, hv => by
    cases v <;> first | (cases hv; done) | (unfold chk at h; cases h; done)
  | .call _ _, v, h, hv => by
    cases v <;> first | (cases hv; done) | (unfold chk at h; cases h; done)
  | .bi _ _, v, h, hv => by
    cases v <;> first | (cases hv; done) | (unfold chk at h; cases h; done)
  | .mth _ _ _, v, h, hv => by
    cases v <;> first | (cases hv; done) | (unfold chk at h; cases h; done)
  | .snap _, v, h, hv => by
    cases v <;> first | (cases hv; done) | (unfold chk at h; cases h; done)
  | .sset _, v, h, hv => by
    cases v <;> first | (cases hv; done) | (unfold chk at h; cases h; done)
  | .lset _, v, h, hv => by
    cases v <;> first | (cases hv; done) | (unfold chk at h; cases h; done)
theorem sw_cell {e : Expr} {x : Str} {p : Pos} {l : Nat} (he : isLc e = true) (hx : X.env.scope.names.lookup x = some .cell) : swapsWith e (some (.Name x p)) l X.env = pure false := by
  cases e <;> first | (cases he; done) | skip
  have ky : X.env.kindOf x = some .cell := hx
  unfold swapsWith
  simp only [ky, Expr.pos]
  have e1 : ((some NameKind.cell : Option NameKind) == some NameKind.local) = false := by decide
  rw [e1]
  simp
theorem z_setAny {N : List Str} {sc : Scope} {e : E} {v : Expr} {i : Nat} {x : Str} {p : Pos} (c : Ctx T Γ X P) (tk : Takes X W) (hN : X.N = N) (hs : X.env.scope = sc) (hf : ∀ x, X.fn x = true) (h1 : N[i]? = some x) (h2 : locOk true sc x = true) (h3 : swapsOk sc x p v = true) (h4 : chk T N sc e v = true) :
    PS X (.Assign [.Name x p] v pos) (tS P W fr (setF i (ev Γ e))) := by
  have h1' := h1
  rw [← hN] at h1'
  have h2' := (loc_ok h2).1
  rw [← hs] at h2'
  by_cases hv : isLc v = true
  · have h3' : X.env.scope.names.lookup x = some .cell ∨ (X.env.scope.names.lookup x = some .local ∧ swapsWith v (some (.Name x p)) pos.line X.env = pure true) := by
      rw [hs]
      cases v <;> first | (cases hv; done) | skip
      unfold swapsOk at h3
      simp only [Bool.and_eq_true, Bool.or_eq_true, decide_eq_true_eq, Bool.not_eq_true'] at h3
      rcases h3 with h3 | ⟨⟨⟨k0, k1⟩, k2⟩, k3⟩
      · exact .inl h3
      · refine .inr ⟨k0, sw_true ?_ (by rw [hs]; exact k0) k2 k3⟩
        rw [hs]
        split at k1
        · assumption
        · cases k1
    rcases h3' with hc | ⟨hl, hsw⟩
    · exact z_set c.nd h1' h2' (.inl (hf _)) (sw_cell hv hc) (sE e X P W N sc v c tk hN hs h4).1.ord
    · have k := setR_chk (fu := 0) c tk hN hs h4 hv
      refine (k i x p pos h1' hl hsw).imq fun A σ H q => ?_
      obtain ⟨env, ms, F, S, hs, st, h⟩ := t_set q
      exact ⟨env, ms, F, S, hs, st, h.weak⟩
  · have hn : noComp v = true := by
      cases v <;> first | rfl | (exact absurd rfl hv) | cases h3
    exact z_set c.nd h1' h2' (.inl (hf _)) (swaps_name hn) (sE e X P W N sc v c tk hN hs h4).1.ord

/-- what stands around, for statements -/
structure CtxS (T : Tab) (Γ : Nat → List D → Store → R D) (X : Cx) (P : Pg) (W : WX) (N : List Str) (sc : Scope) : Prop extends Ctx T Γ X P where
  tk : Takes X W
  hN : X.N = N
  hs : X.env.scope = sc
  hp : PassesOwn (model X.prog X.w) X.A X.env X.xe
  hf : ∀ x, X.fn x = true
mutual
theorem sC {N : List Str} {sc : Scope} {fu : Nat} (c : CtxS T Γ X P W N sc) : ∀ (k : C) (s : Stmt), chkC T N sc fr k s = true → PS X s (tS P W fr (xc Γ fu k))
  | .pass, s, h => by
    unfold chkC at h
    split at h
    · exact z_pass
    · cases h
  | .expr e, s, h => by
    unfold chkC at h
    split at h
    · simp only [Bool.and_eq_true] at h
      exact z_expr h.1 (sE e X P W N sc _ c.toCtx c.tk c.hN c.hs h.2).1.ord
    · cases h
  | .set i e, s, h => by
    unfold chkC at h
    split at h
    · simp only [Bool.and_eq_true, decide_eq_true_eq] at h
      obtain ⟨⟨⟨h1, h2⟩, h3⟩, h4⟩ := h
      exact z_setAny c.toCtx c.tk c.hN c.hs c.hf h1 h2 h3 h4
    · cases h
  | .setT i j e, s, h => by
    unfold chkC at h
    split at h
    · simp only [Bool.and_eq_true] at h
      obtain ⟨⟨h1, h2⟩, h3⟩ := h
      exact z_setT c.hK c.calm c.nd c.hN c.hs c.hf h1 h2 (sE e X P W N sc _ c.toCtx c.tk c.hN c.hs h3).1.ord
    · cases h
  | .par i j a b, s, h => by
    unfold chkC at h
    split at h
    · simp only [Bool.and_eq_true, decide_eq_true_eq, Bool.not_eq_true', bne_iff_ne] at h
      obtain ⟨⟨⟨⟨⟨⟨a1, a2⟩, a3⟩, a4⟩, ⟨⟨b1, b2⟩, b3⟩, b4⟩, ⟨⟨c1, c2⟩, c3⟩, c4⟩, d1, d2⟩ := h
      have hk : X.env.scope.kind = .function := by
        rw [c.hs]
        split at b3
        · assumption
        · cases b3
      rw [← c.hN] at a1 a3
      rw [← c.hs] at a2 a4
      have pa := (sS (.cons a (.cons b .nil)) X P W N sc [_, _] c.toCtx c.tk c.hN c.hs (by
        simp only [chks, Bool.and_eq_true]
        exact ⟨⟨c1, d1⟩, ⟨c2, d2⟩, trivial⟩)).1
      exact z_par c.calm c.nd a1 a3 b1 a2 a4 (par_sw hk a2 a4 b4 b2 c1 c2 c3 c4) pa
    · cases h
  | .ret e, s, h => by
    unfold chkC at h
    split at h
    · simp only [Bool.and_eq_true, Bool.or_eq_true, Bool.not_eq_true'] at h
      have k := (sE e X P W N sc _ c.toCtx c.tk c.hN c.hs h.2).1
      rcases h.1 with h1 | h1
      · subst h1
        exact z_ret k.ord
      · rw [h1] at k
        cases fr with
        | false => exact z_ret k.ord
        | true => exact z_ret k
    · cases h
  | .retN, s, h => by
    unfold chkC at h
    split at h
    · exact z_retN
    · cases h
  | .ifs d a b, s, h => by
    unfold chkC at h
    split at h
    · simp only [Bool.and_eq_true] at h
      obtain ⟨⟨⟨h1, h2⟩, h3⟩, h4⟩ := h
      exact z_ifs ((sE d X P W N sc _ c.toCtx c.tk c.hN c.hs h2).2.1 h1) (sCs c a _ h3) (sCs c b _ h4)
    · cases h
  | .for tg it b, s, h => by
    unfold chkC at h
    split at h
    · simp only [Bool.and_eq_true] at h
      obtain ⟨⟨⟨h1, h2⟩, h3⟩, h4⟩ := h
      exact z_for c.hp c.calm (sI it X P W N sc tg _ _ c.toCtx c.tk c.hN c.hs h3) (tgt_ok c.hK c.calm c.nd c.hN c.hs (fun _ => c.hf) h1) (sCs c b _ h4) (set_ok h2)
    · cases h
  | .whl d b, s, h => by
    unfold chkC at h
    split at h
    · simp only [Bool.and_eq_true] at h
      obtain ⟨⟨h1, h2⟩, h3⟩ := h
      exact z_whl c.hp ((sE d X P W N sc _ c.toCtx c.tk c.hN c.hs h2).2.1 h1) (sCs c b _ h3)
    · cases h
  | .brk, s, h => by
    unfold chkC at h
    split at h
    · exact z_brk
    · cases h
  | .cnt, s, h => by
    unfold chkC at h
    split at h
    · exact z_cnt
    · cases h
  | .never, s, h => z_never
theorem sCs {N : List Str} {sc : Scope} {fu : Nat} (c : CtxS T Γ X P W N sc) : ∀ (k : Cs) (s : List Stmt), chkCs T N sc fr k s = true → PSs X s (tS P W fr (xcs Γ fu k))
  | .nil, s, h => by
    unfold chkCs at h
    split at h
    · exact z_nil
    · cases h
  | .cons k ks, s, h => by
    unfold chkCs at h
    split at h
    · simp only [Bool.and_eq_true] at h
      exact z_cons (sC c k _ h.1) (sCs c ks _ h.2)
    · cases h
end
end SV
/-! SvQ: defs; the master theorem. -/
namespace SV
open PySem PySem.Spec PyProof.Rows L2
variable {P : Pg} {ms ms' : List Addr} {F F' H H' : Hp}

/-! ### the store cut down -/
mutual
theorem Rep.cut {n : Nat} : ∀ {v : V} {d : D}, Rep P ms F v d → D.lo n d = true → Rep P (ms.take n) F v d
  | _, _, .non, _ => .non
  | _, _, .bl b, _ => .bl b
  | _, _, .int i, _ => .int i
  | _, _, .str s, _ => .str s
  | _, _, .tup h e r, k => .tup h e (RepL.cut r (by unfold D.lo at k; exact k))
  | _, _, .lst h r, k => .lst h (RepL.cut r (by unfold D.lo at k; exact k))
  | _, _, .scr h, _ => .scr h
  | _, _, .loc h, k => .loc (by
    unfold D.lo at k
    rw [List.getElem?_take_of_lt (of_decide_eq_true k)]
    exact h)
  | _, _, .fn h, _ => .fn h
theorem RepL.cut {n : Nat} : ∀ {v : List V} {d : List D}, RepL P ms F v d → D.los n d = true → RepL P (ms.take n) F v d
  | _, _, .nil, _ => .nil
  | _, _, .cons h t, k => by
    unfold D.los at k
    rw [Bool.and_eq_true] at k
    exact .cons (Rep.cut h k.1) (RepL.cut t k.2)
end
theorem Nx.cut {n : Nat} (x : Nx ms F ms' F') (h : ms.length ≤ n) : Nx ms F (ms'.take n) F' := ⟨fun k a e => by
  have hk : k < ms.length := (List.getElem?_eq_some_iff.mp e).1
  rw [List.getElem?_take_of_lt (by omega)]
  exact x.pre k a e, x.sub⟩
theorem take_some {α : Type} {l : List α} {n k : Nat} {a : α} (h : (l.take n)[k]? = some a) : k < n ∧ l[k]? = some a := by
  by_cases hk : k < n
  · rw [List.getElem?_take_of_lt hk] at h
    exact ⟨hk, h⟩
  · rw [List.getElem?_eq_none (by rw [List.length_take]; omega)] at h
    cases h
theorem Sto.cut {S : Store} {n : Nat} (h : Sto P H ms F S) (hc : (S.take n).all (Cell.lo n) = true) : Sto P H (ms.take n) F (S.take n) := by
  have tk : ∀ {k : Nat}, k < n → (S.take n)[k]? = S[k]? := fun hk => List.getElem?_take_of_lt hk
  refine ⟨h.sub, by rw [List.length_take, List.length_take, h.len], fun k a e => h.has k a (take_some e).2, fun k j a e1 e2 => ?_, fun k a c e1 e2 => ?_, fun p hp => ?_⟩
  · have t1 := take_some e1
    have t2 := take_some e2
    rw [tk t1.1, tk t2.1]
    exact h.inj k j a t1.2 t2.2
  · have t1 := take_some e1
    have t2 := take_some e2
    have q := h.cell k a c t1.2 t2.2
    have lo : c.lo n = true := List.all_eq_true.mp hc c (List.mem_of_getElem? e2)
    cases c with
    | lst l =>
      obtain ⟨h1, xs, h2, h3⟩ := q
      exact ⟨h1, xs, h2, h3.cut lo⟩
    | dct l => exact q
    | obj c l => exact q
    | dead => trivial
  · obtain ⟨p1, p2, p3⟩ := h.prv p hp
    refine ⟨p1, p2, fun k e => ?_⟩
    have t1 := take_some e
    rw [tk t1.1]
    exact p3 k t1.2
theorem Fresh.cut {S : Store} {n : Nat} {p : Addr} {l : List D} (h : Fresh P H ms F S p l) (hl : D.los n l = true) : Fresh P H (ms.take n) F (S.take n) p l := by
  obtain ⟨h3, h4, ⟨xs, h1, h2⟩, h5⟩ := h
  refine ⟨h3, fun k e => ?_, ⟨xs, h1, h2.cut hl⟩, h5⟩
  have t1 := take_some e
  rw [List.getElem?_take_of_lt t1.1]
  exact h4 k t1.2
/-- the cells that a def has made are forgotten -/
def fin (n : Nat) : R D → R D
  | .ok d S => if (D.lo n d && (S.take n).all (Cell.lo n)) = true then .ok d (S.take n) else .ok d S
  | .exc c S => if (S.take n).all (Cell.lo n) = true then .exc c (S.take n) else .exc c S
  | .bad => .bad
theorem Post.fin {fr : Bool} {Q : VK} {Ex : XQ} {r : R D} (h : Post P ms F fr Q Ex (SV.fin ms.length r)) : Post P ms F fr Q Ex r := by
  cases r with
  | bad => exact h
  | exc c S =>
    change Post P ms F fr Q Ex (if _ then _ else _) at h
    split at h
    · next k => exact fun H' ms' F' nx st => h H' _ F' (nx.cut (Nat.le_refl _)) (st.cut k)
    · exact h
  | ok d S =>
    change Post P ms F fr Q Ex (if _ then _ else _) at h
    split at h
    · next k =>
      rw [Bool.and_eq_true] at k
      have ho : ∀ (h2 : Ord P ms F Q d (S.take ms.length)), Ord P ms F Q d S := fun h2 v H' ms' F' nx st r => h2 v H' _ F' (nx.cut (Nat.le_refl _)) (st.cut k.2) (r.cut k.1)
      have h2 : Val P ms F fr Q d (S.take ms.length) := h
      show Val P ms F fr Q d S
      unfold Val at h2 ⊢
      split
      · next l =>
        have k1 := k.1
        unfold D.lo at k1
        exact fun p H' ms' F' nx st f => h2 p H' _ F' (nx.cut (Nat.le_refl _)) (st.cut k.2) (f.cut k1)
      · next q =>
        split at h2
        · exact absurd rfl (q _ rfl)
        · exact ho h2
    · exact h

/-! ### the defs -/
/-- the scope of a def, looked at -/
def scopeC (N ps : List Str) (sc : Scope) : Bool :=
  (decide (sc.kind = .function) && (sc.isCoroutine == false) && (sc.isGenerator == false)) && (decide N.Nodup && decide (N.take ps.length = ps)) &&
    ((ps.all fun x => decide (sc.names.lookup x = some .local ∨ sc.names.lookup x = some .cell)) && (sc.names.all fun y => decide (y.2 ≠ .free)))
theorem scopeC_ok {N ps : List Str} {sc : Scope} (h : scopeC N ps sc = true) : FnScope N ps sc := by
  unfold scopeC at h
  simp only [Bool.and_eq_true, beq_iff_eq, decide_eq_true_eq, List.all_eq_true] at h
  obtain ⟨⟨⟨⟨a1, a2⟩, a3⟩, b1, b2⟩, c1, c2⟩ := h
  exact ⟨a1, a2, a3, b1, b2, c1, c2⟩
/-- a def's code -/
structure Fd where
  ar : Nat
  sl : Nat
  fresh : Bool
  body : Cs
/-- a def of a law's text: its place in the table of codes -/
structure Row where
  i : Nat
  name : Str
  st : Stmt
  ps : List Str
  N : List Str
def toD : R Fl → R D
  | .ok (.nx _) S => .ok .non S
  | .ok (.ret d) S => .ok d S
  | .ok _ _ => .bad
  | .exc c S => .exc c S
  | .bad => .bad
section
variable (G : Nat → Option Fd) (fu : Nat)
/-- what a def answers, at so many levels -/
noncomputable def run : Nat → Nat → List D → Store → R D
  | 0, _, _, _ => .bad
  | n + 1, i, ds, S => match G i with
    | none => .bad
    | some r => if ds.length = r.ar then fin S.length (toD (xcs (run n) fu r.body (ds.map some ++ List.replicate (r.sl - ds.length) none) S)) else .bad
def frOf (i : Nat) : Bool := match G i with
  | some r => r.fresh
  | none => false
def rowAt (rows : List Row) (i : Nat) : Option Row := rows.find? fun r => r.i == i
def tabOf (rows : List Row) (csts : List (Str × D)) : Tab := ⟨fun i => (rowAt rows i).map (·.name), frOf G, csts⟩
def Row.ok (T : Tab) (r : Row) : Bool := match G r.i with
  | some d => decide (d.ar = r.ps.length) && decide (d.sl = r.N.length) && scopeC r.N r.ps (defScope r.st) && chkCs T r.N (defScope r.st) d.fresh d.body (defBody r.st)
  | none => false
end
theorem slots_start {vs : List V} {ds : List D} {N : List Str} (r : RepL P ms F vs ds) : Slots P ms F (L2.start N vs) (ds.map some ++ List.replicate (N.length - ds.length) none) := by
  refine ⟨by simp [L2.start, r.length], fun i d e => ?_⟩
  by_cases hi : i < ds.length
  · rw [List.getElem?_append_left (by simpa using hi), List.getElem?_map] at e
    cases q : ds[i]? with
    | none => rw [q] at e; cases e
    | some d' =>
      rw [q] at e
      cases e
      obtain ⟨v, h1, h2⟩ := r.get q
      refine ⟨v, ?_, h2⟩
      unfold L2.start
      rw [List.getElem?_append_left (by simpa [r.length] using hi), List.getElem?_map, h1]
      rfl
  · rw [List.getElem?_append_right (by simpa using hi), List.getElem?_replicate] at e
    split at e <;> cases e
section
variable {prog : Program} {w : World} {K : PySem.W.Frag} {mg : Str → Option Value} {base : Heap} {rows : List Row} {csts : List (Str × D)} {fu : Nat} {G : Nat → Option Fd}
/-- what is known of a def -/
structure Known (K : PySem.W.Frag) (mg : Str → Option Value) (r : Row) (f : Addr) (fd : FuncData) : Prop where
  fn : Fun K r.name r.name r.st f fd
  mgf : mg r.name = some (.ref f)
  bd : Binds K fd r.ps []
def bltNames : List Str := ["len", "sorted", "list", "tuple", "min", "max", "sum", "all", "any", "int", "str", "isinstance", "bool", "range", "set"]
/-- what is known of the whole -/
structure Whole (G : Nat → Option Fd) (P : Pg) (K : PySem.W.Frag) (mg : Str → Option Value) (rows : List Row) (csts : List (Str × D)) : Prop where
  hK : P.K = K
  hmg : P.mg = mg
  blt : ∀ x ∈ bltNames, mg x = none
  cst : ∀ x d, csts.lookup x = some d → ∃ u v, mg x = some u ∧ RelV v u ∧ flatOf d = some v
  ok : ∀ r ∈ rows, r.ok G (tabOf G rows csts) = true
  def_ : ∀ r ∈ rows, ∃ f fd, Known K mg r f fd
theorem master (Wh : Whole G P K mg rows csts) : ∀ (n : Nat) (r : Row), r ∈ rows → ∀ (f : Addr) (fd : FuncData), Known K mg r f fd →
    FnOk prog w K mg base (L2.CX prog w) n f fd r.ps (spOf P (frOf G r.i) (run G fu n r.i)) := by
  intro n
  induction n with
  | zero =>
    intro r hr f fd hk
    exact ⟨fun vs H Q E h => by obtain ⟨_, _, _, _, _, _, _, h⟩ := h; exact h.elim, fun A outer s H args us vs Q E _ _ _ _ h => by obtain ⟨_, _, _, _, _, _, _, h⟩ := h; exact h.elim⟩
  | succ n ih =>
    intro r hm f fd hk
    have ho := Wh.ok r hm
    unfold Row.ok at ho
    cases hG : G r.i with
    | none => rw [hG] at ho; cases ho
    | some d =>
      rw [hG] at ho
      simp only [Bool.and_eq_true, decide_eq_true_eq] at ho
      obtain ⟨⟨⟨h1, h2⟩, h3⟩, h4⟩ := ho
      have scp := scopeC_ok h3
      have hfr : frOf G r.i = d.fresh := by unfold frOf; rw [hG]
      rw [hfr]
      refine hk.fn.okX scp (fun vs H Q E h => ?_) (fun cdv A outer s H vs Q E hroom h => ?_)
      · obtain ⟨pv, ms, F, S, ds, st, rl, h⟩ := h
        unfold run at h
        rw [hG] at h
        dsimp only at h
        by_cases hl : ds.length = d.ar
        · rw [rl.length, hl, h1]
        · rw [if_neg hl] at h
          exact h.elim
      · obtain ⟨pv, ms, F, S, ds, st, rl, h⟩ := h
        unfold run at h
        rw [hG] at h
        dsimp only at h
        by_cases hl : ds.length = d.ar
        · rw [if_pos hl, ← st.len] at h
          have h := Post.fin h
          rw [h2] at h
          refine ⟨tS (P.wp pv) (fun cls d _ H => E cls d H) d.fresh (xcs (run G fu n) fu d.body), sCs ⟨⟨?_, ?_, rfl, scp.nd, ?_, ?_, ?_⟩, takes_of rfl rfl rfl rfl, rfl, rfl, passes_of rfl, fun _ => rfl⟩ _ _ h4, ?_⟩
          · exact Wh.hK
          · exact hroom.units
          · exact Wh.blt
          · exact Wh.cst
          · intro j x hj
            have hj' : (rowAt rows j).map (·.name) = some x := hj
            cases q : rowAt rows j with
            | none => rw [q] at hj'; cases hj'
            | some r2 =>
              rw [q] at hj'
              cases hj'
              have m2 : r2 ∈ rows := List.mem_of_find?_eq_some q
              have e2 : r2.i = j := by
                have := List.find?_some q
                simpa using this
              obtain ⟨f2, fd2, k2⟩ := Wh.def_ r2 m2
              refine ⟨n, f2, fd2, r2.ps, ?_, k2.mgf, k2.fn.kp, k2.bd, hroom⟩
              refine (ih r2 m2 f2 fd2 k2).imp fun vs H Q E hh => ?_
              obtain ⟨pv2, ms2, F2, S2, ds2, st2, rl2, hh⟩ := hh
              rw [e2]
              exact ⟨pv2, ms2, F2, S2, ds2, st2, rl2.un.un, hh⟩
          · refine ⟨_, ms, F, S, slots_start rl.wp, st, ?_⟩
            cases q : xcs (run G fu n) fu d.body (ds.map some ++ List.replicate (r.N.length - ds.length) none) S with
            | bad =>
              rw [q] at h
              exact h
            | exc c S1 =>
              rw [q] at h
              intro H' ms' F' nx st' σ' C hC
              exact h H' ms' F' nx st' C hC
            | ok fl S1 =>
              rw [q] at h
              cases fl with
              | nx env1 =>
                intro σ' H' ms' F' nx sl' st'
                have h2 : Val (P.wp pv) ms F d.fresh Q .non S1 := h
                have h3 : Ord (P.wp pv) ms F Q .non S1 := by
                  unfold Val at h2
                  split at h2
                  · next e => cases e
                  · exact h2
                exact h3 _ H' ms' F' nx st' .non
              | ret d => exact h
              | bk env1 => exact h.elim
              | ct env1 => exact h.elim
        · rw [if_neg hl] at h
          exact h.elim

/-! ### the law -/
def lawSp (K : PySem.W.Frag) : Sp := fun vs H Q _ => ∃ (a : Addr) (ns : List Int), vs = [.ref a] ∧ SqL K H a (ns.map V.int) ∧ ns.length ≤ 63 ∧ ∀ H', Q (.bl true) H'
/-- what a law's proof in plain Lean has to give -/
def Plain (G : Nat → Option Fd) (fu n i : Nat) : Prop := ∀ ns : List Int, ns.length ≤ 63 → ∃ S', run G fu n i [.scr ns] [] = .ok (.bl true) S'
theorem law_ok {cls : Nat → Str} (Wh : Whole G ⟨K, mg, cls, []⟩ K mg rows csts) {n : Nat} {r : Row} (hr : r ∈ rows) {f : Addr} {fd : FuncData} (hk : Known K mg r f fd) (pl : Plain G fu n r.i) :
    FnOk prog w K mg base (L2.CX prog w) n f fd r.ps (lawSp K) :=
  (master (fu := fu) Wh n r hr f fd hk).imp fun vs H Q E ⟨a, ns, e, hS, hl, q⟩ => by
    subst e
    obtain ⟨S', h⟩ := pl ns hl
    refine ⟨[], [], H, [], [.scr ns], ⟨Same.refl _, rfl, fun k a e => by simp at e, fun k j a e => by simp at e, fun k a c e => by simp at e, fun p hp => by cases hp⟩, .cons (.scr hS) .nil, ?_⟩
    rw [h]
    have h2 : Ord (Pg.wp ⟨K, mg, cls, []⟩ []) [] H Q (.bl true) S' := fun v H' ms' F' nx st r => by
      cases r
      exact q H'
    exact h2.val
theorem cx_none {prog : Program} {w : World} (H : Hp) (s : Shared) (e : Value) (s' : Shared) (h : L2.CX prog w [] H s (fun _ _ _ => False) e s') : False := by
  obtain ⟨_, _, _, _, _, _, _, _, _, _, _, _, z⟩ := h
  exact z.elim
/-- a def's facts, as the kit finds them -/
def DefF (K : PySem.W.Frag) (x : Str) (st : Stmt) : Prop := ∃ (f : Addr) (oc : Value) (od : Option Addr) (kV doc pm : Value) (an : Option Addr) (cd ct : Value) (sl : Array (Option Value)),
  PySem.W.nsIn K mainGlobals x = some (some (.ref f)) ∧ K.lookup f = some ⟨oc, od, .func (PySem.W.fnOf x x (defArgs st) (defBody st) (defScope st) .none kV doc pm an cd ct), sl⟩ ∧ PySem.W.codeIn K cd x = true ∧ PySem.W.keepIn K (.ref f) = true
theorem defF_mk {x : Str} {st : Stmt} {f : Addr} {oc : Value} {od : Option Addr} {kV doc pm : Value} {an : Option Addr} {cd ct : Value} {sl : Array (Option Value)} (a : PySem.W.nsIn K mainGlobals x = some (some (.ref f)))
    (l : K.lookup f = some ⟨oc, od, .func (PySem.W.fnOf x x (defArgs st) (defBody st) (defScope st) .none kV doc pm an cd ct), sl⟩) (c : PySem.W.codeIn K cd x = true) (k : PySem.W.keepIn K (.ref f) = true) : DefF K x st := ⟨f, oc, od, kV, doc, pm, an, cd, ct, sl, a, l, c, k⟩
/-- how a def's arguments bind -/
def BindF (r : Row) : Prop := ∀ (kV doc pm : Value) (an : Option Addr) (cdv ct : Value) (us : List Value), us.length = r.ps.length → bindArgs (PySem.W.fnOf r.name r.name (defArgs r.st) (defBody r.st) (defScope r.st) .none kV doc pm an cdv ct) ⟨us, []⟩ = pure (r.ps.zip us)
theorem known_of {h : Heap} {r : Row} (X : K.In h) (Gm : h.Ns mainGlobals mg) (d : DefF K r.name r.st) (b : BindF r) : ∃ f fd, Known K mg r f fd := by
  obtain ⟨f, oc, od, kV, doc, pm, an, cd, ct, sl, h1, h2, h3, h4⟩ := d
  have F := fun_mk h2 h3 h4
  exact ⟨f, _, F, PySem.W.mg_of X Gm h1, F.binds b⟩
/-- a constant of the module -/
def CstF (K : PySem.W.Frag) (x : Str) (d : D) : Prop := match d with
  | .int i => ∃ t, PySem.W.nsIn K mainGlobals x = some (some (.int i t))
  | .str z => ∃ t, PySem.W.nsIn K mainGlobals x = some (some (.str z t))
  | _ => False
theorem cstI_mk {x : Str} {i : Int} {t : Tok} (a : PySem.W.nsIn K mainGlobals x = some (some (.int i t))) : CstF K x (.int i) := ⟨t, a⟩
theorem cstS_mk {x z : Str} {t : Tok} (a : PySem.W.nsIn K mainGlobals x = some (some (.str z t))) : CstF K x (.str z) := ⟨t, a⟩
theorem cst_of {h : Heap} {x : Str} {d : D} (X : K.In h) (Gm : h.Ns mainGlobals mg) (c : CstF K x d) : ∃ u v, mg x = some u ∧ RelV v u ∧ flatOf d = some v := by
  cases d with
  | int i =>
    obtain ⟨t, e⟩ := c
    exact ⟨_, .int i, PySem.W.mg_of X Gm e, ⟨t, rfl⟩, rfl⟩
  | str z =>
    obtain ⟨t, e⟩ := c
    exact ⟨_, .str z, PySem.W.mg_of X Gm e, ⟨t, rfl⟩, rfl⟩
  | _ => exact c.elim
theorem lookup_all {Z : Str → D → Prop} : ∀ {l : List (Str × D)}, (∀ p ∈ l, Z p.1 p.2) → ∀ x d, l.lookup x = some d → Z x d
  | (y, e) :: l, h, x, d, q => by
    rw [List.lookup_cons] at q
    cases hb : x == y with
    | true =>
      rw [hb] at q
      cases q
      have e1 : x = y := by simpa using hb
      subst e1
      exact h (x, e) List.mem_cons_self
    | false =>
      rw [hb] at q
      exact lookup_all (fun p hp => h p (List.mem_cons_of_mem _ hp)) x d q
/-- all together -/
theorem all_mk {l : PySem.W.OpenLaw} {h : Heap} {cls : Nat → Str} {n : Nat} {r : Row} {x : Str} {fa : Addr} (X : K.In h) (Gm : h.Ns mainGlobals mg) (hfa : mg r.name = some (.ref fa)) (hr : r ∈ rows) (hx : r.ps = [x])
    (ok : ∀ r ∈ rows, r.ok G (tabOf G rows csts) = true) (df : ∀ r ∈ rows, DefF K r.name r.st ∧ BindF r) (cf : ∀ p ∈ csts, CstF K p.1 p.2) (bf : ∀ x ∈ bltNames, PySem.W.nsIn K mainGlobals x = some none) (pl : Plain G fu n r.i) :
    ∃ fd : FuncData, (∀ (s : Shared) (u : Value), BindsTo s fd ⟨[u], []⟩ [(x, u)]) ∧ ∀ base : Heap, K.In base → base.Ns mainGlobals mg → FnOk l.prog w K mg base (L2.CX l.prog w) n fa fd [x] (lawSp K) := by
  obtain ⟨f, oc, od, kV, doc, pm, an, cd, ct, sl, h1, h2, h3, h4⟩ := (df r hr).1
  have e := hfa.symm.trans (PySem.W.mg_of X Gm h1)
  cases e
  have F := fun_mk h2 h3 h4
  have bd := (df r hr).2
  refine ⟨PySem.W.fnOf r.name r.name (defArgs r.st) (defBody r.st) (defScope r.st) .none kV doc pm an cd ct, fun s u => .of_eq ?_, fun base _ _ => ?_⟩
  · have := bd kV doc pm an cd ct [u] (by rw [hx]; rfl)
    rw [hx] at this
    exact this
  · have Wh : Whole G ⟨K, mg, cls, []⟩ K mg rows csts := ⟨rfl, rfl, fun y hy => PySem.W.mg_none_of X Gm (bf y hy), lookup_all fun p hp => cst_of X Gm (cf p hp), ok, fun r2 hr2 => known_of X Gm (df r2 hr2).1 (df r2 hr2).2⟩
    have := law_ok (prog := l.prog) (w := w) (base := base) Wh hr ⟨F, hfa, F.binds bd⟩ pl
    rw [hx] at this
    exact this
end
end SV
/-! SvTab: the codes of the defs (printed by gen.py). -/
namespace SV
open PySem
/-- _law_cell_at -/
def c0 : Fd := ⟨2, 2, false, (.cons (.ifs (.cmp .lt (.var 1) (.bi .len (.cons (.var 0) .nil))) (.cons (.ret (.idx (.var 0) (.var 1))) .nil) (.nil)) (.cons (.ifs (.cmp .eq (.var 0) (.lst .nil)) (.cons (.ret (.cst (.int 0))) .nil) (.nil)) (.cons (.ret (.op .add (.op .mul (.idx (.var 0) (.op .mod (.var 1) (.bi .len (.cons (.var 0) .nil)))) (.cst (.int 31))) (.var 1))) .nil)))⟩
/-- _law_mixed -/
def c1 : Fd := ⟨3, 4, true, (.cons (.set 3 (.op .mod (.op .add (.op .add (.op .mul (.call 0 (.cons (.var 0) (.cons (.var 1) .nil))) (.cst (.int 1103515245))) (.op .mul (.cst (.int 7919)) (.var 1))) (.cst (.int 12345))) (.cst (.int 2147483647)))) (.cons (.ret (.op .mod (.op .mod (.op .mod (.op .pow (.var 3) (.cst (.int 5))) (.cst (.int 2147483647))) (.cst (.int 999983))) (.var 2))) .nil))⟩
/-- _law_draw -/
def c2 : Fd := ⟨3, 3, true, (.cons (.expr (.mth .append (.var 1) (.cons (.cst (.int 0)) .nil))) (.cons (.ret (.call 1 (.cons (.var 0) (.cons (.bi .len (.cons (.var 1) .nil)) (.cons (.var 2) .nil))))) .nil))⟩
/-- _law_pick -/
def c3 : Fd := ⟨3, 3, false, (.cons (.ret (.idx (.var 2) (.call 2 (.cons (.var 0) (.cons (.var 1) (.cons (.bi .len (.cons (.var 2) .nil)) .nil)))))) .nil)⟩
/-- _law_text -/
def c4 : Fd := ⟨4, 7, false, (.cons (.set 4 (.call 3 (.cons (.var 0) (.cons (.var 1) (.cons (.lst (.cons (.cst (.int 1)) (.cons (.cst (.int 2)) (.cons (.cst (.int 2)) (.cons (.cst (.int 3)) (.cons (.cst (.int 3)) (.cons (.cst (.int 3)) .nil))))))) .nil))))) (.cons (.set 5 (.cst (.str ("" : Str)))) (.cons (.for (.one 6) (.rng1 (.op .add (.var 2) (.call 2 (.cons (.var 0) (.cons (.var 1) (.cons (.op .add (.op .sub (.var 3) (.var 2)) (.cst (.int 1))) .nil)))))) (.cons (.set 5 (.op .add (.var 5) (.idx (.cst (.str ("abc" : Str))) (.call 2 (.cons (.var 0) (.cons (.var 1) (.cons (.var 4) .nil))))))) .nil)) (.cons (.ret (.var 5)) .nil))))⟩
/-- _law_like -/
def c5 : Fd := ⟨4, 6, false, (.cons (.set 4 (.op .add (.cst (.int 1)) (.call 3 (.cons (.var 0) (.cons (.var 1) (.cons (.lst (.cons (.cst (.int 1)) (.cons (.cst (.int 1)) (.cons (.cst (.int 2)) (.cons (.cst (.int 2)) (.cons (.cst (.int 3)) .nil)))))) .nil)))))) (.cons (.set 5 (.call 4 (.cons (.var 0) (.cons (.var 1) (.cons (.var 2) (.cons (.cst (.int 4)) .nil)))))) (.cons (.whl (.cmp .lt (.bi .len (.cons (.var 5) .nil)) (.op .sub (.var 3) (.cst (.int 2)))) (.cons (.set 5 (.op .add (.var 5) (.call 3 (.cons (.var 0) (.cons (.var 1) (.cons (.lst (.cons (.sl (.var 5) .none (.some (.cst (.int 2)))) (.cons (.sl (.var 5) .none (.some (.cst (.int 3)))) (.cons (.sl (.var 5) (.some (.cst (.int 1))) (.some (.cst (.int 3)))) (.cons (.cst (.str ("a" : Str))) (.cons (.cst (.str ("b" : Str))) (.cons (.sl (.var 5) (.some (.neg (.cst (.int 2)))) .none) .nil))))))) .nil)))))) .nil)) (.cons (.ret (.tup (.cons (.sl (.var 5) .none (.some (.bi .max (.cons (.var 4) (.cons (.op .sub (.var 3) (.call 2 (.cons (.var 0) (.cons (.var 1) (.cons (.cst (.int 3)) .nil))))) .nil))))) (.cons (.var 4) .nil)))) .nil))))⟩
/-- is_letters -/
def c6 : Fd := ⟨3, 3, false, (.cons (.ret (.and (.bi .isStr (.cons (.var 0) .nil)) (.and (.chn .le .le (.var 1) (.bi .len (.cons (.var 0) .nil)) (.var 2)) (.cmp .eq (.mth .strip (.var 0) (.cons (.glb ("LETTERS" : Str) (.str ("abc" : Str))) .nil)) (.cst (.str ("" : Str))))))) .nil)⟩
/-- need_text -/
def c7 : Fd := ⟨1, 1, false, (.cons (.ifs (.not (.call 6 (.cons (.var 0) (.cons (.cst (.int 1)) (.cons (.glb ("LONG" : Str) (.int 12)) .nil))))) (.cons .never .nil) (.nil)) .nil)⟩
/-- is_whole -/
def c8 : Fd := ⟨3, 3, false, (.cons (.ret (.and (.bi .isInt (.cons (.var 0) .nil)) (.and (.not (.bi .isBool (.cons (.var 0) .nil))) (.chn .le .le (.var 1) (.var 0) (.var 2))))) .nil)⟩
/-- need_width -/
def c9 : Fd := ⟨1, 1, false, (.cons (.ifs (.not (.call 8 (.cons (.var 0) (.cons (.cst (.int 1)) (.cons (.glb ("WIDTH" : Str) (.int 4)) .nil))))) (.cons .never .nil) (.nil)) .nil)⟩
/-- need_seen -/
def c10 : Fd := ⟨2, 2, false, (.cons (.expr (.call 7 (.cons (.var 0) .nil))) (.cons (.expr (.call 9 (.cons (.var 1) .nil))) (.cons (.ifs (.not (.chn .le .le (.cst (.int 1)) (.op .add (.op .sub (.bi .len (.cons (.var 0) .nil)) (.var 1)) (.cst (.int 1))) (.glb ("WINDOWS" : Str) (.int 9)))) (.cons .never .nil) (.nil)) .nil)))⟩
/-- windows_of -/
def c11 : Fd := ⟨2, 3, true, (.cons (.ret (.lc (.sl (.var 0) (.some (.var 2)) (.some (.op .add (.var 2) (.var 1)))) (.one 2) (.rng1 (.op .add (.op .sub (.bi .len (.cons (.var 0) .nil)) (.var 1)) (.cst (.int 1)))) .none)) .nil)⟩
/-- view -/
def c12 : Fd := ⟨2, 2, false, (.cons (.expr (.call 10 (.cons (.var 0) (.cons (.var 1) .nil)))) (.cons (.ret (.tup (.cons (.var 1) (.cons (.bi .tuple (.cons (.bi .sorted (.cons (.call 11 (.cons (.var 0) (.cons (.var 1) .nil))) .nil)) .nil)) .nil)))) .nil))⟩
/-- exchanges_at -/
def c13 : Fd := ⟨4, 7, true, (.cons (.set 4 (.cell (.lst .nil))) (.cons (.for (.one 5) (.rng2 (.op .add (.var 2) (.cst (.int 1))) (.op .add (.var 3) (.cst (.int 1)))) (.cons (.for (.one 6) (.rng2 (.op .add (.var 3) (.cst (.int 1))) (.bi .len (.cons (.var 1) .nil))) (.cons (.ifs (.cmp .eq (.idx (.var 1) (.var 5)) (.idx (.var 1) (.var 6))) (.cons (.expr (.mth .append (.var 4) (.cons (.op .add (.op .add (.op .add (.op .add (.sl (.var 0) .none (.some (.var 2))) (.sl (.var 0) (.some (.var 3)) (.some (.var 6)))) (.sl (.var 0) (.some (.var 5)) (.some (.var 3)))) (.sl (.var 0) (.some (.var 2)) (.some (.var 5)))) (.sl (.var 0) (.some (.var 6)) .none)) .nil))) .nil) (.nil)) .nil)) .nil)) (.cons (.ret (.snap 4)) .nil)))⟩
/-- exchanges_of -/
def c14 : Fd := ⟨2, 8, true, (.cons (.set 2 (.op .add (.op .sub (.bi .len (.cons (.var 0) .nil)) (.var 1)) (.cst (.int 2)))) (.cons (.set 3 (.lc (.sl (.var 0) (.some (.var 4)) (.some (.op .sub (.op .add (.var 4) (.var 1)) (.cst (.int 1))))) (.one 4) (.rng1 (.var 2)) .none)) (.cons (.set 5 (.cell (.lst .nil))) (.cons (.for (.one 6) (.rng1 (.var 2)) (.cons (.for (.one 7) (.rng2 (.op .add (.var 6) (.cst (.int 1))) (.var 2)) (.cons (.ifs (.cmp .eq (.idx (.var 3) (.var 6)) (.idx (.var 3) (.var 7))) (.cons (.expr (.mth .extend (.var 5) (.cons (.call 13 (.cons (.var 0) (.cons (.var 3) (.cons (.var 6) (.cons (.var 7) .nil))))) .nil))) .nil) (.nil)) .nil)) .nil)) (.cons (.ret (.snap 5)) .nil)))))⟩
/-- turns_of -/
def c15 : Fd := ⟨2, 4, true, (.cons (.set 2 (.op .add (.op .sub (.bi .len (.cons (.var 0) .nil)) (.var 1)) (.cst (.int 1)))) (.cons (.ifs (.cmp .ne (.sl (.var 0) .none (.some (.op .sub (.var 1) (.cst (.int 1))))) (.sl (.var 0) (.some (.var 2)) .none)) (.cons (.ret (.lst .nil)) .nil) (.nil)) (.cons (.ret (.lc (.op .add (.op .add (.sl (.var 0) (.some (.var 3)) (.some (.var 2))) (.sl (.var 0) .none (.some (.var 3)))) (.sl (.var 0) (.some (.var 3)) (.some (.op .sub (.op .add (.var 3) (.var 1)) (.cst (.int 1)))))) (.one 3) (.rng2 (.cst (.int 1)) (.var 2)) .none)) .nil)))⟩
/-- next_to -/
def c16 : Fd := ⟨2, 4, true, (.cons (.set 2 (.sset (.op .add (.call 14 (.cons (.var 0) (.cons (.var 1) .nil))) (.call 15 (.cons (.var 0) (.cons (.var 1) .nil)))))) (.cons (.ret (.lc (.var 3) (.one 3) (.e (.var 2)) (.some (.cmp .ne (.var 3) (.var 0))))) .nil))⟩
/-- exchanged -/
def c17 : Fd := ⟨2, 2, true, (.cons (.expr (.call 12 (.cons (.var 0) (.cons (.var 1) .nil)))) (.cons (.ret (.call 16 (.cons (.var 0) (.cons (.var 1) .nil)))) .nil))⟩
/-- alike -/
def c18 : Fd := ⟨3, 3, false, (.cons (.ret (.cmp .eq (.call 12 (.cons (.var 0) (.cons (.var 2) .nil))) (.call 12 (.cons (.var 1) (.cons (.var 2) .nil))))) .nil)⟩
/-- law_k17 -/
def c19 : Fd := ⟨1, 7, false, (.cons (.set 1 (.cell (.lst .nil))) (.cons (.setT 2 3 (.call 5 (.cons (.var 0) (.cons (.var 1) (.cons (.cst (.int 2)) (.cons (.cst (.int 10)) .nil)))))) (.cons (.set 4 (.call 17 (.cons (.var 2) (.cons (.var 3) .nil)))) (.cons (.ifs (.cmp .ne (.lc (.var 5) (.one 5) (.e (.var 4)) (.some (.or (.not (.call 18 (.cons (.var 2) (.cons (.var 5) (.cons (.var 3) .nil))))) (.cmp .eq (.var 5) (.var 2))))) (.lst .nil)) (.cons (.ret (.cst (.bl false))) .nil) (.nil)) (.cons (.ifs (.cmp .ne (.lc (.var 5) (.one 5) (.e (.sl (.var 4) .none (.some (.cst (.int 6))))) (.some (.cmp .notin (.var 2) (.call 17 (.cons (.var 5) (.cons (.var 3) .nil)))))) (.lst .nil)) (.cons (.ret (.cst (.bl false))) .nil) (.nil)) (.cons (.set 6 (.cell (.call 17 (.cons (.var 2) (.cons (.var 3) .nil))))) (.cons (.expr (.mth .append (.var 6) (.cons (.cst (.str ("a" : Str))) .nil))) (.cons (.ret (.cmp .eq (.call 17 (.cons (.var 2) (.cons (.var 3) .nil))) (.var 4))) .nil))))))))⟩
/-- _law_row -/
def c20 : Fd := ⟨2, 3, true, (.cons (.ret (.lc (.sl (.var 0) (.some (.var 2)) (.some (.op .sub (.op .add (.var 2) (.var 1)) (.cst (.int 1))))) (.one 2) (.rng1 (.op .add (.op .sub (.bi .len (.cons (.var 0) .nil)) (.var 1)) (.cst (.int 2)))) .none)) .nil)⟩
/-- _law_stretches -/
def c21 : Fd := ⟨4, 8, true, (.cons (.set 4 (.cell (.lst .nil))) (.cons (.for (.one 5) (.rng2 (.var 2) (.var 3)) (.cons (.for (.one 6) (.rng1 (.var 2)) (.cons (.ifs (.cmp .eq (.idx (.var 1) (.var 6)) (.idx (.var 1) (.var 5))) (.cons (.set 7 (.op .add (.sl (.var 0) .none (.some (.var 6))) (.sl (.var 0) (.some (.var 5)) (.some (.var 3))))) (.cons (.set 7 (.op .add (.var 7) (.sl (.var 0) (.some (.var 2)) (.some (.var 5))))) (.cons (.expr (.mth .append (.var 4) (.cons (.op .add (.op .add (.var 7) (.sl (.var 0) (.some (.var 6)) (.some (.var 2)))) (.sl (.var 0) (.some (.var 3)) .none)) .nil))) .nil))) (.nil)) .nil)) .nil)) (.cons (.ret (.snap 4)) .nil)))⟩
/-- _law_moved -/
def c22 : Fd := ⟨2, 9, true, (.cons (.set 2 (.call 20 (.cons (.var 0) (.cons (.var 1) .nil)))) (.cons (.set 3 (.cell (.lst .nil))) (.cons (.for (.one 4) (.rng1 (.bi .len (.cons (.var 2) .nil))) (.cons (.for (.one 5) (.rng1 (.var 4)) (.cons (.ifs (.cmp .eq (.idx (.var 2) (.var 5)) (.idx (.var 2) (.var 4))) (.cons (.expr (.mth .extend (.var 3) (.cons (.call 21 (.cons (.var 0) (.cons (.var 2) (.cons (.var 5) (.cons (.var 4) .nil))))) .nil))) .nil) (.nil)) .nil)) .nil)) (.cons (.ifs (.cmp .eq (.idx (.var 2) (.cst (.int 0))) (.idx (.var 2) (.neg (.cst (.int 1))))) (.cons (.set 6 (.op .mul (.sl (.var 0) .none (.some (.op .sub (.bi .len (.cons (.var 2) .nil)) (.cst (.int 1))))) (.cst (.int 3)))) (.cons (.expr (.mth .extend (.var 3) (.cons (.lc (.sl (.var 6) (.some (.var 7)) (.some (.op .add (.var 7) (.bi .len (.cons (.var 0) .nil))))) (.one 7) (.rng2 (.cst (.int 1)) (.op .sub (.bi .len (.cons (.var 2) .nil)) (.cst (.int 1)))) .none) .nil))) .nil)) (.nil)) (.cons (.ret (.sset (.lc (.var 8) (.one 8) (.e (.var 3)) (.some (.cmp .ne (.var 8) (.var 0)))))) .nil)))))⟩
/-- law_k16 -/
def c23 : Fd := ⟨1, 6, false, (.cons (.set 1 (.cell (.lst .nil))) (.cons (.set 2 (.call 2 (.cons (.var 0) (.cons (.var 1) (.cons (.cst (.int 5)) .nil))))) (.cons (.setT 3 4 (.call 5 (.cons (.var 0) (.cons (.var 1) (.cons (.cst (.int 2)) (.cons (.cst (.int 9)) .nil)))))) (.cons (.ifs (.cmp .eq (.var 2) (.cst (.int 0))) (.cons (.par 3 4 (.sl (.var 3) .none (.some (.cst (.int 5)))) (.cst (.int 1))) .nil) (.nil)) (.cons (.ifs (.cmp .ne (.call 17 (.cons (.var 3) (.cons (.var 4) .nil))) (.call 22 (.cons (.var 3) (.cons (.var 4) .nil)))) (.cons (.ret (.cst (.bl false))) .nil) (.nil)) (.cons (.set 5 (.ite (.cmp .ge (.bi .len (.cons (.var 3) .nil)) (.op .mul (.cst (.int 2)) (.var 4))) (.op .add (.sl (.var 3) .none (.some (.op .add (.op .sub (.bi .len (.cons (.var 3) .nil)) (.var 4)) (.cst (.int 1))))) (.sl (.var 3) .none (.some (.op .sub (.var 4) (.cst (.int 1)))))) (.var 3))) (.cons (.ret (.cmp .eq (.call 17 (.cons (.var 5) (.cons (.var 4) .nil))) (.call 22 (.cons (.var 5) (.cons (.var 4) .nil))))) .nil)))))))⟩
def G : Nat → Option Fd
  | 0 => some c0
  | 1 => some c1
  | 2 => some c2
  | 3 => some c3
  | 4 => some c4
  | 5 => some c5
  | 6 => some c6
  | 7 => some c7
  | 8 => some c8
  | 9 => some c9
  | 10 => some c10
  | 11 => some c11
  | 12 => some c12
  | 13 => some c13
  | 14 => some c14
  | 15 => some c15
  | 16 => some c16
  | 17 => some c17
  | 18 => some c18
  | 19 => some c19
  | 20 => some c20
  | 21 => some c21
  | 22 => some c22
  | 23 => some c23
  | _ => none
theorem G0 : G 0 = some c0 := rfl
theorem G1 : G 1 = some c1 := rfl
theorem G2 : G 2 = some c2 := rfl
theorem G3 : G 3 = some c3 := rfl
theorem G4 : G 4 = some c4 := rfl
theorem G5 : G 5 = some c5 := rfl
theorem G6 : G 6 = some c6 := rfl
theorem G7 : G 7 = some c7 := rfl
theorem G8 : G 8 = some c8 := rfl
theorem G9 : G 9 = some c9 := rfl
theorem G10 : G 10 = some c10 := rfl
theorem G11 : G 11 = some c11 := rfl
theorem G12 : G 12 = some c12 := rfl
theorem G13 : G 13 = some c13 := rfl
theorem G14 : G 14 = some c14 := rfl
theorem G15 : G 15 = some c15 := rfl
theorem G16 : G 16 = some c16 := rfl
theorem G17 : G 17 = some c17 := rfl
theorem G18 : G 18 = some c18 := rfl
theorem G19 : G 19 = some c19 := rfl
theorem G20 : G 20 = some c20 := rfl
theorem G21 : G 21 = some c21 := rfl
theorem G22 : G 22 = some c22 := rfl
theorem G23 : G 23 = some c23 := rfl
end SV
/-! SvT: reckoning with the evaluator. -/
namespace SV
open PySem
theorem fin_len {n : Nat} {d : D} {S : Store} (h : S.length = n) : fin n (.ok d S) = .ok d S := by
  subst h
  show (if _ then _ else _) = _
  rw [List.take_length]
  split <;> rfl
@[simp] theorem fin_self {d : D} {S : Store} : fin S.length (.ok d S) = .ok d S := fin_len rfl
/-- nothing below hangs on what is above -/
def Wf (S : Store) : Prop := S.all (Cell.lo S.length) = true
theorem fin_more {d : D} {S g : Store} (w : Wf S) (h : D.lo S.length d = true) : fin S.length (.ok d (S ++ g)) = .ok d S := by
  show (if _ then _ else _) = _
  rw [List.take_left' rfl, h, Bool.true_and]
  exact if_pos w
theorem run_at {G : Nat → Option Fd} {fu n i : Nat} {c : Fd} (h : G i = some c) (ds : List D) (S : Store) :
    run G fu (n + 1) i ds S = if ds.length = c.ar then fin S.length (toD (xcs (run G fu n) fu c.body (ds.map some ++ List.replicate (c.sl - ds.length) none) S)) else .bad := by
  conv => lhs; unfold run
  rw [h]
theorem run_go {G : Nat → Option Fd} {fu n i : Nat} {c : Fd} {ds : List D} {env : Env} {S : Store} (h : G i = some c) (hl : ds.length = c.ar) (he : ds.map some ++ List.replicate (c.sl - ds.length) none = env) :
    run G fu (n + 1) i ds S = fin S.length (toD (xcs (run G fu n) fu c.body env S)) := by
  rw [run_at h, if_pos hl, he]
-- not by rfl: the kernel is not to look into what stands behind
@[simp high] theorem bo {α β : Type} (a : α) (S : Store) (f : α → Store → R β) : (R.ok a S).bind f = f a S := by cases S <;> rfl
/-- by a truth value -/
def ifb {α : Type} (d : D) (a b : R α) : R α := match d with
  | .bl true => a
  | .bl false => b
  | _ => .bad
@[simp] theorem ifb_t {α : Type} {a b : R α} : ifb (.bl true) a b = a := by cases a <;> rfl
@[simp] theorem ifb_f {α : Type} {a b : R α} : ifb (.bl false) a b = b := by cases b <;> rfl
def slotR (o : Option D) (S : Store) : R D := match o with
  | some d => .ok d S
  | none => .bad
@[simp] theorem slotR_some {d : D} {S : Store} : slotR (some d) S = .ok d S := by cases S <;> rfl
def negR (d : D) (S : Store) : R D := match d with
  | .int i => .ok (.int (-i)) S
  | _ => .bad
@[simp] theorem negR_int {i : Int} {S : Store} : negR (.int i) S = .ok (.int (-i)) S := by cases S <;> rfl
/-- one statement, then the others -/
def andThen (r : R Fl) (f : Env → Store → R Fl) : R Fl := r.bind fun r S => match r with
  | .nx env => f env S
  | r => .ok r S
@[simp] theorem andThen_nx {env : Env} {S : Store} {f : Env → Store → R Fl} : andThen (.ok (.nx env) S) f = f env S := by cases S <;> rfl
@[simp] theorem andThen_ret {d : D} {S : Store} {f : Env → Store → R Fl} : andThen (.ok (.ret d) S) f = .ok (.ret d) S := by cases S <;> rfl
@[simp] theorem toD_nx {env : Env} {S : Store} : toD (.ok (.nx env) S) = .ok .non S := by cases S <;> rfl
@[simp] theorem toD_ret {d : D} {S : Store} : toD (.ok (.ret d) S) = .ok d S := by cases S <;> rfl
def cellR (d : D) (S : Store) : R D := match d with
  | .lst l => .ok (.loc S.length) (S ++ [.lst l])
  | _ => .bad
@[simp] theorem cellR_lst {l : List D} {S : Store} : cellR (.lst l) S = .ok (.loc S.length) (S ++ [.lst l]) := by cases S <;> rfl
def snapR (o : Option D) (S : Store) : R D := match o with
  | some (.loc n) => match S[n]? with
    | some (.lst l) => .ok (.lst l) (S.set n .dead)
    | _ => .bad
  | _ => .bad
theorem snapR_loc {n : Nat} {S : Store} {l : List D} (h : S[n]? = some (.lst l)) : snapR (some (.loc n)) S = .ok (.lst l) (S.set n .dead) := by
  unfold snapR
  simp [h]
def seqR (mk : List D → D) (l : List D) (S : Store) : R D := if okLen l.length then .ok (mk l) S else .bad
theorem okLen_le' {n : Nat} (h : n ≤ 16000000) : okLen n = true := decide_eq_true h
@[simp] theorem seqR_ok {mk : List D → D} {l : List D} {S : Store} (h : l.length ≤ 16000000) : seqR mk l S = .ok (mk l) S := by
  unfold seqR
  rw [if_pos (okLen_le' h)]
def itR (d : D) (S : Store) : R Src := match srcD d S with
  | some s => .ok s S
  | none => .bad
def rngR (d : D) (S : Store) : R Src := match d with
  | .int j => if okI j then .ok ⟨rngD 0 j.toNat, none⟩ S else .bad
  | _ => .bad
def rng2R (x y : D) (S : Store) : R Src := match x, y with
  | .int i, .int j => if okI i && okI j then .ok ⟨rngD i (j - i).toNat, none⟩ S else .bad
  | _, _ => .bad
theorem okI_ok {i : Int} (h : -(2 ^ 62) ≤ i ∧ i < 2 ^ 62) : okI i = true := decide_eq_true h
theorem okI_small {j : Int} (h : -1000000 ≤ j ∧ j ≤ 1000000) : okI j = true := okI_ok ⟨Int.le_trans (by decide) h.1, Int.lt_of_le_of_lt h.2 (by decide)⟩
theorem rngR_int {j : Int} {S : Store} (h : -1000000 ≤ j ∧ j ≤ 1000000) : rngR (.int j) S = .ok ⟨rngD 0 j.toNat, none⟩ S := by
  show (if _ then _ else _) = _
  rw [if_pos (okI_small h)]
theorem rng2R_int {i j : Int} {S : Store} (h : -1000000 ≤ i ∧ i ≤ 1000000) (h2 : -1000000 ≤ j ∧ j ≤ 1000000) : rng2R (.int i) (.int j) S = .ok ⟨rngD i (j - i).toNat, none⟩ S := by
  show (if _ then _ else _) = _
  rw [okI_small h, okI_small h2]
  rfl
noncomputable def lcR (g : Option (Nat × List D)) (st : D → Option Env) (fc fe : Env → Store → R D) (l : List D) (S : Store) : R D := if okLen l.length then (lcLoop g st fc fe l S).nox.bind fun l S => .ok (.lst l) S else .bad
def setTR (t : Tg) (d : D) (env : Env) (S : Store) : R Fl := match t.set d env with
  | some env => .ok (.nx env) S
  | none => .bad
@[simp] theorem setTR_two {i j : Nat} {a b : D} {env : Env} {S : Store} : setTR (.two i j) (.tup [a, b]) env S = .ok (.nx ((env.set i (some a)).set j (some b))) S := by cases S <;> rfl
def intO (d : D) (S : Store) : R (Option Int) := match d with
  | .int i => .ok (some i) S
  | _ => .bad
@[simp] theorem intO_int {i : Int} {S : Store} : intO (.int i) S = .ok (some i) S := by cases S <;> rfl
section
variable {Γ : Nat → List D → Store → R D} {fu : Nat} {env : Env} {S : Store}
@[simp] theorem e_var {i : Nat} : ev Γ (.var i) env S = slotR (env.getD i none) S := by rw [ev]; rfl
@[simp] theorem e_cst {d : D} : ev Γ (.cst d) env S = .ok d S := by rw [ev]
@[simp] theorem e_glb {x : Str} {d : D} : ev Γ (.glb x d) env S = .ok d S := by rw [ev]
@[simp] theorem e_op {o : Op2} {a b : E} : ev Γ (.op o a b) env S = (ev Γ a env S).bind fun x S => (ev Γ b env S).bind fun y S => o.app x y S := by rw [ev]
@[simp] theorem e_neg {a : E} : ev Γ (.neg a) env S = (ev Γ a env S).bind fun x S => negR x S := by rw [ev]; rfl
@[simp] theorem e_cmp {o : Cm} {a b : E} : ev Γ (.cmp o a b) env S = (ev Γ a env S).bind fun x S => (ev Γ b env S).bind fun y S => cmA o x y S := by rw [ev]; rfl
@[simp] theorem e_chn {o o' : Cm} {a b c : E} : ev Γ (.chn o o' a b c) env S = (ev Γ a env S).bind fun x S => (ev Γ b env S).bind fun y S => (cmA o x y S).bind fun t S => ifb t ((ev Γ c env S).bind fun z S => cmA o' y z S) (.ok (.bl false) S) := by
  rw [ev]
  congr 1
  funext x S
  congr 1
  funext y S
  unfold cmA
  cases o.app x y S with
  | none => rfl
  | some t => cases t <;> rfl
@[simp] theorem e_not {a : E} : ev Γ (.not a) env S = (ev Γ a env S).bind fun x S => ifb x (.ok (.bl false) S) (.ok (.bl true) S) := by
  rw [ev]
  congr 1
  funext x S
  cases x with
  | bl b => cases b <;> rfl
  | _ => rfl
@[simp] theorem e_and {a b : E} : ev Γ (.and a b) env S = (ev Γ a env S).bind fun x S => ifb x (ev Γ b env S) (.ok (.bl false) S) := by rw [ev]; rfl
@[simp] theorem e_or {a b : E} : ev Γ (.or a b) env S = (ev Γ a env S).bind fun x S => ifb x (.ok (.bl true) S) (ev Γ b env S) := by rw [ev]; rfl
@[simp] theorem e_ite {c a b : E} : ev Γ (.ite c a b) env S = (ev Γ c env S).bind fun x S => ifb x (ev Γ a env S) (ev Γ b env S) := by rw [ev]; rfl
@[simp] theorem e_tup {es : Es} : ev Γ (.tup es) env S = (evs Γ es env S).bind fun l S => seqR .tup l S := by rw [ev]; rfl
@[simp] theorem e_lst {es : Es} : ev Γ (.lst es) env S = (evs Γ es env S).bind fun l S => seqR .lst l S := by rw [ev]; rfl
@[simp] theorem e_idx {a b : E} : ev Γ (.idx a b) env S = (ev Γ a env S).bind fun x S => (ev Γ b env S).bind fun y S => atD x y S := by rw [ev]
@[simp] theorem e_sl {a : E} {lo hi : Eo} : ev Γ (.sl a lo hi) env S = (ev Γ a env S).bind fun x S => (evo Γ lo env S).bind fun l S => (evo Γ hi env S).bind fun h S => cutD x l h S := by rw [ev]
@[simp] theorem e_call {f : Nat} {es : Es} : ev Γ (.call f es) env S = (evs Γ es env S).bind fun l S => Γ f l S := by rw [ev]
@[simp] theorem e_bi {f : Bi} {es : Es} : ev Γ (.bi f es) env S = (evs Γ es env S).bind fun l S => f.app l S := by rw [ev]
@[simp] theorem e_mth {m : Mt} {o : E} {es : Es} : ev Γ (.mth m o es) env S = (ev Γ o env S).bind fun x S => if m.recv x S then (evs Γ es env S).bind fun l S => m.app x l S else .bad := by rw [ev]
@[simp] theorem e_lc {elt : E} {tg : Tg} {it : It} {cond : Eo} : ev Γ (.lc elt tg it cond) env S = (evi Γ it env S).bind fun src S => lcR src.guard (fun d => tg.set d env) (fun env S => evc Γ cond env S) (fun env S => ev Γ elt env S) src.items S := by rw [ev]; rfl
@[simp] theorem e_cell {a : E} : ev Γ (.cell a) env S = (ev Γ a env S).bind fun x S => cellR x S := by rw [ev]; rfl
@[simp] theorem e_snap {i : Nat} : ev Γ (.snap i) env S = snapR (env.getD i none) S := by rw [ev]; rfl
@[simp] theorem es_nil : evs Γ .nil env S = .ok [] S := by rw [evs]
@[simp] theorem es_cons {e : E} {es : Es} : evs Γ (.cons e es) env S = (ev Γ e env S).bind fun x S => (evs Γ es env S).bind fun l S => .ok (x :: l) S := by rw [evs]
@[simp] theorem eo_none : evo Γ .none env S = .ok none S := by rw [evo]
@[simp] theorem eo_some {e : E} : evo Γ (.some e) env S = (ev Γ e env S).bind fun x S => intO x S := by rw [evo]; rfl
@[simp] theorem ec_none : evc Γ .none env S = .ok (.bl true) S := by rw [evc]
@[simp] theorem ec_some {e : E} : evc Γ (.some e) env S = ev Γ e env S := by rw [evc]
@[simp] theorem ei_e {a : E} : evi Γ (.e a) env S = (ev Γ a env S).bind fun x S => itR x S := by rw [evi]; rfl
@[simp] theorem ei_1 {a : E} : evi Γ (.rng1 a) env S = (ev Γ a env S).bind fun x S => rngR x S := by rw [evi]; rfl
@[simp] theorem ei_2 {a b : E} : evi Γ (.rng2 a b) env S = (ev Γ a env S).bind fun x S => (ev Γ b env S).bind fun y S => rng2R x y S := by rw [evi]; rfl
@[simp] theorem x_pass : xc Γ fu .pass env S = .ok (.nx env) S := by rw [xc]
@[simp] theorem x_expr {e : E} : xc Γ fu (.expr e) env S = (ev Γ e env S).bind fun _ S => .ok (.nx env) S := by rw [xc]
@[simp] theorem x_set {i : Nat} {e : E} : xc Γ fu (.set i e) env S = (ev Γ e env S).bind fun x S => .ok (.nx (env.set i (some x))) S := by rw [xc]
@[simp] theorem x_setT {i j : Nat} {e : E} : xc Γ fu (.setT i j e) env S = (ev Γ e env S).bind fun x S => setTR (.two i j) x env S := by rw [xc]; rfl
def parR (i j : Nat) (env : Env) (l : List D) (S : Store) : R Fl := match l with
    | [x, y] => .ok (.nx ((env.set i (some x)).set j (some y))) S
    | _ => .bad
@[simp] theorem parR_two {i j : Nat} {x y : D} : parR i j env [x, y] S = .ok (.nx ((env.set i (some x)).set j (some y))) S := by cases S <;> rfl
@[simp] theorem x_par {i j : Nat} {a b : E} : xc Γ fu (.par i j a b) env S = (evs Γ (.cons a (.cons b .nil)) env S).bind fun l S => parR i j env l S := by rw [xc]; rfl
@[simp] theorem x_ret {e : E} : xc Γ fu (.ret e) env S = (ev Γ e env S).bind fun x S => .ok (.ret x) S := by rw [xc]
@[simp] theorem x_retN : xc Γ fu .retN env S = .ok (.ret .non) S := by rw [xc]
@[simp] theorem x_ifs {c : E} {a b : Cs} : xc Γ fu (.ifs c a b) env S = (ev Γ c env S).bind fun x S => ifb x (xcs Γ fu a env S) (xcs Γ fu b env S) := by rw [xc]; rfl
@[simp] theorem x_for {tg : Tg} {it : It} {b : Cs} : xc Γ fu (.for tg it b) env S = (evi Γ it env S).bind fun src S => forLoop src.guard tg.set (fun env S => xcs Γ fu b env S) src.items env S := by rw [xc]
@[simp] theorem x_whl {c : E} {b : Cs} : xc Γ fu (.whl c b) env S = whlLoop (fun env S => ev Γ c env S) (fun env S => xcs Γ fu b env S) fu env S := by rw [xc]
@[simp] theorem x_brk : xc Γ fu .brk env S = .ok (.bk env) S := by rw [xc]
@[simp] theorem x_never : xc Γ fu .never env S = .bad := by rw [xc]
theorem xs_nil : xcs Γ fu .nil env S = .ok (.nx env) S := by rw [xcs]
theorem xs_cons {c : C} {cs : Cs} : xcs Γ fu (.cons c cs) env S = andThen (xc Γ fu c env S) fun env S => xcs Γ fu cs env S := by rw [xcs]; rfl
end
/-! ### operators -/
section
variable {S : Store} {i j : Int}
@[simp] theorem p_add : Op2.add.app (.int i) (.int j) S = .ok (.int (i + j)) S := by cases S <;> rfl
@[simp] theorem p_sub : Op2.sub.app (.int i) (.int j) S = .ok (.int (i - j)) S := by cases S <;> rfl
theorem p_mul (h : -(2 ^ 64) < j ∧ j < 2 ^ 64) : Op2.mul.app (.int i) (.int j) S = .ok (.int (i * j)) S := by
  show (if _ then _ else _) = _
  rw [decide_eq_true h, Bool.or_true, if_pos rfl]
theorem p_mul' (h : -(2 ^ 64) < i ∧ i < 2 ^ 64) : Op2.mul.app (.int i) (.int j) S = .ok (.int (i * j)) S := by
  show (if _ then _ else _) = _
  rw [decide_eq_true h, Bool.true_or, if_pos rfl]
@[simp] theorem p_mod (h : j ≠ 0) : Op2.mod.app (.int i) (.int j) S = .ok (.int (i.fmod j)) S := by
  show (if _ then _ else _) = _
  rw [if_neg h]
theorem p_pow (h : 0 ≤ j ∧ j ≤ 1000000 ∧ i.natAbs < 2 ^ 64) : Op2.pow.app (.int i) (.int j) S = .ok (.int (i ^ j.toNat)) S := by
  show (if _ then _ else _) = _
  rw [if_pos h]
@[simp] theorem q_lt : cmA .lt (.int i) (.int j) S = .ok (.bl (decide (i < j))) S := by cases S <;> rfl
@[simp] theorem q_le : cmA .le (.int i) (.int j) S = .ok (.bl (decide (i ≤ j))) S := by cases S <;> rfl
@[simp] theorem q_gt : cmA .gt (.int i) (.int j) S = .ok (.bl (decide (j < i))) S := by cases S <;> rfl
@[simp] theorem q_ge : cmA .ge (.int i) (.int j) S = .ok (.bl (decide (j ≤ i))) S := by cases S <;> rfl
end
theorem len_scr {l : List Int} {S : Store} : Bi.app .len [.scr l] S = .ok (.int l.length) S := by
  show (match D.items (.scr l) S with | some l => R.ok (D.int l.length) S | none => .bad) = _
  simp [D.items]
theorem atI_get {α : Type} {l : List α} {k : Nat} (h : k < l.length) : L2.atI l (k : Int) = some l[k] := L2.atI_nat (List.getElem?_eq_getElem h)
theorem at_scr {l : List Int} {k : Nat} {S : Store} (h : k < l.length) : atD (.scr l) (.int (k : Int)) S = .ok (.int l[k]) S := by
  unfold atD
  simp only [D.items]
  rw [atI_get (by simpa using h)]
  simp
/-! ### data that may be compared -/
mutual
def D.sim : D → Bool
  | .bl _ => false
  | .scr _ => false
  | .loc _ => false
  | .fn _ => false
  | .tup l => D.sims l
  | .lst l => D.sims l
  | _ => true
def D.sims : List D → Bool
  | [] => true
  | d :: l => D.sim d && D.sims l
end
mutual
theorem sim_pure : ∀ {d : D}, d.sim = true → d.pure = true
  | .non, _ => rfl
  | .int _, _ => rfl
  | .str _, _ => rfl
  | .tup l, h => by
    unfold D.sim at h
    unfold D.pure
    exact sims_pures h
  | .lst l, h => by
    unfold D.sim at h
    unfold D.pure
    exact sims_pures h
theorem sims_pures : ∀ {l : List D}, D.sims l = true → D.pures l = true
  | [], _ => rfl
  | d :: l, h => by
    unfold D.sims at h
    rw [Bool.and_eq_true] at h
    unfold D.pures
    rw [sim_pure h.1, sims_pures h.2]
    rfl
end
mutual
theorem eqv_iff : ∀ {x y : D}, x.sim = true → y.sim = true → (PyData.eqv x.py y.py = true ↔ x = y)
  | .non, y, _, h => by cases y <;> first | (cases h; done) | simp [D.py, PyData.eqv]
  | .int i, y, _, h => by cases y <;> first | (cases h; done) | simp [D.py, PyData.eqv]
  | .str i, y, _, h => by cases y <;> first | (cases h; done) | simp [D.py, PyData.eqv]
  | .tup l, y, h1, h => by
    unfold D.sim at h1
    cases y with
    | tup m =>
      unfold D.sim at h
      simp only [D.py, PyData.eqv, D.tup.injEq]
      exact eqvs_iff h1 h
    | _ => first | (cases h; done) | simp [D.py, PyData.eqv]
  | .lst l, y, h1, h => by
    unfold D.sim at h1
    cases y with
    | lst m =>
      unfold D.sim at h
      simp only [D.py, PyData.eqv, D.lst.injEq]
      exact eqvs_iff h1 h
    | _ => first | (cases h; done) | simp [D.py, PyData.eqv]
theorem eqvs_iff : ∀ {x y : List D}, D.sims x = true → D.sims y = true → (PyData.eqvAll (D.pys x) (D.pys y) = true ↔ x = y)
  | [], [], _, _ => by simp [D.pys, PyData.eqvAll]
  | [], _ :: _, _, _ => by simp [D.pys, PyData.eqvAll]
  | _ :: _, [], _, _ => by simp [D.pys, PyData.eqvAll]
  | a :: x, b :: y, h1, h2 => by
    unfold D.sims at h1 h2
    rw [Bool.and_eq_true] at h1 h2
    simp only [D.pys, PyData.eqvAll, Bool.and_eq_true, List.cons.injEq]
    rw [eqv_iff h1.1 h2.1, eqvs_iff h1.2 h2.2]
end
/-- simple, of a depth -/
def Ok (n : Nat) (d : D) : Prop := d.sim = true ∧ d.py.depth ≤ n
theorem ok_int {n : Nat} {i : Int} : Ok n (.int i) := ⟨rfl, Nat.zero_le _⟩
theorem ok_str {n : Nat} {x : Str} : Ok n (.str x) := ⟨rfl, Nat.zero_le _⟩
theorem ok_non {n : Nat} : Ok n .non := ⟨rfl, Nat.zero_le _⟩
theorem oks {n : Nat} : ∀ {l : List D}, (∀ d ∈ l, Ok n d) → D.sims l = true ∧ PyData.depthAll (D.pys l) ≤ n
  | [], _ => ⟨rfl, Nat.zero_le _⟩
  | d :: l, h => by
    obtain ⟨h1, h2⟩ := h d List.mem_cons_self
    obtain ⟨h3, h4⟩ := oks fun e he => h e (List.mem_cons_of_mem _ he)
    refine ⟨by unfold D.sims; rw [h1, h3]; rfl, ?_⟩
    unfold D.pys PyData.depthAll
    exact Nat.max_le.mpr ⟨h2, h4⟩
theorem ok_tup {n : Nat} {l : List D} (h : ∀ d ∈ l, Ok n d) : Ok (n + 1) (.tup l) := by
  obtain ⟨h1, h2⟩ := oks h
  refine ⟨by unfold D.sim; exact h1, ?_⟩
  unfold D.py PyData.depth
  exact Nat.succ_le_succ h2
theorem ok_lst {n : Nat} {l : List D} (h : ∀ d ∈ l, Ok n d) : Ok (n + 1) (.lst l) := by
  obtain ⟨h1, h2⟩ := oks h
  refine ⟨by unfold D.sim; exact h1, ?_⟩
  unfold D.py PyData.depth
  exact Nat.succ_le_succ h2
theorem Ok.le {n m : Nat} {d : D} (h : Ok n d) (k : n ≤ m) : Ok m d := ⟨h.1, Nat.le_trans h.2 k⟩
open Classical in
theorem eqD_ok {x y : D} {S : Store} (hx : Ok 30 (x.rd S)) (hy : Ok 30 (y.rd S)) : eqD x y S = some (decide (x.rd S = y.rd S)) := by
  unfold eqD
  dsimp only
  rw [sim_pure hx.1, sim_pure hy.1, decide_eq_true hx.2, decide_eq_true hy.2]
  show some _ = some _
  congr 1
  rw [Bool.eq_iff_iff, eqv_iff hx.1 hy.1, decide_eq_true_eq]
open Classical in
theorem q_eq {x y : D} {S : Store} (hx : Ok 30 (x.rd S)) (hy : Ok 30 (y.rd S)) : cmA .eq x y S = .ok (.bl (decide (x.rd S = y.rd S))) S := by
  unfold cmA
  show (match eqD x y S with | some c => R.ok (D.bl c) S | none => R.bad) = _
  rw [eqD_ok hx hy]
open Classical in
theorem q_ne {x y : D} {S : Store} (hx : Ok 30 (x.rd S)) (hy : Ok 30 (y.rd S)) : cmA .ne x y S = .ok (.bl (!decide (x.rd S = y.rd S))) S := by
  unfold cmA
  show (match (eqD x y S).map (!·) with | some c => R.ok (D.bl c) S | none => R.bad) = _
  rw [eqD_ok hx hy]
  rfl
theorem ok_ints {n : Nat} {l : List Int} : Ok (n + 1) (.lst (l.map .int)) := ok_lst fun d hd => by
  obtain ⟨i, _, rfl⟩ := List.mem_map.mp hd
  exact ok_int
theorem ok_strs {n : Nat} {l : List Str} : Ok (n + 1) (.lst (l.map .str)) := ok_lst fun d hd => by
  obtain ⟨i, _, rfl⟩ := List.mem_map.mp hd
  exact ok_str
open Classical in
theorem eq_scr {l : List Int} {S : Store} : cmA .eq (.scr l) (.lst []) S = .ok (.bl (decide (l = []))) S := by
  have h1 : Ok 30 ((D.scr l).rd S) := ok_ints (n := 29) (l := l)
  have h2 : Ok 30 ((D.lst []).rd S) := ok_lst (n := 29) fun d hd => by cases hd
  rw [q_eq h1 h2]
  congr 2
  simp [D.rd]
/-! ### what the laws draw -/
/-- the script's cell as the laws read it -/
def cellAt (ns : List Int) (k : Nat) : Int := if h : k < ns.length then ns[k] else if h2 : ns = [] then 0 else ns[k % ns.length]'(Nat.mod_lt _ (by cases ns <;> simp_all)) * 31 + k
theorem r_cell {fu n : Nat} {ns : List Int} {k : Nat} {S : Store} (h : ns.length ≤ 63) : run G fu (n + 1) 0 [.scr ns, .int k] S = .ok (.int (cellAt ns k)) S := by
  rw [run_at G0]
  simp only [c0, List.length_cons, List.length_nil, List.map_cons, List.map_nil]
  rw [xs_cons]
  simp [len_scr]
  unfold cellAt
  by_cases h1 : k < ns.length
  · simp [h1, xs_cons, at_scr h1]
  · simp [h1, xs_cons, xs_nil, eq_scr]
    by_cases h2 : ns = []
    · simp [h2]
    · have h3 : 0 < ns.length := List.length_pos_iff.mpr h2
      have h4 : k % ns.length < ns.length := Nat.mod_lt _ h3
      have e1 : (k : Int) % (ns.length : Int) = ((k % ns.length : Nat) : Int) := rfl
      have e0 : Int.fmod (k : Int) (ns.length : Int) = ((k % ns.length : Nat) : Int) := by rw [Int.fmod_eq_emod_of_nonneg _ (by omega)]; rfl
      have e9 := at_scr (S := S) h4
      rw [← e0] at e9
      simp [h2, len_scr, e9, p_mul]
def mixed (ns : List Int) (k : Nat) (m : Int) : Int := Int.fmod (Int.fmod (Int.fmod ((Int.fmod (cellAt ns k * 1103515245 + 7919 * k + 12345) 2147483647) ^ 5) 2147483647) 999983) m
theorem r_mixed {fu n : Nat} {ns : List Int} {k : Nat} {m : Int} {S : Store} (h : ns.length ≤ 63) (hm : 0 < m) : run G fu (n + 2) 1 [.scr ns, .int k, .int m] S = .ok (.int (mixed ns k m)) S := by
  rw [run_at G1]
  simp only [c1, List.length_cons, List.length_nil, List.map_cons, List.map_nil]
  have hm' : m ≠ 0 := by omega
  have b := Int.emod_nonneg (cellAt ns k * 1103515245 + 7919 * k + 12345) (show (2147483647 : Int) ≠ 0 by decide)
  have b2 := Int.emod_lt_of_pos (cellAt ns k * 1103515245 + 7919 * k + 12345) (show (0 : Int) < 2147483647 by decide)
  have hp : (Int.fmod (cellAt ns k * 1103515245 + 7919 * k + 12345) 2147483647).natAbs < 2 ^ 64 := by
    rw [Int.fmod_eq_emod_of_nonneg _ (by decide)]
    omega
  simp [xs_cons, xs_nil, r_cell h, p_mul, p_mul', p_pow, hp, hm']
  rfl
theorem mixed_lt {ns : List Int} {k : Nat} {m : Int} (hm : 0 < m) : 0 ≤ mixed ns k m ∧ mixed ns k m < m := by
  unfold mixed
  rw [Int.fmod_eq_emod_of_nonneg _ (Int.le_of_lt hm)]
  exact ⟨Int.emod_nonneg _ (by omega), Int.emod_lt_of_pos _ hm⟩
/-- the town's cell -/
def tw (k : Nat) : Cell := .lst (List.replicate k (.int 0))
theorem r_draw {fu n : Nat} {ns : List Int} {k : Nat} {m : Int} {Z : Store} (h : ns.length ≤ 63) (hm : 0 < m) (hk : k < 100000) :
    run G fu (n + 3) 2 [.scr ns, .loc 0, .int m] (tw k :: Z) = .ok (.int (mixed ns (k + 1) m)) (tw (k + 1) :: Z) := by
  rw [run_at G2]
  simp only [c2, List.length_cons, List.length_nil, List.map_cons, List.map_nil]
  have e1 : Mt.append.app (.loc 0) [.int 0] (tw k :: Z) = .ok .non (tw (k + 1) :: Z) := by
    show (if okLen (List.replicate k (D.int 0)).length = true then _ else _) = _
    rw [if_pos (okLen_le' (by rw [List.length_replicate]; omega))]
    simp [tw, List.replicate_succ']
  have e2 : Mt.recv .append (.loc 0) (tw k :: Z) = true := rfl
  have e3 : Bi.len.app [.loc 0] (tw (k + 1) :: Z) = .ok (.int ((k + 1 : Nat) : Int)) (tw (k + 1) :: Z) := by
    show R.ok (D.int (List.replicate (k + 1) (D.int 0)).length) _ = _
    rw [List.length_replicate]
  rw [xs_cons]
  simp [e1, e2]
  rw [xs_cons]
  simp [e3]
  have e4 : ((k : Int) + 1) = ((k + 1 : Nat) : Int) := by omega
  rw [e4, r_mixed h hm]
  simp
  exact fin_len rfl
theorem draw_some {fu n : Nat} {ns : List Int} {k : Nat} {m : Nat} {Z : Store} (h : ns.length ≤ 63) (hm : 0 < m) (hk : k < 100000) :
    ∃ r : Nat, r < m ∧ run G fu (n + 3) 2 [.scr ns, .loc 0, .int (m : Int)] (tw k :: Z) = .ok (.int (r : Int)) (tw (k + 1) :: Z) := by
  have hb := mixed_lt (ns := ns) (k := k + 1) (m := m) (by omega)
  refine ⟨(mixed ns (k + 1) m).toNat, by omega, ?_⟩
  rw [r_draw h (by omega) hk]
  congr 2
  omega
end SV
/-! SvU: texts. -/
namespace SV
open PySem
/-- a text by its signs -/
def tx (l : List Nat) : Str := ⟨l.toArray⟩
theorem tx_add (a b : List Nat) : tx a ++ tx b = tx (a ++ b) := by
  show Str.append (tx a) (tx b) = _
  unfold Str.append tx
  simp
theorem tx_len (a : List Nat) : (tx a).length = a.length := by
  unfold tx Str.length
  simp
theorem tx_inj {a b : List Nat} : tx a = tx b ↔ a = b := by
  unfold tx
  simp
@[simp] theorem tx_cps (a : List Nat) : (tx a).cps.toList = a := by simp [tx]
theorem tx_abc : ("abc" : Str) = tx [97, 98, 99] := by decide +kernel
theorem tx_nil : ("" : Str) = tx [] := by decide +kernel
theorem tx_a : ("a" : Str) = tx [97] := by decide +kernel
theorem tx_b : ("b" : Str) = tx [98] := by decide +kernel
abbrev dt (l : List Nat) : D := .str (tx l)
theorem dt_inj {a b : List Nat} : dt a = dt b ↔ a = b := by
  unfold dt
  rw [D.str.injEq, tx_inj]
section
variable {S : Store} {a b : List Nat}
theorem t_add (h : a.length + b.length ≤ 16000000) : Op2.add.app (dt a) (dt b) S = .ok (dt (a ++ b)) S := by
  show (if okLen ((tx a).length + (tx b).length) = true then R.ok (D.str (tx a ++ tx b)) S else .bad) = _
  rw [tx_len, tx_len, if_pos (okLen_le' h), tx_add]
theorem t_len (h : a.length ≤ 16000000) : Bi.app .len [dt a] S = .ok (.int a.length) S := by
  show (if okLen (tx a).length = true then R.ok (D.int (tx a).length) S else .bad) = _
  rw [tx_len, if_pos (okLen_le' h)]
theorem t_cut {lo hi : Option Int} (h : a.length ≤ 16000000) : cutD (dt a) lo hi S = .ok (dt (cutL a lo hi)) S := by
  show (if okLen (tx a).length = true then R.ok (D.str ⟨(cutL (tx a).cps.toList lo hi).toArray⟩) S else .bad) = _
  rw [tx_len, if_pos (okLen_le' h), tx_cps]
  rfl
theorem t_at {i : Nat} (h : a.length ≤ 16000000) (hi : i < a.length) : atD (dt a) (.int (i : Int)) S = .ok (dt [a[i]]) S := by
  show (if okLen (tx a).length = true then (match L2.atI (tx a).cps.toList (i : Int) with | some c => R.ok (sign c) S | none => .bad) else .bad) = _
  rw [tx_len, if_pos (okLen_le' h), tx_cps, atI_get hi]
  rfl
end
theorem cut_to {α : Type} (l : List α) (n : Nat) : cutL l none (some (n : Int)) = l.take n := by
  unfold cutL
  rw [HT.sIx_none, HT.sIx_nat, List.drop_zero, Nat.sub_zero, List.take_eq_take_min (i := n)]
theorem cut_from {α : Type} (l : List α) (n : Nat) : cutL l (some (n : Int)) none = l.drop n := by
  unfold cutL
  rw [HT.sIx_none, HT.sIx_nat]
  by_cases h : n ≤ l.length
  · rw [Nat.min_eq_left h, List.take_of_length_le (by rw [List.length_drop]; omega)]
  · rw [Nat.min_eq_right (by omega), List.drop_length, List.drop_eq_nil_of_le (by omega)]
    exact List.take_nil
theorem cut_mid {α : Type} (l : List α) (m n : Nat) : cutL l (some (m : Int)) (some (n : Int)) = (l.drop m).take (n - m) := by
  unfold cutL
  rw [HT.sIx_nat, HT.sIx_nat]
  by_cases h : m ≤ l.length
  · rw [Nat.min_eq_left h]
    by_cases h2 : n ≤ l.length
    · rw [Nat.min_eq_left h2]
    · rw [Nat.min_eq_right (by omega), List.take_of_length_le (by rw [List.length_drop]; omega), List.take_of_length_le (by rw [List.length_drop]; omega)]
  · rw [Nat.min_eq_right (a := m) (by omega), List.drop_length, List.drop_eq_nil_of_le (show l.length ≤ m by omega)]
    rw [List.take_nil, List.take_nil]
theorem cut_last {α : Type} (l : List α) (n : Nat) (h : n ≤ l.length) (hn : 0 < n) : cutL l (some (-(n : Int))) none = l.drop (l.length - n) := by
  unfold cutL
  rw [HT.sIx_none]
  have e : HT.sIx l.length 0 (some (-(n : Int))) = l.length - n := by
    show (if -(n : Int) < 0 then (-(n : Int) + (l.length : Int)).toNat else _) = _
    rw [if_pos (by omega)]
    omega
  rw [e, List.take_of_length_le (by rw [List.length_drop]; omega)]
/-! ### loops -/
theorem for_inv {st : D → Env → Option Env} {f : Env → Store → R Fl} {items : List D} {env : Env} {S : Store} (Pv : Nat → Env → Store → Prop) (h0 : Pv 0 env S)
    (step : ∀ i x env S, items[i]? = some x → Pv i env S → ∃ env1 env2 S2, st x env = some env1 ∧ f env1 S = .ok (.nx env2) S2 ∧ Pv (i + 1) env2 S2) : ∃ env2 S2, forLoop none st f items env S = .ok (.nx env2) S2 ∧ Pv items.length env2 S2 := by
  have key : ∀ (m i : Nat) (env : Env) (S : Store), items.length - i = m → i ≤ items.length → Pv i env S → ∃ env2 S2, forLoop none st f (items.drop i) env S = .ok (.nx env2) S2 ∧ Pv items.length env2 S2 := by
    intro m
    induction m with
    | zero =>
      intro i env S em hi hP
      have e : i = items.length := by omega
      subst e
      rw [List.drop_length]
      refine ⟨env, S, ?_, hP⟩
      unfold forLoop
      rw [if_pos (good_none S)]
    | succ m ih =>
      intro i env S em hi hP
      have lt : i < items.length := by omega
      obtain ⟨env1, env2, S2, h1, h2, h3⟩ := step i items[i] env S (List.getElem?_eq_getElem lt) hP
      obtain ⟨env3, S3, h4, h5⟩ := ih (i + 1) env2 S2 (by omega) (by omega) h3
      refine ⟨env3, S3, ?_, h5⟩
      rw [List.drop_eq_getElem_cons lt]
      unfold forLoop
      rw [if_pos (good_none S), h1]
      dsimp only
      rw [h2]
      exact h4
  have := key items.length 0 env S (by omega) (Nat.zero_le _) h0
  rwa [List.drop_zero] at this
theorem whl_inv {c : Env → Store → R D} {f : Env → Store → R Fl} {env : Env} {S : Store} (Pv : Nat → Env → Store → Prop) {m fu : Nat} (hm : m < fu) (h0 : Pv m env S)
    (step : ∀ m env S, Pv m env S → (c env S = .ok (.bl false) S) ∨ (c env S = .ok (.bl true) S ∧ ∃ m' env2 S2, m' < m ∧ f env S = .ok (.nx env2) S2 ∧ Pv m' env2 S2)) :
    ∃ m env2 S2, whlLoop c f fu env S = .ok (.nx env2) S2 ∧ Pv m env2 S2 ∧ c env2 S2 = .ok (.bl false) S2 := by
  induction fu generalizing m env S with
  | zero => omega
  | succ fu ih =>
    unfold whlLoop
    rcases step m env S h0 with h | ⟨h, m', env2, S2, hlt, h2, h3⟩
    · rw [h]
      exact ⟨m, env, S, rfl, h0, h⟩
    · rw [h]
      dsimp only [R.bind_ok]
      rw [h2]
      dsimp only [R.bind_ok]
      exact ih (by omega) h3
/-- a comprehension without effects -/
theorem lc_pure {st : D → Option Env} {fc fe : Env → Store → R D} {S : Store} {p : D → Bool} {q : D → D} : ∀ {items : List D}, (∀ x ∈ items, ∃ env, st x = some env ∧ fc env S = .ok (.bl (p x)) S ∧ (p x = true → fe env S = .ok (q x) S)) →
    lcLoop none st fc fe items S = .ok ((items.filter p).map q) S
  | [], _ => by
    unfold lcLoop
    rw [if_pos (good_none S)]
    rfl
  | x :: xs, h => by
    unfold lcLoop
    rw [if_pos (good_none S)]
    obtain ⟨env, h1, h2, h3⟩ := h x List.mem_cons_self
    rw [h1]
    dsimp only
    rw [h2]
    dsimp only [R.nox_ok, R.bind_ok]
    have ih := lc_pure fun y hy => h y (List.mem_cons_of_mem _ hy)
    cases hp : p x with
    | false =>
      dsimp only
      rw [ih, List.filter_cons_of_neg (by simp [hp])]
    | true =>
      dsimp only
      rw [h3 hp]
      dsimp only [R.nox_ok, R.bind_ok]
      rw [ih, List.filter_cons_of_pos hp]
      rfl
theorem lcR_pure {st : D → Option Env} {fc fe : Env → Store → R D} {S : Store} {items : List D} (p : D → Bool) (q : D → D) (hl : items.length ≤ 16000000) (h : ∀ x ∈ items, ∃ env, st x = some env ∧ fc env S = .ok (.bl (p x)) S ∧ (p x = true → fe env S = .ok (q x) S)) :
    lcR none st fc fe items S = .ok (.lst ((items.filter p).map q)) S := by
  unfold lcR
  rw [if_pos (okLen_le' hl), lc_pure h]
  rfl
/-! ### the laws' texts -/
/-- letters only -/
def T3 (l : List Nat) : Prop := ∀ x ∈ l, x = 97 ∨ x = 98 ∨ x = 99
theorem T3.app {a b : List Nat} (h : T3 a) (k : T3 b) : T3 (a ++ b) := fun x hx => (List.mem_append.mp hx).elim (h x) (k x)
theorem T3.take {a : List Nat} (h : T3 a) (n : Nat) : T3 (a.take n) := fun x hx => h x (List.mem_of_mem_take hx)
theorem T3.drop {a : List Nat} (h : T3 a) (n : Nat) : T3 (a.drop n) := fun x hx => h x (List.mem_of_mem_drop hx)
section
variable {fu n : Nat} {ns : List Int} {k : Nat} {Z : Store}
theorem r_pick {l : List D} (h : ns.length ≤ 63) (hl : 0 < l.length) (hl2 : l.length ≤ 1000) (hk : k < 100000) :
    ∃ r, ∃ hr : r < l.length, run G fu (n + 4) 3 [.scr ns, .loc 0, .lst l] (tw k :: Z) = .ok l[r] (tw (k + 1) :: Z) := by
  obtain ⟨r, hr, e⟩ := draw_some (fu := fu) (n := n) (ns := ns) (k := k) (m := l.length) (Z := Z) h hl hk
  refine ⟨r, hr, ?_⟩
  rw [run_at G3]
  simp only [c3, List.length_cons, List.length_nil, List.map_cons, List.map_nil]
  have e2 : ∀ S, Bi.len.app [.lst l] S = .ok (.int l.length) S := fun S => rfl
  have e3 : ∀ S, atD (.lst l) (.int (r : Int)) S = .ok l[r] S := fun S => by
    show (match L2.atI l (r : Int) with | some d => R.ok d S | none => .bad) = _
    rw [atI_get hr]
  rw [xs_cons]
  simp [e2, e, e3]
  exact fin_len rfl
theorem text_loop {low most few : Nat} {w : Nat} (h : ns.length ≤ 63) (f1 : 0 < few) (f2 : few ≤ 3) (hw : w ≤ 60) (hk : k + 100 < 100000) :
    ∃ l o, T3 l ∧ l.length = w ∧ forLoop none (Tg.one 6).set (fun env S => xcs (run G fu (n + 4)) fu (.cons (.set 5 (.op .add (.var 5) (.idx (.cst (.str ("abc" : Str))) (.call 2 (.cons (.var 0) (.cons (.var 1) (.cons (.var 4) .nil))))))) .nil) env S) (rngD 0 w)
      [some (.scr ns), some (.loc 0), some (.int (low : Int)), some (.int (most : Int)), some (.int (few : Int)), some (.str ("" : Str)), none] (tw (k + 2) :: Z) =
      .ok (.nx [some (.scr ns), some (.loc 0), some (.int (low : Int)), some (.int (most : Int)), some (.int (few : Int)), some (dt l), o]) (tw (k + 2 + w) :: Z) := by
  obtain ⟨env2, S2, h1, h2⟩ := for_inv (items := rngD 0 (w)) (st := (Tg.one 6).set) (f := fun env S => xcs (run G fu (n + 4)) fu (.cons (.set 5 (.op .add (.var 5) (.idx (.cst (.str ("abc" : Str))) (.call 2 (.cons (.var 0) (.cons (.var 1) (.cons (.var 4) .nil))))))) .nil) env S)
    (env := [some (.scr ns), some (.loc 0), some (.int (low : Int)), some (.int (most : Int)), some (.int (few : Int)), some (.str ("" : Str)), none]) (S := tw (k + 2) :: Z)
    (fun i env S => ∃ l o, env = [some (.scr ns), some (.loc 0), some (.int (low : Int)), some (.int (most : Int)), some (.int (few : Int)), some (dt l), o] ∧ S = tw (k + 2 + i) :: Z ∧ T3 l ∧ l.length = i)
    ⟨[], none, by rw [tx_nil], rfl, (fun x hx => nomatch hx), rfl⟩ (by
      rintro i x env S hx ⟨l, o, rfl, rfl, hT, hl⟩
      have hi : i < w := by
        have := (List.getElem?_eq_some_iff.mp hx).1
        simpa [rngD] using this
      obtain ⟨r3, hr3, e4⟩ := draw_some (fu := fu) (n := n + 1) (ns := ns) (k := k + 2 + i) (m := few) (Z := Z) h f1 (by omega)
      have h3 : r3 < [97, 98, 99].length := by
        show r3 < 3
        omega
      refine ⟨_, _, _, rfl, ?_, l ++ [[97, 98, 99][r3]], some x, rfl, rfl, hT.app ?_, by simp [hl]⟩
      · rw [xs_cons]
        simp [e4, tx_abc, t_at (S := tw (k + 2 + i + 1) :: Z) (a := [97, 98, 99]) (i := r3) (by simp) h3, t_add (S := tw (k + 2 + i + 1) :: Z) (a := l) (b := [[97, 98, 99][r3]]) (by simp; omega), xs_nil]
        exact congrArg tw (by omega)
      · intro y hy
        rw [List.mem_singleton] at hy
        subst hy
        match r3, h3 with
        | 0, _ => exact .inl rfl
        | 1, _ => exact .inr (.inl rfl)
        | 2, _ => exact .inr (.inr rfl))
  have hz : (rngD 0 w).length = w := by simp [rngD]
  obtain ⟨l, o, rfl, rfl, hT, hl⟩ := h2
  rw [hz] at hl h1
  exact ⟨l, o, hT, hl, h1⟩
theorem r_text {low most : Nat} (h : ns.length ≤ 63) (hm : low ≤ most) (hm2 : most ≤ 60) (hk : k + 100 < 100000) :
    ∃ l k', T3 l ∧ low ≤ l.length ∧ l.length ≤ most ∧ k' ≤ k + 100 ∧ run G fu (n + 5) 4 [.scr ns, .loc 0, .int (low : Int), .int (most : Int)] (tw k :: Z) = .ok (dt l) (tw k' :: Z) := by
  obtain ⟨r, hr, e⟩ := r_pick (fu := fu) (n := n) (ns := ns) (k := k) (Z := Z) (l := [.int 1, .int 2, .int 2, .int 3, .int 3, .int 3]) h (by decide) (by decide) (by omega)
  have hfew : ∃ few : Nat, 0 < few ∧ few ≤ 3 ∧ [D.int 1, .int 2, .int 2, .int 3, .int 3, .int 3][r] = .int (few : Int) := by
    match r, hr with
    | 0, _ => exact ⟨1, by decide, by decide, rfl⟩
    | 1, _ => exact ⟨2, by decide, by decide, rfl⟩
    | 2, _ => exact ⟨2, by decide, by decide, rfl⟩
    | 3, _ => exact ⟨3, by decide, by decide, rfl⟩
    | 4, _ => exact ⟨3, by decide, by decide, rfl⟩
    | 5, _ => exact ⟨3, by decide, by decide, rfl⟩
  obtain ⟨few, f1, f2, e2⟩ := hfew
  rw [e2] at e
  obtain ⟨r2, hr2, e3⟩ := draw_some (fu := fu) (n := n + 1) (ns := ns) (k := k + 1) (m := most - low + 1) (Z := Z) h (by omega) (by omega)
  have em : ((most - low + 1 : Nat) : Int) = (most : Int) - (low : Int) + 1 := by omega
  rw [em, show k + 1 + 1 = k + 2 from rfl] at e3
  have el : ((low : Int) + (r2 : Int)).toNat = low + r2 := by omega
  obtain ⟨l, o, hT, hl, h1⟩ := text_loop (fu := fu) (n := n) (ns := ns) (k := k) (Z := Z) (low := low) (most := most) (w := low + r2) h f1 f2 (by omega) hk
  refine ⟨l, k + 2 + (low + r2), hT, by omega, by omega, by omega, ?_⟩
  rw [run_at G4]
  simp only [c4, List.length_cons, List.length_nil, List.map_cons, List.map_nil]
  rw [xs_cons]
  simp [e]
  rw [xs_cons]
  simp
  rw [xs_cons]
  simp only [x_for, ei_1, e_op, e_var, e_call, es_cons, es_nil, e_cst, List.getD_cons_zero, List.getD_cons_succ, slotR_some, bo, p_add, p_sub]
  rw [show n + 1 + 3 = n + 4 from rfl] at e3
  rw [e3]
  simp only [bo, p_add]
  rw [rngR_int (show -1000000 ≤ (low : Int) + (r2 : Int) ∧ (low : Int) + (r2 : Int) ≤ 1000000 by omega)]
  simp only [bo, el]
  rw [h1, andThen_nx, xs_cons]
  simp only [x_ret, e_var, List.getD_cons_zero, List.getD_cons_succ, slotR_some, bo, andThen_ret, toD_ret]
  exact fin_len rfl
end
end SV
/-! SvV: _law_like: a text in which pieces come again. -/
namespace SV
open PySem
section
variable {fu n : Nat} {ns : List Int} {k : Nat} {Z : Store}
/-- one more piece -/
theorem like_step {low M w : Nat} {a : List Nat} (h : ns.length ≤ 63) (hT : T3 a) (ha : 2 ≤ a.length) (ha2 : a.length ≤ 60) (hk : k < 100000) :
    ∃ b, T3 b ∧ 0 < b.length ∧ b.length ≤ 3 ∧ xcs (run G fu (n + 5)) fu (.cons (.set 5 (.op .add (.var 5) (.call 3 (.cons (.var 0) (.cons (.var 1) (.cons (.lst (.cons (.sl (.var 5) .none (.some (.cst (.int 2)))) (.cons (.sl (.var 5) .none (.some (.cst (.int 3)))) (.cons (.sl (.var 5) (.some (.cst (.int 1))) (.some (.cst (.int 3)))) (.cons (.cst (.str ("a" : Str))) (.cons (.cst (.str ("b" : Str))) (.cons (.sl (.var 5) (.some (.neg (.cst (.int 2)))) .none) .nil))))))) .nil)))))) .nil)
      [some (.scr ns), some (.loc 0), some (.int (low : Int)), some (.int (M : Int)), some (.int (w : Int)), some (dt a)] (tw k :: Z) =
      .ok (.nx [some (.scr ns), some (.loc 0), some (.int (low : Int)), some (.int (M : Int)), some (.int (w : Int)), some (dt (a ++ b))]) (tw (k + 1) :: Z) := by
  have hz : a.length ≤ 16000000 := by omega
  have c1 := t_cut (S := tw k :: Z) (a := a) (lo := none) (hi := some 2) hz
  have c2 := t_cut (S := tw k :: Z) (a := a) (lo := none) (hi := some 3) hz
  have c3 := t_cut (S := tw k :: Z) (a := a) (lo := some 1) (hi := some 3) hz
  have c4 := t_cut (S := tw k :: Z) (a := a) (lo := some (-2)) (hi := none) hz
  have d1 := cut_to a 2
  have d2 := cut_to a 3
  have d3 := cut_mid a 1 3
  have d4 := cut_last a 2 ha (by decide)
  rw [show ((2 : Nat) : Int) = 2 from rfl] at d1 d4
  rw [show ((3 : Nat) : Int) = 3 from rfl] at d2 d3
  rw [show ((1 : Nat) : Int) = 1 from rfl] at d3
  rw [d1] at c1
  rw [d2] at c2
  rw [d3] at c3
  rw [d4] at c4
  obtain ⟨r, hr, e⟩ := r_pick (fu := fu) (n := n + 1) (ns := ns) (k := k) (Z := Z) (l := [dt (a.take 2), dt (a.take 3), dt ((a.drop 1).take (3 - 1)), dt [97], dt [98], dt (a.drop (a.length - 2))]) h (by simp) (by simp) hk
  have hb : ∃ b, T3 b ∧ 0 < b.length ∧ b.length ≤ 3 ∧ [dt (a.take 2), dt (a.take 3), dt ((a.drop 1).take (3 - 1)), dt [97], dt [98], dt (a.drop (a.length - 2))][r] = dt b := by
    match r, hr with
    | 0, _ => exact ⟨_, hT.take 2, by rw [List.length_take]; omega, by rw [List.length_take]; omega, rfl⟩
    | 1, _ => exact ⟨_, hT.take 3, by rw [List.length_take]; omega, by rw [List.length_take]; omega, rfl⟩
    | 2, _ => exact ⟨_, (hT.drop 1).take _, by rw [List.length_take, List.length_drop]; omega, by rw [List.length_take]; omega, rfl⟩
    | 3, _ => exact ⟨[97], fun x hx => by rw [List.mem_singleton] at hx; exact .inl hx, by decide, by decide, rfl⟩
    | 4, _ => exact ⟨[98], fun x hx => by rw [List.mem_singleton] at hx; exact .inr (.inl hx), by decide, by decide, rfl⟩
    | 5, _ => exact ⟨_, hT.drop _, by rw [List.length_drop]; omega, by rw [List.length_drop]; omega, rfl⟩
  obtain ⟨b, b1, b2, b3, e2⟩ := hb
  rw [e2, show n + 1 + 4 = n + 5 from rfl] at e
  refine ⟨b, b1, b2, b3, ?_⟩
  rw [xs_cons]
  simp only [x_set, e_op, e_var, e_call, e_sl, e_lst, e_neg, eo_none, eo_some, es_cons, es_nil, e_cst, List.getD_cons_zero, List.getD_cons_succ, slotR_some, negR_int, intO_int, bo, c1, c2, c3, c4, tx_a, tx_b]
  rw [seqR_ok (by simp)]
  simp only [bo]
  rw [e]
  simp only [bo]
  rw [t_add (by omega)]
  simp only [bo, andThen_nx, xs_nil]
  rfl
theorem like_test {low M w : Nat} {a : List Nat} (ha2 : a.length ≤ 60) :
    ev (run G fu (n + 5)) (.cmp .lt (.bi .len (.cons (.var 5) .nil)) (.op .sub (.var 3) (.cst (.int 2)))) [some (.scr ns), some (.loc 0), some (.int (low : Int)), some (.int (M : Int)), some (.int (w : Int)), some (dt a)] (tw k :: Z) = .ok (.bl (decide ((a.length : Int) < (M : Int) - 2))) (tw k :: Z) := by
  simp only [e_cmp, e_bi, e_op, e_var, es_cons, es_nil, e_cst, List.getD_cons_zero, List.getD_cons_succ, slotR_some, bo, p_sub]
  rw [t_len (by omega)]
  simp only [bo, q_lt]
theorem r_like {low M : Nat} (h : ns.length ≤ 63) (hl : 2 ≤ low) (hl2 : low ≤ 4) (hM : 6 ≤ M) (hM2 : M ≤ 40) (hk : k + 1000 < 100000) (hfu : 1000 < fu) :
    ∃ (l : List Nat) (w k' : Nat), T3 l ∧ M - 2 ≤ l.length ∧ l.length ≤ M ∧ 2 ≤ w ∧ w ≤ 4 ∧ k' ≤ k + 1000 ∧ run G fu (n + 6) 5 [.scr ns, .loc 0, .int (low : Int), .int (M : Int)] (tw k :: Z) = .ok (.tup [dt l, .int (w : Int)]) (tw k' :: Z) := by
  obtain ⟨r, hr, e⟩ := r_pick (fu := fu) (n := n + 1) (ns := ns) (k := k) (Z := Z) (l := [.int 1, .int 1, .int 2, .int 2, .int 3]) h (by simp) (by simp) (by omega)
  have hw : ∃ w : Nat, 2 ≤ w ∧ w ≤ 4 ∧ [D.int 1, .int 1, .int 2, .int 2, .int 3][r] = .int ((w : Int) - 1) := by
    match r, hr with
    | 0, _ => exact ⟨2, by decide, by decide, rfl⟩
    | 1, _ => exact ⟨2, by decide, by decide, rfl⟩
    | 2, _ => exact ⟨3, by decide, by decide, rfl⟩
    | 3, _ => exact ⟨3, by decide, by decide, rfl⟩
    | 4, _ => exact ⟨4, by decide, by decide, rfl⟩
  obtain ⟨w, w1, w2, e2⟩ := hw
  rw [e2, show n + 1 + 4 = n + 5 from rfl] at e
  obtain ⟨a, k2, a1, a2, a3, a4, e3⟩ := r_text (fu := fu) (n := n) (ns := ns) (k := k + 1) (Z := Z) (low := low) (most := 4) h hl2 (by decide) (by omega)
  rw [show ((4 : Nat) : Int) = 4 from rfl] at e3
  obtain ⟨m, env2, S2, f1, ⟨l, j, rfl, rfl, l1, l2, l3, l4⟩, f3⟩ := whl_inv (fu := fu) (c := fun env S => ev (run G fu (n + 5)) (.cmp .lt (.bi .len (.cons (.var 5) .nil)) (.op .sub (.var 3) (.cst (.int 2)))) env S)
    (f := fun env S => xcs (run G fu (n + 5)) fu (.cons (.set 5 (.op .add (.var 5) (.call 3 (.cons (.var 0) (.cons (.var 1) (.cons (.lst (.cons (.sl (.var 5) .none (.some (.cst (.int 2)))) (.cons (.sl (.var 5) .none (.some (.cst (.int 3)))) (.cons (.sl (.var 5) (.some (.cst (.int 1))) (.some (.cst (.int 3)))) (.cons (.cst (.str ("a" : Str))) (.cons (.cst (.str ("b" : Str))) (.cons (.sl (.var 5) (.some (.neg (.cst (.int 2)))) .none) .nil))))))) .nil)))))) .nil) env S)
    (env := [some (.scr ns), some (.loc 0), some (.int (low : Int)), some (.int (M : Int)), some (.int (w : Int)), some (dt a)]) (S := tw k2 :: Z)
    (fun m env S => ∃ l j, env = [some (.scr ns), some (.loc 0), some (.int (low : Int)), some (.int (M : Int)), some (.int (w : Int)), some (dt l)] ∧ S = tw j :: Z ∧ T3 l ∧ 2 ≤ l.length ∧ l.length ≤ M ∧ j + m ≤ k2 + 60 ∧ m + l.length = 60)
    (m := 60 - a.length) (by omega) ⟨a, k2, rfl, rfl, a1, by omega, by omega, by omega, by omega⟩ (by
      rintro m env S ⟨l, j, rfl, rfl, l1, l2, l3, l4, l5⟩
      have ec := like_test (fu := fu) (n := n) (ns := ns) (Z := Z) (low := low) (M := M) (w := w) (a := l) (k := j) (by omega)
      by_cases hc : (l.length : Int) < (M : Int) - 2
      · right
        obtain ⟨b, b1, b2, b3, eb⟩ := like_step (fu := fu) (n := n) (ns := ns) (k := j) (Z := Z) (low := low) (M := M) (w := w) h l1 l2 (by omega) (by omega)
        refine ⟨by rw [ec, decide_eq_true hc], m - b.length, _, _, by omega, eb, l ++ b, j + 1, rfl, rfl, l1.app b1, ?_, ?_, ?_, ?_⟩
        · rw [List.length_append]
          omega
        · rw [List.length_append]
          omega
        · omega
        · rw [List.length_append]
          omega
      · left
        rw [ec, decide_eq_false hc])
  have ec := like_test (fu := fu) (n := n) (ns := ns) (Z := Z) (low := low) (M := M) (w := w) (a := l) (k := j) (by omega)
  rw [ec] at f3
  have hd : ¬ ((l.length : Int) < (M : Int) - 2) := fun z => by
    rw [decide_eq_true z] at f3
    cases f3
  obtain ⟨r2, hr2, e4⟩ := draw_some (fu := fu) (n := n + 2) (ns := ns) (k := j) (m := 3) (Z := Z) h (by decide) (by omega)
  rw [show ((3 : Nat) : Int) = 3 from rfl, show n + 2 + 3 = n + 5 from rfl] at e4
  have mx : ∀ S, Bi.max.app [.int (w : Int), .int ((M : Int) - (r2 : Int))] S = .ok (.int ((M - r2 : Nat) : Int)) S := fun S => by
    show R.ok (D.int (if (M : Int) - r2 > w then (M : Int) - r2 else w)) S = _
    congr 2
    split <;> omega
  refine ⟨l.take (M - r2), w, j + 1, l1.take _, by rw [List.length_take]; omega, by rw [List.length_take]; omega, w1, w2, by omega, ?_⟩
  rw [run_go (env := [some (.scr ns), some (.loc 0), some (.int (low : Int)), some (.int (M : Int)), none, none]) G5 rfl rfl]
  simp only [c5]
  rw [xs_cons]
  simp only [x_set, e_op, e_var, e_call, e_lst, es_cons, es_nil, e_cst, List.getD_cons_zero, List.getD_cons_succ, List.cons_append, List.nil_append, slotR_some, bo]
  rw [seqR_ok (by simp)]
  simp only [bo]
  rw [e]
  simp only [bo, p_add, andThen_nx, List.replicate, List.set_cons_succ, List.set_cons_zero]
  rw [show (1 : Int) + ((w : Int) - 1) = (w : Int) by omega, xs_cons]
  simp only [x_set, e_var, e_call, es_cons, es_nil, e_cst, List.getD_cons_zero, List.getD_cons_succ, slotR_some, bo, e3, andThen_nx, List.set_cons_succ, List.set_cons_zero]
  rw [xs_cons, x_whl, f1, andThen_nx, xs_cons]
  simp only [x_ret, e_tup, e_sl, e_bi, e_op, eo_none, eo_some, e_var, e_call, es_cons, es_nil, e_cst, List.getD_cons_zero, List.getD_cons_succ, slotR_some, bo, e4, p_sub, mx, intO_int]
  rw [t_cut (by omega), cut_to]
  simp only [bo]
  rw [seqR_ok (by simp)]
  simp only [bo, andThen_ret, toD_ret]
  exact fin_len rfl
end
end SV
/-! SvW: the program's checks, windows, views. -/
namespace SV
open PySem
theorem strip_all {a : List Nat} (h : T3 a) : Txt.stripChars (tx a) (tx [97, 98, 99]) = tx [] := by
  unfold Txt.stripChars
  rw [PyProof.Rows.stripBy_eq]
  have hg : ∀ x ∈ a, (tx [97, 98, 99]).cps.contains x = true := fun x hx => by
    rcases h x hx with rfl | rfl | rfl <;> decide +kernel
  have tk : ∀ {l : List Nat} {p : Nat → Bool}, (∀ x ∈ l, p x = true) → l.takeWhile p = l := by
    intro l p
    induction l with
    | nil => exact fun _ => rfl
    | cons x l ih => exact fun z => by rw [List.takeWhile_cons_of_pos (z x List.mem_cons_self), ih fun y hy => z y (List.mem_cons_of_mem _ hy)]
  have e1 : stripLo (tx [97, 98, 99]).cps.contains true (tx a) = a.length := by
    show ((tx a).cps.toList.takeWhile _).length = _
    rw [tx_cps, tk hg]
  rw [e1]
  have e2 : ∀ j, (Builtin.Str.strSub (tx a) a.length j).cps.toList = [] := fun j => by
    rw [show ∀ (z : Str) (i j : Nat), (Builtin.Str.strSub z i j).cps.toList = (z.cps.toList.drop i).take (j - i) from fun z i j => by simp [Builtin.Str.strSub], tx_cps, List.drop_length, List.take_nil]
  generalize stripHi _ _ _ _ = j
  have e3 := e2 j
  cases hq : Builtin.Str.strSub (tx a) a.length j with
  | mk c =>
    rw [hq] at e3
    have : c = #[] := Array.toList_inj.mp e3
    rw [this]
    rfl
section
variable {fu n : Nat} {S : Store} {a b : List Nat}
theorem t_eq : cmA .eq (dt a) (dt b) S = .ok (.bl (decide (a = b))) S := by
  classical
  rw [q_eq (show Ok 30 ((dt a).rd S) from ok_str) (show Ok 30 ((dt b).rd S) from ok_str)]
  congr 2
  rw [decide_eq_decide]
  exact dt_inj
theorem t_ne : cmA .ne (dt a) (dt b) S = .ok (.bl (!decide (a = b))) S := by
  classical
  rw [q_ne (show Ok 30 ((dt a).rd S) from ok_str) (show Ok 30 ((dt b).rd S) from ok_str)]
  congr 3
  rw [decide_eq_decide]
  exact dt_inj
theorem t_isStr : Bi.isStr.app [dt a] S = .ok (.bl true) S := rfl
theorem i_isInt {i : Int} : Bi.isInt.app [.int i] S = .ok (.bl true) S := rfl
theorem i_isBool {i : Int} : Bi.isBool.app [.int i] S = .ok (.bl false) S := rfl
theorem t_strip (h : T3 a) (hz : a.length ≤ 16000000) : Mt.strip.app (dt a) [.str ("abc" : Str)] S = .ok (dt []) S := by
  rw [tx_abc]
  show (if okLen (tx a).length = true then R.ok (D.str (Txt.stripChars (tx a) (tx [97, 98, 99]))) S else .bad) = _
  rw [tx_len, if_pos (okLen_le' hz), strip_all h]
theorem r_letters {low most : Nat} (h : T3 a) (h1 : low ≤ a.length) (h2 : a.length ≤ most) (hm : most ≤ 1000) : run G fu (n + 1) 6 [dt a, .int (low : Int), .int (most : Int)] S = .ok (.bl true) S := by
  rw [run_go (env := [some (dt a), some (.int (low : Int)), some (.int (most : Int))]) G6 rfl rfl]
  simp only [c6]
  rw [xs_cons]
  simp only [x_ret, e_and, e_bi, e_chn, e_cmp, e_mth, e_glb, e_var, e_cst, es_cons, es_nil, List.getD_cons_zero, List.getD_cons_succ, slotR_some, bo, t_isStr, ifb_t]
  rw [t_len (by omega)]
  simp only [bo, q_le]
  rw [decide_eq_true (show (low : Int) ≤ (a.length : Int) by omega)]
  simp only [bo, ifb_t, q_le]
  rw [decide_eq_true (show (a.length : Int) ≤ (most : Int) by omega)]
  simp only [bo, ifb_t]
  rw [if_pos (show Mt.recv .strip (dt a) S = true from rfl)]
  rw [t_strip h (by omega)]
  simp only [bo]
  rw [tx_nil, t_eq]
  simp
theorem r_needText (h : T3 a) (h1 : 1 ≤ a.length) (h2 : a.length ≤ 12) : run G fu (n + 2) 7 [dt a] S = .ok .non S := by
  rw [run_go (env := [some (dt a)]) G7 rfl rfl]
  simp only [c7]
  rw [xs_cons]
  have e := r_letters (fu := fu) (n := n) (S := S) (low := 1) (most := 12) h h1 h2 (by decide)
  rw [show ((1 : Nat) : Int) = 1 from rfl, show ((12 : Nat) : Int) = 12 from rfl] at e
  simp only [x_ifs, e_not, e_call, e_glb, e_var, e_cst, es_cons, es_nil, List.getD_cons_zero, slotR_some, bo, e, ifb_t, ifb_f, xs_nil, andThen_nx, toD_nx]
  exact fin_self
theorem r_whole {w low most : Int} (h1 : low ≤ w) (h2 : w ≤ most) : run G fu (n + 1) 8 [.int w, .int low, .int most] S = .ok (.bl true) S := by
  rw [run_go (env := [some (.int w), some (.int low), some (.int most)]) G8 rfl rfl]
  simp only [c8]
  rw [xs_cons]
  simp only [x_ret, e_and, e_bi, e_not, e_chn, e_var, es_cons, es_nil, List.getD_cons_zero, List.getD_cons_succ, slotR_some, bo, i_isInt, i_isBool, ifb_t, ifb_f, q_le]
  rw [decide_eq_true h1, decide_eq_true h2]
  simp only [bo, ifb_t, andThen_ret, toD_ret]
  exact fin_self
theorem r_needWidth {w : Int} (h1 : 1 ≤ w) (h2 : w ≤ 4) : run G fu (n + 2) 9 [.int w] S = .ok .non S := by
  rw [run_go (env := [some (.int w)]) G9 rfl rfl]
  simp only [c9]
  rw [xs_cons]
  simp only [x_ifs, e_not, e_call, e_glb, e_var, e_cst, es_cons, es_nil, List.getD_cons_zero, slotR_some, bo]
  rw [r_whole h1 h2]
  simp only [bo, ifb_t, ifb_f, xs_nil, andThen_nx, toD_nx]
  exact fin_self
/-- a text and a width that go together -/
structure Fit (a : List Nat) (w : Nat) : Prop where
  t : T3 a
  l : a.length ≤ 12
  w1 : 1 ≤ w
  w4 : w ≤ 4
  lo : w ≤ a.length
  hi : a.length ≤ w + 8
theorem r_needSeen {w : Nat} (h : Fit a w) : run G fu (n + 3) 10 [dt a, .int (w : Int)] S = .ok .non S := by
  rw [run_go (env := [some (dt a), some (.int (w : Int))]) G10 rfl rfl]
  simp only [c10]
  have := h.l
  have := h.lo
  have := h.hi
  have := h.w1
  have := h.w4
  rw [xs_cons]
  simp only [x_expr, e_call, e_var, es_cons, es_nil, List.getD_cons_zero, List.getD_cons_succ, slotR_some, bo]
  rw [r_needText h.t (by omega) (by omega)]
  simp only [bo, andThen_nx]
  rw [xs_cons]
  simp only [x_expr, e_call, e_var, es_cons, es_nil, List.getD_cons_zero, List.getD_cons_succ, slotR_some, bo]
  rw [r_needWidth (by omega) (by omega)]
  simp only [bo, andThen_nx]
  rw [xs_cons]
  simp only [x_ifs, e_not, e_chn, e_op, e_bi, e_glb, e_var, e_cst, es_cons, es_nil, List.getD_cons_zero, List.getD_cons_succ, slotR_some, bo]
  rw [t_len (by omega)]
  simp only [bo, p_add, p_sub, q_le]
  rw [decide_eq_true (show (1 : Int) ≤ (a.length : Int) - (w : Int) + 1 by omega)]
  simp only [bo, ifb_t, q_le]
  rw [decide_eq_true (show (a.length : Int) - (w : Int) + 1 ≤ 9 by omega)]
  simp only [bo, ifb_t, ifb_f, xs_nil, andThen_nx, toD_nx]
  exact fin_self
/-- a piece -/
def pc (a : List Nat) (w i : Nat) : List Nat := (a.drop i).take w
def pcs (a : List Nat) (w m : Nat) : List (List Nat) := (List.range m).map (pc a w)
theorem rng_lc {st : D → Option Env} {fc fe : Env → Store → R D} {m : Nat} {lo : Int} (q : Nat → List Nat) (hm : m ≤ 1000) (h : ∀ i, i < m → ∃ env, st (.int (lo + (i : Int))) = some env ∧ fc env S = .ok (.bl true) S ∧ fe env S = .ok (dt (q i)) S) :
    lcR none st fc fe (rngD lo m) S = .ok (.lst (((List.range m).map q).map dt)) S := by
  have e := lcR_pure (st := st) (fc := fc) (fe := fe) (S := S) (items := rngD lo m) (fun _ => true) (fun d => match d with | .int j => dt (q (j - lo).toNat) | d => d) (by simp [rngD]; omega) (fun x hx => by
    obtain ⟨i, hi, rfl⟩ := List.mem_map.mp hx
    obtain ⟨env, h1, h2, h3⟩ := h i (List.mem_range.mp hi)
    refine ⟨env, h1, h2, fun _ => ?_⟩
    rw [h3]
    congr 3
    omega)
  rw [e]
  congr 2
  rw [List.filter_eq_self.mpr (fun _ _ => rfl)]
  unfold rngD
  rw [List.map_map, List.map_map]
  refine List.map_congr_left fun i _ => ?_
  show dt (q (lo + (i : Int) - lo).toNat) = dt (q i)
  congr 3
  omega
theorem r_windows {w : Nat} (h : Fit a w) : run G fu (n + 1) 11 [dt a, .int (w : Int)] S = .ok (.lst ((pcs a w (a.length - w + 1)).map dt)) S := by
  rw [run_go (env := [some (dt a), some (.int (w : Int)), none]) G11 rfl rfl]
  simp only [c11]
  have := h.l
  have := h.lo
  have := h.w4
  rw [xs_cons]
  simp only [x_ret, e_lc, ei_1, e_op, e_bi, e_var, e_cst, es_cons, es_nil, List.getD_cons_zero, List.getD_cons_succ, slotR_some, bo]
  rw [t_len (by omega)]
  simp only [bo, p_add, p_sub]
  rw [rngR_int (by omega)]
  simp only [bo]
  rw [show ((a.length : Int) - (w : Int) + 1).toNat = a.length - w + 1 by omega]
  rw [rng_lc (pc a w) (by omega) (fun i hi => ⟨_, rfl, ec_none, ?_⟩)]
  · simp only [bo, andThen_ret, toD_ret]
    exact fin_self
  · simp only [e_sl, e_op, e_var, eo_some, List.set_cons_succ, List.set_cons_zero, List.getD_cons_zero, List.getD_cons_succ, slotR_some, bo, p_add, intO_int]
    rw [t_cut (by omega), show (0 : Int) + (i : Int) = ((i : Nat) : Int) by omega, show ((i : Nat) : Int) + (w : Int) = ((i + w : Nat) : Int) by omega, cut_mid, Nat.add_sub_cancel_left]
    rfl
end
/-! ### sorted texts -/
/-- texts, sorted -/
def srt (l : List (List Nat)) : List D := sortD (l.map dt)
theorem keys_texts (l : List (List Nat)) : l.map dt = (l.map fun t => (Sum.inr (tx t) : SKey)).map kD := by
  rw [List.map_map]
  rfl
theorem srt_perm {l m : List (List Nat)} (p : l.Perm m) : srt l = srt m := by
  unfold srt
  rw [keys_texts, keys_texts]
  exact sort_keys (p.map _)
theorem pys_strs : ∀ {l : List (List Nat)}, D.pys (l.map dt) = l.map fun t => PyData.str (tx t)
  | [] => rfl
  | t :: l => by
    show D.pys (dt t :: l.map dt) = _
    rw [D.pys, pys_strs]
    rfl
theorem okSort_texts {l : List (List Nat)} (h : l.length ≤ 16000000) : okSort (l.map dt) = true := by
  have o := oks (n := 0) (l := l.map dt) fun d hd => by
    obtain ⟨t, _, rfl⟩ := List.mem_map.mp hd
    exact ok_str
  unfold okSort
  rw [sims_pures o.1, List.length_map, okLen_le' h, decide_eq_true (Nat.le_trans o.2 (by decide))]
  have a1 : allAlike (D.pys (l.map dt)) = true := by
    rw [pys_strs]
    unfold allAlike
    rw [List.all_eq_true]
    intro x hx
    rw [List.all_eq_true]
    intro y hy
    obtain ⟨t, _, rfl⟩ := List.mem_map.mp hx
    obtain ⟨u, _, rfl⟩ := List.mem_map.mp hy
    rfl
  have a2 : sortable (l.map dt) = true := by
    unfold sortable
    rw [Bool.or_eq_true]
    refine .inr ?_
    rw [List.all_eq_true]
    intro x hx
    obtain ⟨t, _, rfl⟩ := List.mem_map.mp hx
    rfl
  rw [a1, a2]
  rfl
section
variable {fu n : Nat} {S : Store} {a b : List Nat}
theorem r_view {w : Nat} (h : Fit a w) : run G fu (n + 4) 12 [dt a, .int (w : Int)] S = .ok (.tup [.int (w : Int), .tup (srt (pcs a w (a.length - w + 1)))]) S := by
  rw [run_go (env := [some (dt a), some (.int (w : Int))]) G12 rfl rfl]
  simp only [c12]
  have := h.l
  rw [xs_cons]
  simp only [x_expr, e_call, e_var, es_cons, es_nil, List.getD_cons_zero, List.getD_cons_succ, slotR_some, bo]
  rw [r_needSeen h]
  simp only [bo, andThen_nx]
  rw [xs_cons]
  simp only [x_ret, e_tup, e_bi, e_call, e_var, es_cons, es_nil, List.getD_cons_zero, List.getD_cons_succ, slotR_some, bo]
  rw [show n + 3 = (n + 2) + 1 from rfl, r_windows h]
  simp only [bo]
  have e1 : Bi.sorted.app [.lst ((pcs a w (a.length - w + 1)).map dt)] S = .ok (.lst (srt (pcs a w (a.length - w + 1)))) S := by
    show (if okSort ((pcs a w (a.length - w + 1)).map dt) = true then R.ok (D.lst (sortD ((pcs a w (a.length - w + 1)).map dt))) S else .bad) = _
    rw [if_pos (okSort_texts (by simp [pcs]; omega))]
    rfl
  have e2 : ∀ l, Bi.tuple.app [.lst l] S = .ok (.tup l) S := fun l => rfl
  rw [e1]
  simp only [bo]
  rw [e2]
  simp only [bo]
  rw [seqR_ok (by simp)]
  simp only [bo, andThen_ret, toD_ret]
  exact fin_self
theorem ok_srt (l : List (List Nat)) : ∀ d ∈ srt l, Ok 0 d := fun d hd => by
  obtain ⟨t, _, rfl⟩ := List.mem_map.mp ((sortD_perm _).mem_iff.mp hd)
  exact ok_str
theorem ok_view {w : Nat} (l : List (List Nat)) : Ok 30 (.tup [.int (w : Int), .tup (srt l)]) := by
  refine (ok_tup (n := 1) fun d hd => ?_).le (by decide)
  rcases List.mem_cons.mp hd with rfl | hd
  · exact ok_int
  · rw [List.mem_singleton] at hd
    subst hd
    exact ok_tup (ok_srt l)
theorem r_alike {w : Nat} (h : Fit a w) (k : Fit b w) (p : (pcs a w (a.length - w + 1)).Perm (pcs b w (b.length - w + 1))) : run G fu (n + 5) 18 [dt a, dt b, .int (w : Int)] S = .ok (.bl true) S := by
  classical
  rw [run_go (env := [some (dt a), some (dt b), some (.int (w : Int))]) G18 rfl rfl]
  simp only [c18]
  rw [xs_cons]
  simp only [x_ret, e_cmp, e_call, e_var, es_cons, es_nil, List.getD_cons_zero, List.getD_cons_succ, slotR_some, bo]
  rw [r_view h]
  simp only [bo]
  rw [r_view k]
  simp only [bo]
  rw [srt_perm p]
  have o := ok_view (w := w) (pcs b w (b.length - w + 1))
  rw [q_eq (x := .tup [.int (w : Int), .tup (srt (pcs b w (b.length - w + 1)))]) (y := .tup [.int (w : Int), .tup (srt (pcs b w (b.length - w + 1)))]) (S := S) o o, decide_eq_true rfl]
  simp only [bo, andThen_ret, toD_ret]
  exact fin_self
end
end SV
/-! SvEx: exchanges, turns: what the program tells. -/
namespace SV
open PySem
theorem get_end (S : Store) (c : Cell) : (S ++ [c])[S.length]? = some c := by simp
theorem set_end (S : Store) (c c' : Cell) : (S ++ [c]).set S.length c' = S ++ [c'] := by
  rw [List.set_append_right _ _ (Nat.le_refl _), Nat.sub_self]
  rfl
theorem app_end {S : Store} {l : List D} {x : D} (h : l.length ≤ 16000000) : Mt.append.app (.loc S.length) [x] (S ++ [.lst l]) = .ok .non (S ++ [.lst (l ++ [x])]) := by
  show (match (S ++ [Cell.lst l])[S.length]? with | some (.lst l) => if okLen l.length then R.ok D.non ((S ++ [Cell.lst _]).set S.length (.lst (l ++ [x]))) else .bad | _ => .bad) = _
  rw [get_end]
  dsimp only
  rw [if_pos (okLen_le' h), set_end]
theorem ext_end {S : Store} {l m : List D} (h : l.length + m.length ≤ 16000000) : Mt.extend.app (.loc S.length) [.lst m] (S ++ [.lst l]) = .ok .non (S ++ [.lst (l ++ m)]) := by
  show (match (S ++ [Cell.lst l])[S.length]? with | some (.lst l) => if okLen (l.length + m.length) then R.ok D.non ((S ++ [Cell.lst _]).set S.length (.lst (l ++ m))) else .bad | _ => .bad) = _
  rw [get_end]
  dsimp only
  rw [if_pos (okLen_le' h), set_end]
theorem recv_app {S : Store} {l : List D} : Mt.recv .append (.loc S.length) (S ++ [.lst l]) = true := by
  show (match (S ++ [Cell.lst l])[S.length]? with | some (.lst _) => true | _ => false) = true
  rw [get_end]
theorem recv_ext {S : Store} {l : List D} : Mt.recv .extend (.loc S.length) (S ++ [.lst l]) = true := by
  show (match (S ++ [Cell.lst l])[S.length]? with | some (.lst _) => true | _ => false) = true
  rw [get_end]
theorem snap_end {S : Store} {l : List D} : snapR (some (.loc S.length)) (S ++ [.lst l]) = .ok (.lst l) (S ++ [.dead]) := by
  rw [snapR_loc (get_end S _), set_end]
theorem rng_at {lo : Int} {m i : Nat} {x : D} (h : (rngD lo m)[i]? = some x) : i < m ∧ x = .int (lo + (i : Int)) := by
  unfold rngD at h
  rw [List.getElem?_map] at h
  have hi : i < m := by
    cases q : (List.range m)[i]? with
    | none => rw [q] at h; cases h
    | some y => simpa using (List.getElem?_eq_some_iff.mp q).1
  rw [List.getElem?_range hi] at h
  exact ⟨hi, (Option.some.inj h).symm⟩
theorem range_flat {α : Type} (g : Nat → List α) (i : Nat) : (List.range (i + 1)).flatMap g = (List.range i).flatMap g ++ g i := by
  rw [List.range_succ, List.flatMap_append]
  simp
/-- the text with two stretches exchanged -/
def exch (a : List Nat) (i k j l : Nat) : List Nat := a.take i ++ (a.drop k).take (l - k) ++ (a.drop j).take (k - j) ++ (a.drop i).take (j - i) ++ a.drop l
def exIn (a : List Nat) (Q : List (List Nat)) (i k j : Nat) (l : Nat) : List (List Nat) := if Q.getD j [] = Q.getD (k + 1 + l) [] then [exch a i k j (k + 1 + l)] else []
def exAt (a : List Nat) (Q : List (List Nat)) (i k : Nat) (j : Nat) : List (List Nat) := (List.range (Q.length - (k + 1))).flatMap (exIn a Q i k (i + 1 + j))
section
variable {fu n : Nat} {S : Store} {a : List Nat} {Q : List (List Nat)}
theorem at_row {j : Nat} (h : j < Q.length) : atD (.lst (Q.map dt)) (.int (j : Int)) S = .ok (dt (Q.getD j [])) S := by
  show (match L2.atI (Q.map dt) (j : Int) with | some d => R.ok d S | none => .bad) = _
  rw [atI_get (by simpa using h)]
  simp [List.getD_eq_getElem?_getD, h]
theorem len_row : Bi.len.app [.lst (Q.map dt)] S = .ok (.int (Q.length : Int)) S := by
  show R.ok (D.int (Q.map dt).length) S = _
  rw [List.length_map]
theorem exch_len {i k j l : Nat} : (exch a i k j l).length ≤ 5 * a.length := by
  unfold exch
  simp only [List.length_append, List.length_take, List.length_drop]
  omega
theorem exIn_len {i k j l : Nat} : (exIn a Q i k j l).length ≤ 1 := by
  unfold exIn
  split <;> simp
/-- the inner body -/
abbrev exBody : Cs := .cons (.ifs (.cmp .eq (.idx (.var 1) (.var 5)) (.idx (.var 1) (.var 6))) (.cons (.expr (.mth .append (.var 4) (.cons (.op .add (.op .add (.op .add (.op .add (.sl (.var 0) .none (.some (.var 2))) (.sl (.var 0) (.some (.var 3)) (.some (.var 6)))) (.sl (.var 0) (.some (.var 5)) (.some (.var 3)))) (.sl (.var 0) (.some (.var 2)) (.some (.var 5)))) (.sl (.var 0) (.some (.var 6)) .none)) .nil))) .nil) (.nil)) .nil
abbrev exEnv (a : List Nat) (Q : List (List Nat)) (i k : Nat) (S : Store) (o p : Option D) : Env := [some (dt a), some (.lst (Q.map dt)), some (.int (i : Int)), some (.int (k : Int)), some (.loc S.length), o, p]
theorem ex_body {i k j l : Nat} {acc : List (List Nat)} (ha : a.length ≤ 1000) (hj : j < Q.length) (hl : l < Q.length) (hacc : acc.length ≤ 100000) :
    xcs (run G fu n) fu exBody (exEnv a Q i k S (some (.int (j : Int))) (some (.int (l : Int)))) (S ++ [.lst (acc.map dt)]) =
      .ok (.nx (exEnv a Q i k S (some (.int (j : Int))) (some (.int (l : Int))))) (S ++ [.lst ((acc ++ (if Q.getD j [] = Q.getD l [] then [exch a i k j l] else [])).map dt)]) := by
  unfold exBody exEnv
  rw [xs_cons]
  simp only [x_ifs, e_cmp, e_idx, e_var, List.getD_cons_zero, List.getD_cons_succ, slotR_some, bo]
  rw [at_row hj]
  simp only [bo]
  rw [at_row hl]
  simp only [bo]
  rw [t_eq]
  simp only [bo]
  by_cases c : Q.getD j [] = Q.getD l []
  · rw [decide_eq_true c, if_pos c]
    simp only [ifb_t]
    rw [xs_cons]
    simp only [x_expr, e_mth, e_var, List.getD_cons_zero, List.getD_cons_succ, slotR_some, bo]
    rw [if_pos recv_app]
    simp only [es_cons, es_nil, e_op, e_sl, e_var, eo_some, eo_none, List.getD_cons_zero, List.getD_cons_succ, slotR_some, bo, intO_int]
    rw [t_cut (by omega), cut_to]
    simp only [bo]
    rw [t_cut (by omega), cut_mid]
    simp only [bo]
    rw [t_add (by simp only [List.length_take, List.length_drop]; omega)]
    simp only [bo]
    rw [t_cut (by omega), cut_mid]
    simp only [bo]
    rw [t_add (by simp only [List.length_append, List.length_take, List.length_drop]; omega)]
    simp only [bo]
    rw [t_cut (by omega), cut_mid]
    simp only [bo]
    rw [t_add (by simp only [List.length_append, List.length_take, List.length_drop]; omega)]
    simp only [bo]
    rw [t_cut (by omega), cut_from]
    simp only [bo]
    rw [t_add (by simp only [List.length_append, List.length_take, List.length_drop]; omega)]
    simp only [bo]
    rw [app_end (by rw [List.length_map]; omega)]
    simp only [bo, andThen_nx, xs_nil, List.map_append, List.map_cons, List.map_nil]
    rfl
  · rw [decide_eq_false c, if_neg c, List.append_nil]
    simp only [ifb_f, xs_nil, andThen_nx]
theorem ex_inner {i k j m : Nat} {o : Option D} {acc : List (List Nat)} (ha : a.length ≤ 1000) (hj : j < Q.length) (hm : m ≤ Q.length - (k + 1)) (hacc : acc.length + m ≤ 100000) (g : Nat → List (List Nat)) (hg : ∀ l, g l = if Q.getD j [] = Q.getD (k + 1 + l) [] then [exch a i k j (k + 1 + l)] else []) :
    ∃ o2, forLoop none (Tg.one 6).set (fun env S => xcs (run G fu n) fu exBody env S) (rngD ((k + 1 : Nat) : Int) m) (exEnv a Q i k S (some (.int (j : Int))) o) (S ++ [.lst (acc.map dt)]) =
      .ok (.nx (exEnv a Q i k S (some (.int (j : Int))) o2)) (S ++ [.lst ((acc ++ (List.range m).flatMap g).map dt)]) := by
  obtain ⟨env2, S2, h1, h2⟩ := for_inv (items := rngD ((k + 1 : Nat) : Int) m) (st := (Tg.one 6).set) (f := fun env S => xcs (run G fu n) fu exBody env S) (env := exEnv a Q i k S (some (.int (j : Int))) o) (S := S ++ [.lst (acc.map dt)])
    (fun t env S' => ∃ o2, env = exEnv a Q i k S (some (.int (j : Int))) o2 ∧ S' = S ++ [.lst ((acc ++ (List.range t).flatMap g).map dt)] ∧ ((List.range t).flatMap g).length ≤ t)
    ⟨o, rfl, by simp, by simp⟩ (by
      rintro t x env S' hx ⟨o2, rfl, rfl, ht⟩
      obtain ⟨lt, rfl⟩ := rng_at hx
      have el : ((k + 1 : Nat) : Int) + (t : Int) = ((k + 1 + t : Nat) : Int) := by omega
      refine ⟨_, _, _, rfl, ?_, some (.int ((k + 1 + t : Nat) : Int)), rfl, rfl, ?_⟩
      · rw [range_flat, ← List.append_assoc, hg, el]
        exact ex_body ha hj (by omega) (by rw [List.length_append]; omega)
      · rw [range_flat, List.length_append, hg]
        split
        · simp only [List.length_cons, List.length_nil]
          omega
        · simp only [List.length_nil]
          omega)
  rw [show (rngD ((k + 1 : Nat) : Int) m).length = m by simp [rngD]] at h2
  obtain ⟨o2, rfl, rfl, -⟩ := h2
  exact ⟨o2, h1⟩
end
end SV
/-! SvEx2: exchanges_at, exchanges_of, turns_of. -/
namespace SV
open PySem
mutual
theorem lo_mono {n m : Nat} (h : n ≤ m) : ∀ {d : D}, D.lo n d = true → D.lo m d = true
  | .non, _ => rfl
  | .bl _, _ => rfl
  | .int _, _ => rfl
  | .str _, _ => rfl
  | .scr _, _ => rfl
  | .fn _, _ => rfl
  | .loc k, z => by
    unfold D.lo at z ⊢
    have := of_decide_eq_true z
    exact decide_eq_true (by omega)
  | .tup l, z => by
    unfold D.lo at z ⊢
    exact los_mono h z
  | .lst l, z => by
    unfold D.lo at z ⊢
    exact los_mono h z
theorem los_mono {n m : Nat} (h : n ≤ m) : ∀ {l : List D}, D.los n l = true → D.los m l = true
  | [], _ => rfl
  | d :: l, z => by
    unfold D.los at z ⊢
    rw [Bool.and_eq_true] at z ⊢
    exact ⟨lo_mono h z.1, los_mono h z.2⟩
end
theorem cell_mono {n m : Nat} (h : n ≤ m) : ∀ {c : Cell}, c.lo n = true → c.lo m = true
  | .lst l, z => los_mono h z
  | .dead, _ => rfl
  | .dct l, z => by
    unfold Cell.lo at z ⊢
    rw [List.all_eq_true] at z ⊢
    intro p hp
    have := z p hp
    rw [Bool.and_eq_true] at this ⊢
    exact ⟨lo_mono h this.1, lo_mono h this.2⟩
  | .obj _ l, z => by
    unfold Cell.lo at z ⊢
    rw [List.all_eq_true] at z ⊢
    exact fun p hp => lo_mono h (z p hp)
theorem los_strs {n : Nat} : ∀ {l : List (List Nat)}, D.los n (l.map dt) = true
  | [] => rfl
  | t :: l => by
    show D.los n (dt t :: l.map dt) = true
    unfold D.los
    rw [los_strs]
    rfl
theorem lo_strs {n : Nat} {l : List (List Nat)} : D.lo n (.lst (l.map dt)) = true := by
  unfold D.lo
  exact los_strs
theorem Wf.strs {S : Store} {l : List (List Nat)} (w : Wf S) : Wf (S ++ [.lst (l.map dt)]) := by
  unfold Wf at w ⊢
  rw [List.all_append, Bool.and_eq_true]
  refine ⟨?_, ?_⟩
  · rw [List.all_eq_true] at w ⊢
    exact fun c hc => cell_mono (by simp) (w c hc)
  · simp [Cell.lo, los_strs]
/-- all that exchanges_at tells -/
def exs (a : List Nat) (Q : List (List Nat)) (i k : Nat) : List (List Nat) := (List.range (k - i)).flatMap (exAt a Q i k)
theorem flat_len {α : Type} {g : Nat → List α} {c : Nat} (h : ∀ i, (g i).length ≤ c) : ∀ m, ((List.range m).flatMap g).length ≤ m * c
  | 0 => by simp
  | m + 1 => by
    rw [range_flat, List.length_append, Nat.succ_mul]
    have := flat_len h m
    have := h m
    omega
theorem exAt_len {a : List Nat} {Q : List (List Nat)} {i k j : Nat} : (exAt a Q i k j).length ≤ Q.length := by
  have := flat_len (g := exIn a Q i k (i + 1 + j)) (c := 1) (fun _ => exIn_len) (Q.length - (k + 1))
  unfold exAt
  omega
section
variable {fu n : Nat} {S : Store} {a : List Nat} {Q : List (List Nat)}
theorem r_exAt {i k : Nat} (w : Wf S) (ha : a.length ≤ 1000) (hk : k < Q.length) (hQ : Q.length ≤ 100) (hi : i ≤ k) :
    run G fu (n + 1) 13 [dt a, .lst (Q.map dt), .int (i : Int), .int (k : Int)] S = .ok (.lst ((exs a Q i k).map dt)) S := by
  rw [run_go (env := [some (dt a), some (.lst (Q.map dt)), some (.int (i : Int)), some (.int (k : Int)), none, none, none]) G13 rfl rfl]
  simp only [c13]
  rw [xs_cons]
  simp only [x_set, e_cell, e_lst, es_nil, bo]
  rw [seqR_ok (by simp)]
  simp only [bo, cellR_lst, andThen_nx, List.set_cons_succ, List.set_cons_zero]
  rw [xs_cons]
  simp only [x_for, ei_2, e_op, e_var, e_cst, List.getD_cons_zero, List.getD_cons_succ, slotR_some, bo, p_add]
  rw [rng2R_int (by omega) (by omega)]
  simp only [bo]
  rw [show ((k : Int) + 1 - ((i : Int) + 1)).toNat = k - i by omega]
  obtain ⟨env2, S2, h1, h2⟩ := for_inv (items := rngD ((i : Int) + 1) (k - i)) (st := (Tg.one 5).set)
    (f := fun env S => xcs (run G fu n) fu (.cons (.for (.one 6) (.rng2 (.op .add (.var 3) (.cst (.int 1))) (.bi .len (.cons (.var 1) .nil))) exBody) .nil) env S) (env := exEnv a Q i k S none none) (S := S ++ [.lst []])
    (fun t env S' => ∃ o o2, env = exEnv a Q i k S o o2 ∧ S' = S ++ [.lst (((List.range t).flatMap (exAt a Q i k)).map dt)])
    ⟨none, none, rfl, by simp⟩ (by
      rintro t x env S' hx ⟨o, o2, rfl, rfl⟩
      obtain ⟨lt, rfl⟩ := rng_at hx
      have el : (i : Int) + 1 + (t : Int) = ((i + 1 + t : Nat) : Int) := by omega
      have bl := flat_len (g := exAt a Q i k) (c := 100) (fun j => Nat.le_trans exAt_len hQ) t
      obtain ⟨o3, e3⟩ := ex_inner (fu := fu) (n := n) (S := S) (a := a) (Q := Q) (i := i) (k := k) (j := i + 1 + t) (m := Q.length - (k + 1)) (o := o2) (acc := (List.range t).flatMap (exAt a Q i k)) ha (by omega) (Nat.le_refl _) (by omega) (exIn a Q i k (i + 1 + t)) (fun l => rfl)
      refine ⟨exEnv a Q i k S (some (.int ((i + 1 + t : Nat) : Int))) o2, _, _, by rw [el]; rfl, ?_, some (.int ((i + 1 + t : Nat) : Int)), o3, rfl, rfl⟩
      rw [xs_cons]
      simp only [x_for, ei_2, e_op, e_bi, e_var, e_cst, es_cons, es_nil, List.getD_cons_zero, List.getD_cons_succ, slotR_some, bo, p_add]
      rw [len_row]
      simp only [bo]
      rw [rng2R_int (by omega) (by omega)]
      simp only [bo]
      rw [show ((Q.length : Int) - ((k : Int) + 1)).toNat = Q.length - (k + 1) by omega, show (k : Int) + 1 = ((k + 1 : Nat) : Int) by omega, e3]
      simp only [andThen_nx, xs_nil]
      rw [range_flat]
      rfl)
  rw [show (rngD ((i : Int) + 1) (k - i)).length = k - i by simp [rngD]] at h2
  obtain ⟨o, o2, rfl, rfl⟩ := h2
  have h1' : forLoop none (Tg.one 5).set (fun env S => xcs (run G fu n) fu (.cons (.for (.one 6) (.rng2 (.op .add (.var 3) (.cst (.int 1))) (.bi .len (.cons (.var 1) .nil))) exBody) .nil) env S) (rngD ((i : Int) + 1) (k - i)) [some (dt a), some (.lst (Q.map dt)), some (.int (i : Int)), some (.int (k : Int)), some (.loc S.length), none, none] (S ++ [.lst []]) = _ := h1
  rw [h1', andThen_nx, xs_cons]
  simp only [x_ret, e_snap, List.getD_cons_zero, List.getD_cons_succ]
  rw [snap_end]
  simp only [bo, andThen_ret, toD_ret]
  exact fin_more w lo_strs
end
end SV
/-! SvEx3: exchanges_of, turns_of, next_to, exchanged. -/
namespace SV
open PySem
def ofIn (a : List Nat) (Q : List (List Nat)) (i : Nat) (k : Nat) : List (List Nat) := if Q.getD i [] = Q.getD (i + 1 + k) [] then exs a Q i (i + 1 + k) else []
def ofAt (a : List Nat) (Q : List (List Nat)) (i : Nat) : List (List Nat) := (List.range (Q.length - (i + 1))).flatMap (ofIn a Q i)
/-- all that exchanges_of tells -/
def exOf (a : List Nat) (w : Nat) : List (List Nat) := (List.range (pcs a (w - 1) (a.length - w + 2)).length).flatMap (ofAt a (pcs a (w - 1) (a.length - w + 2)))
theorem exs_len {a : List Nat} {Q : List (List Nat)} {i k : Nat} (hk : k ≤ 20) (hQ : Q.length ≤ 20) : (exs a Q i k).length ≤ 400 := by
  have := flat_len (g := exAt a Q i k) (c := 20) (fun j => Nat.le_trans exAt_len hQ) (k - i)
  unfold exs
  have : (k - i) * 20 ≤ 20 * 20 := Nat.mul_le_mul_right _ (by omega)
  omega
theorem ofIn_len {a : List Nat} {Q : List (List Nat)} {i k : Nat} (hk : i + 1 + k ≤ 20) (hQ : Q.length ≤ 20) : (ofIn a Q i k).length ≤ 400 := by
  unfold ofIn
  split
  · exact exs_len hk hQ
  · simp
theorem flat_lenB {α : Type} {g : Nat → List α} {c : Nat} : ∀ m, (∀ i, i < m → (g i).length ≤ c) → ((List.range m).flatMap g).length ≤ m * c
  | 0, _ => by simp
  | m + 1, h => by
    rw [range_flat, List.length_append, Nat.succ_mul]
    have := flat_lenB m fun i hi => h i (by omega)
    have := h m (by omega)
    omega
section
variable {fu n : Nat} {S : Store} {a : List Nat} {Q : List (List Nat)}
abbrev ofBody : Cs := .cons (.ifs (.cmp .eq (.idx (.var 3) (.var 6)) (.idx (.var 3) (.var 7))) (.cons (.expr (.mth .extend (.var 5) (.cons (.call 13 (.cons (.var 0) (.cons (.var 3) (.cons (.var 6) (.cons (.var 7) .nil))))) .nil))) .nil) (.nil)) .nil
abbrev ofEnv (a : List Nat) (w : Nat) (Q : List (List Nat)) (S : Store) (o p : Option D) : Env := [some (dt a), some (.int (w : Int)), some (.int (Q.length : Int)), some (.lst (Q.map dt)), none, some (.loc S.length), o, p]
theorem of_body {w i k : Nat} {acc : List (List Nat)} (wf : Wf S) (ha : a.length ≤ 1000) (hi : i < Q.length) (hk : k < Q.length) (hik : i ≤ k) (hQ : Q.length ≤ 20) (hacc : acc.length ≤ 1000000) :
    xcs (run G fu (n + 1)) fu ofBody (ofEnv a w Q S (some (.int (i : Int))) (some (.int (k : Int)))) (S ++ [.lst (acc.map dt)]) =
      .ok (.nx (ofEnv a w Q S (some (.int (i : Int))) (some (.int (k : Int))))) (S ++ [.lst ((acc ++ (if Q.getD i [] = Q.getD k [] then exs a Q i k else [])).map dt)]) := by
  unfold ofBody ofEnv
  rw [xs_cons]
  simp only [x_ifs, e_cmp, e_idx, e_var, List.getD_cons_zero, List.getD_cons_succ, slotR_some, bo]
  rw [at_row hi]
  simp only [bo]
  rw [at_row hk]
  simp only [bo]
  rw [t_eq]
  simp only [bo]
  by_cases c : Q.getD i [] = Q.getD k []
  · rw [decide_eq_true c, if_pos c]
    simp only [ifb_t]
    rw [xs_cons]
    simp only [x_expr, e_mth, e_var, List.getD_cons_zero, List.getD_cons_succ, slotR_some, bo]
    rw [if_pos recv_ext]
    simp only [es_cons, es_nil, e_call, e_var, List.getD_cons_zero, List.getD_cons_succ, slotR_some, bo]
    rw [r_exAt wf.strs ha hk (by omega) hik]
    simp only [bo]
    have := exs_len (a := a) (Q := Q) (i := i) (k := k) (by omega) hQ
    rw [ext_end (by rw [List.length_map, List.length_map]; omega)]
    simp only [bo, andThen_nx, xs_nil, List.map_append]
  · rw [decide_eq_false c, if_neg c, List.append_nil]
    simp only [ifb_f, xs_nil, andThen_nx]
theorem of_inner {w i m : Nat} {o : Option D} {acc : List (List Nat)} (wf : Wf S) (ha : a.length ≤ 1000) (hi : i < Q.length) (hQ : Q.length ≤ 20) (hm : m ≤ Q.length - (i + 1)) (hacc : acc.length ≤ 100000) :
    ∃ o2, forLoop none (Tg.one 7).set (fun env S => xcs (run G fu (n + 1)) fu ofBody env S) (rngD ((i : Int) + 1) m) (ofEnv a w Q S (some (.int (i : Int))) o) (S ++ [.lst (acc.map dt)]) =
      .ok (.nx (ofEnv a w Q S (some (.int (i : Int))) o2)) (S ++ [.lst ((acc ++ (List.range m).flatMap (ofIn a Q i)).map dt)]) := by
  obtain ⟨env2, S2, h1, h2⟩ := for_inv (items := rngD ((i : Int) + 1) m) (st := (Tg.one 7).set) (f := fun env S => xcs (run G fu (n + 1)) fu ofBody env S) (env := ofEnv a w Q S (some (.int (i : Int))) o) (S := S ++ [.lst (acc.map dt)])
    (fun t env S' => ∃ o2, env = ofEnv a w Q S (some (.int (i : Int))) o2 ∧ S' = S ++ [.lst ((acc ++ (List.range t).flatMap (ofIn a Q i)).map dt)])
    ⟨o, rfl, by simp⟩ (by
      rintro t x env S' hx ⟨o2, rfl, rfl⟩
      obtain ⟨lt, rfl⟩ := rng_at hx
      have el : (i : Int) + 1 + (t : Int) = ((i + 1 + t : Nat) : Int) := by omega
      have bl := flat_lenB (g := ofIn a Q i) (c := 400) t fun j hj => ofIn_len (by omega) hQ
      refine ⟨_, _, _, rfl, ?_, some (.int ((i + 1 + t : Nat) : Int)), rfl, rfl⟩
      rw [range_flat, ← List.append_assoc, el]
      exact of_body wf ha hi (by omega) (by omega) hQ (by rw [List.length_append]; omega))
  rw [show (rngD ((i : Int) + 1) m).length = m by simp [rngD]] at h2
  obtain ⟨o2, rfl, rfl⟩ := h2
  exact ⟨o2, h1⟩
theorem pcs_len (a : List Nat) (w m : Nat) : (pcs a w m).length = m := by simp [pcs]
theorem r_exOf {w : Nat} (wf : Wf S) (h : Fit a w) : run G fu (n + 2) 14 [dt a, .int (w : Int)] S = .ok (.lst ((exOf a w).map dt)) S := by
  have := h.l
  have := h.lo
  have := h.w1
  have := h.w4
  have := h.hi
  rw [run_go (env := [some (dt a), some (.int (w : Int)), none, none, none, none, none, none]) G14 rfl rfl]
  simp only [c14]
  rw [xs_cons]
  simp only [x_set, e_op, e_bi, e_var, e_cst, es_cons, es_nil, List.getD_cons_zero, List.getD_cons_succ, slotR_some, bo]
  rw [t_len (by omega)]
  simp only [bo, p_add, p_sub, andThen_nx, List.set_cons_succ, List.set_cons_zero]
  rw [show (a.length : Int) - (w : Int) + 2 = ((a.length - w + 2 : Nat) : Int) by omega, xs_cons]
  simp only [x_set, e_lc, ei_1, e_var, List.getD_cons_zero, List.getD_cons_succ, slotR_some, bo]
  rw [rngR_int (by omega)]
  simp only [bo]
  rw [Int.toNat_natCast]
  rw [rng_lc (pc a (w - 1)) (by omega) (fun i hi => ⟨_, rfl, ec_none, by
    simp only [e_sl, e_op, e_var, e_cst, eo_some, List.set_cons_succ, List.set_cons_zero, List.getD_cons_zero, List.getD_cons_succ, slotR_some, bo, p_add, p_sub, intO_int]
    rw [t_cut (by omega), show (0 : Int) + (i : Int) = ((i : Nat) : Int) by omega, show ((i : Nat) : Int) + (w : Int) - 1 = ((i + (w - 1) : Nat) : Int) by omega, cut_mid, Nat.add_sub_cancel_left]
    rfl⟩)]
  simp only [bo, andThen_nx, List.set_cons_succ, List.set_cons_zero]
  rw [xs_cons]
  simp only [x_set, e_cell, e_lst, es_nil, bo]
  rw [seqR_ok (by simp)]
  simp only [bo, cellR_lst, andThen_nx, List.set_cons_succ, List.set_cons_zero]
  rw [xs_cons]
  simp only [x_for, ei_1, e_var, List.getD_cons_zero, List.getD_cons_succ, slotR_some, bo]
  rw [rngR_int (by omega)]
  simp only [bo]
  rw [Int.toNat_natCast]
  have hP : (List.range (a.length - w + 2)).map (pc a (w - 1)) = pcs a (w - 1) (a.length - w + 2) := rfl
  rw [hP]
  have hL : a.length - w + 2 = (pcs a (w - 1) (a.length - w + 2)).length := (pcs_len _ _ _).symm
  have hE : exOf a w = (List.range (a.length - w + 2)).flatMap (ofAt a (pcs a (w - 1) (a.length - w + 2))) := by
    unfold exOf
    rw [← hL]
  rw [hE]
  have hQ : (pcs a (w - 1) (a.length - w + 2)).length ≤ 20 := by omega
  generalize hq : pcs a (w - 1) (a.length - w + 2) = Q at hQ hL ⊢
  rw [hL]
  obtain ⟨env2, S2, h1, h2⟩ := for_inv (items := rngD 0 Q.length) (st := (Tg.one 6).set)
    (f := fun env S => xcs (run G fu (n + 1)) fu (.cons (.for (.one 7) (.rng2 (.op .add (.var 6) (.cst (.int 1))) (.var 2)) ofBody) .nil) env S) (env := ofEnv a w Q S none none) (S := S ++ [.lst []])
    (fun t env S' => ∃ o o2, env = ofEnv a w Q S o o2 ∧ S' = S ++ [.lst (((List.range t).flatMap (ofAt a Q)).map dt)])
    ⟨none, none, rfl, by simp⟩ (by
      rintro t x env S' hx ⟨o, o2, rfl, rfl⟩
      obtain ⟨lt, rfl⟩ := rng_at hx
      have bl := flat_lenB (g := ofAt a Q) (c := 8000) t (fun j hj => by
        have := flat_lenB (g := ofIn a Q j) (c := 400) (Q.length - (j + 1)) fun l hl => ofIn_len (by omega) hQ
        unfold ofAt
        omega)
      obtain ⟨o3, e3⟩ := of_inner (fu := fu) (n := n) (S := S) (a := a) (w := w) (Q := Q) (i := t) (m := Q.length - (t + 1)) (o := o2) (acc := (List.range t).flatMap (ofAt a Q)) wf (by omega) lt hQ (Nat.le_refl _) (by omega)
      refine ⟨ofEnv a w Q S (some (.int (t : Int))) o2, _, _, by rw [show (0 : Int) + (t : Int) = (t : Int) by omega]; rfl, ?_, some (.int (t : Int)), o3, rfl, rfl⟩
      rw [xs_cons]
      simp only [x_for, ei_2, e_op, e_var, e_cst, List.getD_cons_zero, List.getD_cons_succ, slotR_some, bo, p_add]
      rw [rng2R_int (by omega) (by omega)]
      simp only [bo]
      rw [show ((Q.length : Int) - ((t : Int) + 1)).toNat = Q.length - (t + 1) by omega, e3]
      simp only [andThen_nx, xs_nil]
      rw [range_flat]
      rfl)
  rw [show (rngD 0 Q.length).length = Q.length by simp [rngD]] at h2
  obtain ⟨o, o2, rfl, rfl⟩ := h2
  have h1' : forLoop none (Tg.one 6).set (fun env S => xcs (run G fu (n + 1)) fu (.cons (.for (.one 7) (.rng2 (.op .add (.var 6) (.cst (.int 1))) (.var 2)) ofBody) .nil) env S) (rngD 0 Q.length) [some (dt a), some (.int (w : Int)), some (.int (Q.length : Int)), some (.lst (Q.map dt)), none, some (.loc S.length), none, none] (S ++ [.lst []]) = _ := h1
  rw [h1', andThen_nx, xs_cons]
  simp only [x_ret, e_snap, List.getD_cons_zero, List.getD_cons_succ]
  rw [snap_end]
  simp only [bo, andThen_ret, toD_ret]
  exact fin_more wf lo_strs
/-- the ring of a text turned -/
def turn (a : List Nat) (w i : Nat) : List Nat := (a.drop i).take (a.length - w + 1 - i) ++ a.take i ++ (a.drop i).take (w - 1)
def turns (a : List Nat) (w : Nat) : List (List Nat) := if a.take (w - 1) = a.drop (a.length - w + 1) then (List.range (a.length - w)).map fun i => turn a w (i + 1) else []
theorem r_turns {w : Nat} (h : Fit a w) : run G fu (n + 1) 15 [dt a, .int (w : Int)] S = .ok (.lst ((turns a w).map dt)) S := by
  have := h.l
  have := h.lo
  have := h.w1
  have := h.w4
  have := h.hi
  rw [run_go (env := [some (dt a), some (.int (w : Int)), none, none]) G15 rfl rfl]
  simp only [c15]
  rw [xs_cons]
  simp only [x_set, e_op, e_bi, e_var, e_cst, es_cons, es_nil, List.getD_cons_zero, List.getD_cons_succ, slotR_some, bo]
  rw [t_len (by omega)]
  simp only [bo, p_add, p_sub, andThen_nx, List.set_cons_succ, List.set_cons_zero]
  rw [show (a.length : Int) - (w : Int) + 1 = ((a.length - w + 1 : Nat) : Int) by omega, xs_cons]
  simp only [x_ifs, e_cmp, e_sl, e_op, e_var, e_cst, eo_some, eo_none, List.getD_cons_zero, List.getD_cons_succ, slotR_some, bo, p_sub, intO_int]
  rw [t_cut (by omega), show (w : Int) - 1 = ((w - 1 : Nat) : Int) by omega, cut_to]
  simp only [bo]
  rw [t_cut (by omega), cut_from]
  simp only [bo]
  rw [t_ne]
  simp only [bo]
  unfold turns
  by_cases c : a.take (w - 1) = a.drop (a.length - w + 1)
  · rw [decide_eq_true c, if_pos c]
    simp only [Bool.not_true, ifb_f, xs_nil, andThen_nx]
    rw [xs_cons]
    simp only [x_ret, e_lc, ei_2, e_var, e_cst, List.getD_cons_zero, List.getD_cons_succ, slotR_some, bo]
    rw [rng2R_int (by omega) (by omega)]
    simp only [bo]
    rw [show (((a.length - w + 1 : Nat) : Int) - 1).toNat = a.length - w by omega]
    rw [rng_lc (fun i => turn a w (i + 1)) (by omega) (fun i hi => ⟨_, rfl, ec_none, by
      simp only [e_sl, e_op, e_var, e_cst, eo_some, eo_none, List.set_cons_succ, List.set_cons_zero, List.getD_cons_zero, List.getD_cons_succ, slotR_some, bo, p_add, p_sub, intO_int]
      rw [show (1 : Int) + (i : Int) = ((i + 1 : Nat) : Int) by omega, t_cut (by omega), cut_mid]
      simp only [bo]
      rw [t_cut (by omega), cut_to]
      simp only [bo]
      rw [t_add (by simp only [List.length_take, List.length_drop]; omega)]
      simp only [bo]
      rw [show ((i + 1 : Nat) : Int) + (w : Int) - 1 = ((i + 1 + (w - 1) : Nat) : Int) by omega, t_cut (by omega), cut_mid, Nat.add_sub_cancel_left]
      simp only [bo]
      rw [t_add (by simp only [List.length_append, List.length_take, List.length_drop]; omega)]
      rfl⟩)]
    simp only [bo, andThen_ret, toD_ret]
    exact fin_self
  · rw [decide_eq_false c, if_neg c]
    simp only [Bool.not_false, ifb_t]
    rw [xs_cons]
    simp only [x_ret, e_lst, es_nil, bo]
    rw [seqR_ok (by simp)]
    simp only [bo, andThen_ret, toD_ret]
    exact fin_self
end
end SV
/-! SvEx4: sorted sets of texts; next_to, exchanged. -/
namespace SV
open PySem
@[simp] theorem e_sset {Γ : Nat → List D → Store → R D} {a : E} {env : Env} {S : Store} : ev Γ (.sset a) env S = (ev Γ a env S).bind fun x S => setOfF ssetR (fun _ S => .ok x S) env S := by
  rw [ev]
  rfl
theorem keysD_texts : ∀ {l : List (List Nat)}, keysD (l.map dt) = some (l.map fun t => Sum.inr (tx t))
  | [] => rfl
  | t :: l => by
    show keysD (dt t :: l.map dt) = _
    unfold keysD
    rw [keysD_texts]
    rfl
/-- a list of keys that are texts -/
theorem texts_of {l : List SKey} (h : ∀ k ∈ l, ∃ t : List Nat, k = .inr (tx t)) : ∃ ts : List (List Nat), l = ts.map fun t => (Sum.inr (tx t) : SKey) := by
  induction l with
  | nil => exact ⟨[], rfl⟩
  | cons k l ih =>
    obtain ⟨t, rfl⟩ := h k List.mem_cons_self
    obtain ⟨ts, e⟩ := ih fun k hk => h k (List.mem_cons_of_mem _ hk)
    exact ⟨t :: ts, by rw [e]; rfl⟩
theorem dts_of {l : List D} (h : ∀ d ∈ l, ∃ t : List Nat, d = dt t) : ∃ ts : List (List Nat), l = ts.map dt := by
  induction l with
  | nil => exact ⟨[], rfl⟩
  | cons k l ih =>
    obtain ⟨t, rfl⟩ := h k List.mem_cons_self
    obtain ⟨ts, e⟩ := ih fun k hk => h k (List.mem_cons_of_mem _ hk)
    exact ⟨t :: ts, by rw [e]; rfl⟩
/-- sorted(set(l)): these texts, each once -/
theorem sset_ex (l : List (List Nat)) (hl : l.length < 4000) : ∃ ts : List (List Nat), (∀ S, ssetR (l.map dt) S = .ok (.lst (ts.map dt)) S) ∧ (∀ t, t ∈ ts ↔ t ∈ l) ∧ ts.length ≤ l.length := by
  have ok : okKeys (l.map fun t => (Sum.inr (tx t) : SKey)) = true := by
    unfold okKeys
    rw [Bool.and_eq_true, Bool.or_eq_true, List.length_map]
    refine ⟨.inr ?_, decide_eq_true hl⟩
    rw [List.all_eq_true]
    intro k hk
    obtain ⟨t, _, rfl⟩ := List.mem_map.mp hk
    rfl
  obtain ⟨ts, hts⟩ := dts_of (l := sortD ((dd (l.map fun t => (Sum.inr (tx t) : SKey))).map kD)) fun d hd => by
    obtain ⟨k, hk, rfl⟩ := List.mem_map.mp ((sortD_perm _).mem_iff.mp hd)
    obtain ⟨t, _, rfl⟩ := List.mem_map.mp (mem_dd.mp hk)
    exact ⟨t, rfl⟩
  have key : ∀ t, dt t ∈ sortD ((dd (l.map fun t => (Sum.inr (tx t) : SKey))).map kD) ↔ t ∈ l := fun t => by
    rw [(sortD_perm _).mem_iff, List.mem_map]
    constructor
    · rintro ⟨k, hk, e⟩
      obtain ⟨u, hu, rfl⟩ := List.mem_map.mp (mem_dd.mp hk)
      have e2 : dt u = dt t := e
      rw [dt_inj] at e2
      exact e2 ▸ hu
    · exact fun ht => ⟨.inr (tx t), mem_dd.mpr (List.mem_map.mpr ⟨t, ht, rfl⟩), rfl⟩
  refine ⟨ts, fun S => ?_, fun t => ?_, ?_⟩
  · unfold ssetR
    rw [keysD_texts]
    dsimp only
    rw [if_pos ok, hts]
  · rw [← key t, hts, List.mem_map]
    exact ⟨fun h => ⟨t, h, rfl⟩, fun ⟨u, hu, e⟩ => dt_inj.mp e ▸ hu⟩
  · have e1 := congrArg List.length hts
    rw [List.length_map, (sortD_perm _).length_eq, List.length_map] at e1
    have := len_dd (l.map fun t => (Sum.inr (tx t) : SKey))
    rw [List.length_map] at this
    omega
theorem small_mul : ∀ x, x < 10 → ∀ y, y < 10 → x + y < 10 → x * y ≤ 25 := by decide +kernel
theorem exAt_len2 {a : List Nat} {Q : List (List Nat)} {i k j : Nat} : (exAt a Q i k j).length ≤ Q.length - (k + 1) := by
  have := flat_len (g := exIn a Q i k (i + 1 + j)) (c := 1) (fun _ => exIn_len) (Q.length - (k + 1))
  unfold exAt
  omega
theorem exs_len2 {a : List Nat} {Q : List (List Nat)} {i k : Nat} (hk : k < Q.length) (hQ : Q.length ≤ 10) : (exs a Q i k).length ≤ 25 := by
  have h1 := flat_len (g := exAt a Q i k) (c := Q.length - (k + 1)) (fun j => exAt_len2) (k - i)
  have h2 := small_mul (k - i) (by omega) (Q.length - (k + 1)) (by omega) (by omega)
  unfold exs
  omega
theorem exOf_len {a : List Nat} {w : Nat} (h : Fit a w) : (exOf a w).length ≤ 3900 := by
  have := h.hi
  have := h.lo
  have hQ : (pcs a (w - 1) (a.length - w + 2)).length ≤ 10 := by
    rw [pcs_len]
    omega
  unfold exOf
  generalize pcs a (w - 1) (a.length - w + 2) = Q at hQ
  have h1 := flat_lenB (g := ofAt a Q) (c := 250) Q.length (fun i hi => by
    have h2 := flat_lenB (g := ofIn a Q i) (c := 25) (Q.length - (i + 1)) (fun k hk => by
      unfold ofIn
      split
      · exact exs_len2 (by omega) hQ
      · simp)
    unfold ofAt
    omega)
  omega
section
variable {fu n : Nat} {S : Store} {a : List Nat}
theorem filter_dt {ts : List (List Nat)} {p : List Nat → Bool} {q : D → Bool} (h : ∀ t, q (dt t) = p t) : (ts.map dt).filter q = (ts.filter p).map dt := by
  induction ts with
  | nil => rfl
  | cons t ts ih =>
    rw [List.map_cons]
    cases hp : p t with
    | true => rw [List.filter_cons_of_pos (by rw [h, hp]), List.filter_cons_of_pos hp, ih, List.map_cons]
    | false => rw [List.filter_cons_of_neg (by rw [h, hp]; simp), List.filter_cons_of_neg (by rw [hp]; simp), ih]
/-- how exchanged comes to it -/
theorem next_run {w : Nat} (h : Fit a w) {ts : List (List Nat)} (h1 : ∀ S, ssetR ((exOf a w ++ turns a w).map dt) S = .ok (.lst (ts.map dt)) S) (h3 : ts.length ≤ 16000) (le : (exOf a w).length ≤ 3900) (lt : (turns a w).length ≤ 12) (fu n : Nat) (S : Store) (wf : Wf S) :
    run G fu (n + 5) 17 [dt a, .int (w : Int)] S = .ok (.lst ((ts.filter fun t => !decide (t = a)).map dt)) S := by
  rw [run_go (env := [some (dt a), some (.int (w : Int))]) G17 rfl rfl]
  simp only [c17]
  rw [xs_cons]
  simp only [x_expr, e_call, e_var, es_cons, es_nil, List.getD_cons_zero, List.getD_cons_succ, slotR_some, bo]
  rw [r_view h]
  simp only [bo, andThen_nx]
  rw [xs_cons]
  simp only [x_ret, e_call, e_var, es_cons, es_nil, List.getD_cons_zero, List.getD_cons_succ, slotR_some, bo]
  have e16 : run G fu (n + 4) 16 [dt a, .int (w : Int)] S = .ok (.lst ((ts.filter fun t => !decide (t = a)).map dt)) S := by
    rw [run_go (env := [some (dt a), some (.int (w : Int)), none, none]) G16 rfl rfl]
    simp only [c16]
    rw [xs_cons]
    simp only [x_set, e_sset, e_op, e_call, e_var, es_cons, es_nil, List.getD_cons_zero, List.getD_cons_succ, slotR_some, bo]
    rw [show n + 3 = (n + 1) + 2 from rfl, r_exOf wf h]
    simp only [bo]
    rw [show n + 1 + 2 = (n + 2) + 1 from rfl, r_turns h]
    simp only [bo]
    have ea : Op2.add.app (.lst ((exOf a w).map dt)) (.lst ((turns a w).map dt)) S = .ok (.lst ((exOf a w ++ turns a w).map dt)) S := by
      show (if okLen (((exOf a w).map dt).length + ((turns a w).map dt).length) = true then R.ok (D.lst ((exOf a w).map dt ++ (turns a w).map dt)) S else .bad) = _
      rw [if_pos (okLen_le' (by rw [List.length_map, List.length_map]; omega)), List.map_append]
    rw [ea]
    simp only [bo]
    have es : setOfF ssetR (fun _ S => .ok (.lst ((exOf a w ++ turns a w).map dt)) S) [some (dt a), some (.int (w : Int)), none, none] S = .ok (.lst (ts.map dt)) S := h1 S
    rw [es]
    simp only [bo, andThen_nx, List.set_cons_succ, List.set_cons_zero]
    rw [xs_cons]
    simp only [x_ret, e_lc, ei_e, e_var, List.getD_cons_zero, List.getD_cons_succ, slotR_some, bo]
    have ei : ∀ l, itR (.lst l) S = .ok ⟨l, none⟩ S := fun l => rfl
    rw [ei]
    simp only [bo]
    rw [lcR_pure (fun d => match d with | .str x => !decide (x = tx a) | _ => true) id (by rw [List.length_map]; omega) (fun x hx => by
      obtain ⟨t, _, rfl⟩ := List.mem_map.mp hx
      refine ⟨_, rfl, ?_, fun _ => ?_⟩
      · simp only [ec_some, e_cmp, e_var, List.set_cons_succ, List.set_cons_zero, List.getD_cons_zero, List.getD_cons_succ, slotR_some, bo]
        rw [t_ne]
        congr 3
        rw [decide_eq_decide]
        exact tx_inj.symm
      · simp only [e_var, List.set_cons_succ, List.set_cons_zero, List.getD_cons_zero, List.getD_cons_succ, slotR_some]
        rfl)]
    rw [List.map_id, filter_dt (p := fun t => !decide (t = a)) (fun t => by
      show (!decide (tx t = tx a)) = (!decide (t = a))
      congr 1
      rw [decide_eq_decide]
      exact tx_inj)]
    simp only [bo, andThen_ret, toD_ret]
    exact fin_self
  rw [e16]
  simp only [bo, andThen_ret, toD_ret]
  exact fin_self
/-- what exchanged tells -/
theorem next_ex {w : Nat} (h : Fit a w) : ∃ ts : List (List Nat), (∀ t, t ∈ ts ↔ t ≠ a ∧ (t ∈ exOf a w ∨ t ∈ turns a w)) ∧ ts.length ≤ 4000 ∧
    ∀ (fu n : Nat) (S : Store), Wf S → run G fu (n + 5) 17 [dt a, .int (w : Int)] S = .ok (.lst (ts.map dt)) S := by
  have := h.l
  have := h.lo
  have lt : (turns a w).length ≤ 12 := by
    unfold turns
    split
    · simp
      omega
    · simp
  have le := exOf_len h
  obtain ⟨ts, h1, h2, h3⟩ := sset_ex (exOf a w ++ turns a w) (by rw [List.length_append]; omega)
  refine ⟨ts.filter fun t => !decide (t = a), fun t => ?_, ?_, fun fu n S wf => ?_⟩
  · rw [List.mem_filter, h2, List.mem_append]
    simp only [Bool.not_eq_true', decide_eq_false_iff_not]
    exact ⟨fun ⟨x, y⟩ => ⟨y, x⟩, fun ⟨x, y⟩ => ⟨y, x⟩⟩
  · have := List.length_filter_le (fun t => !decide (t = a)) ts
    rw [List.length_append] at h3
    omega
  · exact next_run h h1 (by rw [List.length_append] at h3; omega) le lt fu n S wf
end
end SV
/-! SvL17: the law k17, from the mathematics. -/
namespace SV
open PySem
theorem fin_ex (n : Nat) (d : D) (S : Store) : ∃ S', fin n (.ok d S) = .ok d S' := by
  by_cases c : (D.lo n d && (S.take n).all (Cell.lo n)) = true
  · exact ⟨S.take n, if_pos c⟩
  · exact ⟨S, if_neg c⟩
theorem los_ints {n : Nat} : ∀ k, D.los n (List.replicate k (.int 0)) = true
  | 0 => rfl
  | k + 1 => by
    rw [List.replicate_succ]
    unfold D.los
    rw [los_ints]
    rfl
theorem wf_tw (k : Nat) : Wf [tw k] := by
  unfold Wf tw
  simp [Cell.lo, los_ints]
/-- one of texts -/
theorem q_notin {a : List Nat} {ts : List (List Nat)} {S : Store} : cmA .notin (dt a) (.lst (ts.map dt)) S = .ok (.bl (!decide (a ∈ ts))) S := by
  have o := oks (n := 0) (l := ts.map dt) fun d hd => by
    obtain ⟨t, _, rfl⟩ := List.mem_map.mp hd
    exact ok_str
  have e : inD (dt a) (.lst (ts.map dt)) S = some (decide (a ∈ ts)) := by
    unfold inD
    simp only [D.items]
    rw [sims_pures o.1, decide_eq_true (Nat.le_trans o.2 (show 0 ≤ 30 by decide))]
    show (if (true && true && decide (PyData.depth (dt a).py ≤ 30) && true) = true then some _ else none) = _
    rw [decide_eq_true (show PyData.depth (dt a).py ≤ 30 from Nat.zero_le _)]
    show some _ = some _
    congr 1
    rw [Bool.eq_iff_iff, List.any_eq_true, decide_eq_true_eq]
    constructor
    · rintro ⟨d, hd, hq⟩
      rw [pys_strs] at hd
      obtain ⟨t, ht, rfl⟩ := List.mem_map.mp hd
      have e1 : (dt t) = dt a := (eqv_iff (x := dt t) (y := dt a) rfl rfl).mp hq
      exact dt_inj.mp e1 ▸ ht
    · intro h
      refine ⟨.str (tx a), ?_, ?_⟩
      · rw [pys_strs]
        exact List.mem_map.mpr ⟨a, h, rfl⟩
      · exact (eqv_iff (x := dt a) (y := dt a) rfl rfl).mpr rfl
  unfold cmA
  show (match (inD (dt a) (.lst (ts.map dt)) S).map (!·) with | some c => R.ok (D.bl c) S | none => .bad) = _
  rw [e]
  rfl
theorem q_nil {S : Store} : cmA .ne (.lst []) (.lst []) S = .ok (.bl false) S := by
  classical
  have h2 : Ok 30 ((D.lst []).rd S) := ok_lst (n := 29) fun d hd => by cases hd
  rw [q_ne h2 h2, decide_eq_true rfl]
  rfl
/-- what the law needs of exchanges -/
def M17 : Prop := ∀ (a : List Nat) (w : Nat) (t : List Nat), Fit a w → 2 ≤ w → (t ∈ exOf a w ∨ t ∈ turns a w) → Fit t w ∧ (pcs a w (a.length - w + 1)).Perm (pcs t w (t.length - w + 1)) ∧ (a ∈ exOf t w ∨ a ∈ turns t w)
theorem lc_none {st : D → Option Env} {fc fe : Env → Store → R D} {S : Store} {items : List D} (hl : items.length ≤ 16000000) (h : ∀ x ∈ items, ∃ env, st x = some env ∧ fc env S = .ok (.bl false) S) : lcR none st fc fe items S = .ok (.lst []) S := by
  rw [lcR_pure (fun _ => false) id hl fun x hx => by
    obtain ⟨env, h1, h2⟩ := h x hx
    exact ⟨env, h1, h2, fun z => nomatch z⟩]
  rw [List.filter_eq_nil_iff.mpr (fun _ _ => by simp)]
  rfl
theorem plain17 (M : M17) : Plain G 100000 60 19 := by
  intro ns hns
  obtain ⟨a, w, k, a1, a2, a3, w1, w2, hk, e0⟩ := r_like (fu := 100000) (n := 53) (ns := ns) (k := 0) (Z := []) (low := 2) (M := 10) hns (by decide) (by decide) (by decide) (by decide) (by decide) (by decide)
  rw [show ((2 : Nat) : Int) = 2 from rfl, show ((10 : Nat) : Int) = 10 from rfl, show 53 + 6 = 59 from rfl] at e0
  have hF : Fit a w := ⟨a1, by omega, by omega, w2, by omega, by omega⟩
  obtain ⟨ts, t1, t2, t3⟩ := next_ex hF
  have wf := wf_tw k
  have e1 : ∀ S, Wf S → run G 100000 59 17 [dt a, .int (w : Int)] S = .ok (.lst (ts.map dt)) S := fun S h => t3 100000 54 S h
  rw [run_go (env := [some (.scr ns), none, none, none, none, none, none]) G19 rfl rfl]
  simp only [c19]
  rw [xs_cons]
  simp only [x_set, e_cell, e_lst, es_nil, bo]
  rw [seqR_ok (by simp)]
  simp only [bo, cellR_lst, andThen_nx, List.set_cons_succ, List.set_cons_zero, List.length_nil, List.nil_append]
  rw [show ([Cell.lst []] : Store) = [tw 0] from rfl, xs_cons]
  simp only [x_setT, e_call, e_var, e_cst, es_cons, es_nil, List.getD_cons_zero, List.getD_cons_succ, slotR_some, bo]
  rw [e0]
  simp only [bo, setTR_two, andThen_nx, List.set_cons_succ, List.set_cons_zero]
  rw [xs_cons]
  simp only [x_set, e_call, e_var, e_cst, es_cons, es_nil, List.getD_cons_zero, List.getD_cons_succ, slotR_some, bo]
  rw [e1 _ wf]
  simp only [bo, andThen_nx, List.set_cons_succ, List.set_cons_zero]
  rw [xs_cons]
  have ei : ∀ l (S : Store), itR (.lst l) S = .ok ⟨l, none⟩ S := fun l S => rfl
  simp only [x_ifs, e_cmp, e_lc, e_lst, ei_e, e_var, es_nil, List.getD_cons_zero, List.getD_cons_succ, slotR_some, bo]
  rw [ei]
  simp only [bo]
  rw [lc_none (by rw [List.length_map]; omega) (fun x hx => by
    obtain ⟨t, ht, rfl⟩ := List.mem_map.mp hx
    obtain ⟨n1, n2⟩ := (t1 t).mp ht
    obtain ⟨m1, m2, m3⟩ := M a w t hF w1 n2
    refine ⟨_, rfl, ?_⟩
    simp only [ec_some, e_or, e_not, e_cmp, e_call, e_var, es_cons, es_nil, List.set_cons_succ, List.set_cons_zero, List.getD_cons_zero, List.getD_cons_succ, slotR_some, bo]
    rw [show (59 : Nat) = 54 + 5 from rfl, r_alike hF m1 m2]
    simp only [bo, ifb_t, ifb_f]
    rw [t_eq, decide_eq_false n1])]
  simp only [bo]
  rw [seqR_ok (by simp)]
  simp only [bo]
  rw [q_nil]
  simp only [bo, ifb_f, xs_nil, andThen_nx]
  rw [xs_cons]
  simp only [x_ifs, e_cmp, e_lc, e_lst, ei_e, e_sl, e_var, e_cst, eo_none, eo_some, es_nil, List.getD_cons_zero, List.getD_cons_succ, slotR_some, bo, intO_int]
  have ec : ∀ S, cutD (.lst (ts.map dt)) none (some 6) S = .ok (.lst ((ts.take 6).map dt)) S := fun S => by
    show R.ok (D.lst (cutL (ts.map dt) none (some ((6 : Nat) : Int)))) S = _
    rw [cut_to, List.map_take]
  rw [ec]
  simp only [bo]
  rw [ei]
  simp only [bo]
  rw [lc_none (by rw [List.length_map, List.length_take]; omega) (fun x hx => by
    obtain ⟨t, ht, rfl⟩ := List.mem_map.mp hx
    obtain ⟨n1, n2⟩ := (t1 t).mp (List.mem_of_mem_take ht)
    obtain ⟨m1, m2, m3⟩ := M a w t hF w1 n2
    obtain ⟨us, u1, u2, u3⟩ := next_ex m1
    refine ⟨_, rfl, ?_⟩
    simp only [ec_some, e_cmp, e_call, e_var, es_cons, es_nil, List.set_cons_succ, List.set_cons_zero, List.getD_cons_zero, List.getD_cons_succ, slotR_some, bo]
    rw [show (59 : Nat) = 54 + 5 from rfl, u3 _ _ _ wf]
    simp only [bo]
    rw [q_notin, decide_eq_true ((u1 a).mpr ⟨fun z => n1 z.symm, m3⟩)]
    rfl)]
  simp only [bo]
  rw [seqR_ok (by simp)]
  simp only [bo]
  rw [q_nil]
  simp only [bo, ifb_f, xs_nil, andThen_nx]
  rw [xs_cons]
  simp only [x_set, e_cell, e_call, e_var, es_cons, es_nil, List.getD_cons_zero, List.getD_cons_succ, slotR_some, bo]
  rw [e1 _ wf]
  simp only [bo, cellR_lst, andThen_nx, List.set_cons_succ, List.set_cons_zero]
  rw [xs_cons]
  simp only [x_expr, e_mth, e_var, e_cst, es_cons, es_nil, List.getD_cons_zero, List.getD_cons_succ, slotR_some, bo]
  rw [if_pos recv_app]
  rw [app_end (by rw [List.length_map]; omega)]
  simp only [bo, andThen_nx]
  rw [xs_cons]
  simp only [x_ret, e_cmp, e_call, e_var, es_cons, es_nil, List.getD_cons_zero, List.getD_cons_succ, slotR_some, bo]
  have wf2 : Wf ([tw k] ++ [Cell.lst (ts.map dt ++ [.str ("a" : Str)])]) := by
    have := Wf.strs (l := ts ++ [[97]]) wf
    rw [List.map_append] at this
    rw [tx_a]
    exact this
  rw [e1 _ wf2]
  simp only [bo]
  have o : Ok 30 (D.lst (ts.map dt)) := (ok_lst (n := 0) fun d hd => by
    obtain ⟨t, _, rfl⟩ := List.mem_map.mp hd
    exact ok_str).le (by decide)
  classical
  rw [q_eq (x := .lst (ts.map dt)) (y := .lst (ts.map dt)) o o, decide_eq_true rfl]
  simp only [bo, andThen_ret, toD_ret]
  exact fin_ex _ _ _
end SV
/-! SvM17: exchanges and turns keep the windows, and can be undone. -/
namespace SV
open PySem
/-- the windows, one after the other -/
def wsR (v : Nat) : List Nat → List (List Nat)
  | [] => []
  | c :: Y => if v ≤ Y.length then (c :: Y).take (v + 1) :: wsR v Y else []
theorem wsR_short {v : Nat} : ∀ {Y : List Nat}, Y.length ≤ v → wsR v Y = []
  | [], _ => rfl
  | c :: Y, h => by
    unfold wsR
    rw [if_neg (by simp at h; omega)]
/-- the windows of a that begin at p, p + 1, .. -/
def U (a : List Nat) (v p d : Nat) : List (List Nat) := (List.range' p d).map (pc a (v + 1))
theorem U_add (a : List Nat) (v p d e : Nat) : U a v p (d + e) = U a v p d ++ U a v (p + d) e := by
  unfold U
  rw [← List.map_append, List.range'_append_1]
theorem walk17 {a : List Nat} {v : Nat} (hv : 1 ≤ v) : ∀ (d p : Nat) (X : List Nat), p + d + v ≤ a.length → X.take v = pc a v (p + d) → v ≤ X.length →
    ((a.drop p).take d ++ X).take v = pc a v p ∧ wsR v ((a.drop p).take d ++ X) = U a v p d ++ wsR v X ∧ v ≤ ((a.drop p).take d ++ X).length
  | 0, p, X, h, hX, hl => by
    rw [List.take_zero, List.nil_append]
    exact ⟨hX, by simp [U], hl⟩
  | d + 1, p, X, h, hX, hl => by
    have lt : p < a.length := by omega
    obtain ⟨i1, i2, i3⟩ := walk17 (a := a) hv d (p + 1) X (by omega) (by rw [hX]; congr 1; omega) hl
    have e1 : (a.drop p).take (d + 1) = a[p] :: (a.drop (p + 1)).take d := by rw [List.drop_eq_getElem_cons lt, List.take_succ_cons]
    rw [e1, List.cons_append]
    generalize (a.drop (p + 1)).take d ++ X = Y at i1 i2 i3
    have e2 : ∀ m, (a[p] :: Y).take (m + 1) = a[p] :: Y.take m := fun m => List.take_succ_cons
    have e3 : ∀ m, pc a (m + 1) p = a[p] :: (a.drop (p + 1)).take m := fun m => by
      unfold pc
      rw [List.drop_eq_getElem_cons lt, List.take_succ_cons]
    refine ⟨?_, ?_, by simp; omega⟩
    · obtain ⟨u, rfl⟩ : ∃ u, v = u + 1 := ⟨v - 1, by omega⟩
      rw [e2, e3]
      congr 1
      have := congrArg (List.take u) i1
      unfold pc at this
      rw [List.take_take, List.take_take, Nat.min_eq_left (by omega)] at this
      exact this
    · rw [show wsR v (a[p] :: Y) = (a[p] :: Y).take (v + 1) :: wsR v Y by
        conv => lhs; unfold wsR
        rw [if_pos i3], i2, e2, i1]
      have e4 : U a v p (d + 1) = pc a (v + 1) p :: U a v (p + 1) d := by
        unfold U
        rw [List.range'_succ, List.map_cons]
      rw [e4, e3, List.cons_append]
      rfl
/-- to the end -/
theorem walk_end {a : List Nat} {v : Nat} (hv : 1 ≤ v) {p : Nat} (h : p + v ≤ a.length) : (a.drop p).take v = pc a v p ∧ wsR v (a.drop p) = U a v p (a.length - v - p) ∧ v ≤ (a.drop p).length := by
  have e : (a.drop p).take (a.length - v - p) ++ a.drop (a.length - v) = a.drop p := by
    have := List.take_append_drop (a.length - v - p) (a.drop p)
    rwa [List.drop_drop, show p + (a.length - v - p) = a.length - v by omega] at this
  obtain ⟨h1, h2, h3⟩ := walk17 (a := a) hv (a.length - v - p) p (a.drop (a.length - v)) (by omega) (by unfold pc; rw [show p + (a.length - v - p) = a.length - v by omega]) (by rw [List.length_drop]; omega)
  rw [e] at h1 h2 h3
  rw [wsR_short (show (a.drop (a.length - v)).length ≤ v by rw [List.length_drop]; omega), List.append_nil] at h2
  exact ⟨h1, h2, h3⟩
theorem ws_all {a : List Nat} {v : Nat} (hv : 1 ≤ v) (h : v ≤ a.length) : wsR v a = pcs a (v + 1) (a.length - v) := by
  have := (walk_end hv (p := 0) (a := a) (by omega)).2.1
  rw [List.drop_zero, Nat.sub_zero] at this
  rw [this]
  unfold U pcs
  rw [List.range_eq_range']
theorem mem_exOf {a t : List Nat} {w : Nat} : t ∈ exOf a w ↔ ∃ i k j l, i < j ∧ j ≤ k ∧ k < l ∧ l < a.length - w + 2 ∧ pc a (w - 1) i = pc a (w - 1) k ∧ pc a (w - 1) j = pc a (w - 1) l ∧ t = exch a i k j l := by
  have g : ∀ p, p < a.length - w + 2 → (pcs a (w - 1) (a.length - w + 2)).getD p [] = pc a (w - 1) p := fun p hp => by
    unfold pcs
    rw [List.getD_eq_getElem?_getD, List.getElem?_map, List.getElem?_range hp]
    rfl
  unfold exOf
  rw [List.mem_flatMap]
  constructor
  · rintro ⟨i, hi, h⟩
    unfold ofAt at h
    obtain ⟨k, hk, h⟩ := List.mem_flatMap.mp h
    rw [List.mem_range, pcs_len] at hi hk
    unfold ofIn at h
    split at h
    · next c1 =>
      unfold exs at h
      obtain ⟨j, hj, h⟩ := List.mem_flatMap.mp h
      unfold exAt at h
      obtain ⟨l, hl, h⟩ := List.mem_flatMap.mp h
      rw [List.mem_range] at hj hl
      rw [pcs_len] at hl
      unfold exIn at h
      split at h
      · next c2 =>
        rw [List.mem_singleton] at h
        rw [g _ (by omega), g _ (by omega)] at c1 c2
        exact ⟨i, i + 1 + k, i + 1 + j, i + 1 + k + 1 + l, by omega, by omega, by omega, by omega, c1, c2, h⟩
      · cases h
    · cases h
  · rintro ⟨i, k, j, l, h1, h2, h3, h4, c1, c2, rfl⟩
    refine ⟨i, List.mem_range.mpr (by rw [pcs_len]; omega), ?_⟩
    unfold ofAt
    refine List.mem_flatMap.mpr ⟨k - (i + 1), List.mem_range.mpr (by rw [pcs_len]; omega), ?_⟩
    unfold ofIn
    rw [show i + 1 + (k - (i + 1)) = k by omega, g _ (by omega), g _ (by omega), if_pos c1]
    unfold exs
    refine List.mem_flatMap.mpr ⟨j - (i + 1), List.mem_range.mpr (by omega), ?_⟩
    unfold exAt
    refine List.mem_flatMap.mpr ⟨l - (k + 1), List.mem_range.mpr (by rw [pcs_len]; omega), ?_⟩
    unfold exIn
    rw [show i + 1 + (j - (i + 1)) = j by omega, show k + 1 + (l - (k + 1)) = l by omega, g _ (by omega), g _ (by omega), if_pos c2]
    exact List.mem_singleton.mpr rfl
theorem mem_turns {a t : List Nat} {w : Nat} : t ∈ turns a w ↔ a.take (w - 1) = a.drop (a.length - w + 1) ∧ ∃ i, i < a.length - w ∧ t = turn a w (i + 1) := by
  unfold turns
  split
  · next c =>
    rw [List.mem_map]
    exact ⟨fun ⟨i, hi, e⟩ => ⟨c, i, List.mem_range.mp hi, e.symm⟩, fun ⟨_, i, hi, e⟩ => ⟨i, List.mem_range.mpr hi, e.symm⟩⟩
  · next c => exact ⟨(fun h => by cases h), fun h => absurd h.1 c⟩
theorem drop_at {α : Type} {A B : List α} {n : Nat} (h : A.length = n) : (A ++ B).drop n = B := by
  subst h
  rw [List.drop_left]
theorem take_at {α : Type} {A B : List α} {n : Nat} (h : A.length = n) : (A ++ B).take n = A := by
  subst h
  rw [List.take_left]
/-- an exchange -/
theorem ex_one {a : List Nat} {v i j k l : Nat} (hv : 1 ≤ v) (h1 : i < j) (h2 : j ≤ k) (h3 : k < l) (h4 : l + v ≤ a.length) (c1 : pc a v i = pc a v k) (c2 : pc a v j = pc a v l) :
    (exch a i k j l).length = a.length ∧ (wsR v a).Perm (wsR v (exch a i k j l)) ∧ pc (exch a i k j l) v i = pc (exch a i k j l) v (i + l - j) ∧ pc (exch a i k j l) v (i + (l - k)) = pc (exch a i k j l) v l ∧
      exch (exch a i k j l) i (i + l - j) (i + (l - k)) l = a := by
  obtain ⟨x1, x2, x3⟩ := walk_end hv (p := l) h4
  obtain ⟨y1, y2, y3⟩ := walk17 (a := a) hv (j - i) i (a.drop l) (by omega) (by rw [x1, show i + (j - i) = j by omega, c2]) x3
  obtain ⟨z1, z2, z3⟩ := walk17 (a := a) hv (k - j) j ((a.drop i).take (j - i) ++ a.drop l) (by omega) (by rw [y1, show j + (k - j) = k by omega, c1]) y3
  obtain ⟨u1, u2, u3⟩ := walk17 (a := a) hv (l - k) k ((a.drop j).take (k - j) ++ ((a.drop i).take (j - i) ++ a.drop l)) (by omega) (by rw [z1, show k + (l - k) = l by omega, c2]) z3
  obtain ⟨t1, t2, t3⟩ := walk17 (a := a) hv i 0 ((a.drop k).take (l - k) ++ ((a.drop j).take (k - j) ++ ((a.drop i).take (j - i) ++ a.drop l))) (by omega) (by rw [u1, Nat.zero_add, c1]) u3
  have lA : (a.take i).length = i := by rw [List.length_take]; omega
  have lB : ((a.drop k).take (l - k)).length = l - k := by rw [List.length_take, List.length_drop]; omega
  have lC : ((a.drop j).take (k - j)).length = k - j := by rw [List.length_take, List.length_drop]; omega
  have lD : ((a.drop i).take (j - i)).length = j - i := by rw [List.length_take, List.length_drop]; omega
  have et : exch a i k j l = a.take i ++ ((a.drop k).take (l - k) ++ ((a.drop j).take (k - j) ++ ((a.drop i).take (j - i) ++ a.drop l))) := by
    unfold exch
    simp only [List.append_assoc]
  rw [List.drop_zero, ← et] at t1 t2 t3
  have d1 : (exch a i k j l).drop i = (a.drop k).take (l - k) ++ ((a.drop j).take (k - j) ++ ((a.drop i).take (j - i) ++ a.drop l)) := by rw [et, drop_at lA]
  have d2 : (exch a i k j l).drop (i + (l - k)) = (a.drop j).take (k - j) ++ ((a.drop i).take (j - i) ++ a.drop l) := by rw [← List.drop_drop, d1, drop_at lB]
  have d3 : (exch a i k j l).drop (i + l - j) = (a.drop i).take (j - i) ++ a.drop l := by rw [show i + l - j = i + (l - k) + (k - j) by omega, ← List.drop_drop, d2, drop_at lC]
  have d4 : (exch a i k j l).drop l = a.drop l := by
    have : (exch a i k j l).drop (i + l - j + (j - i)) = a.drop l := by rw [← List.drop_drop, d3, drop_at lD]
    rwa [show i + l - j + (j - i) = l by omega] at this
  have p1 : (exch a i k j l).take i = a.take i := by rw [et, take_at lA]
  refine ⟨?_, ?_, ?_, ?_, ?_⟩
  · rw [et]
    simp only [List.length_append, lA, lB, lC, lD, List.length_drop]
    omega
  · have e0 := (walk_end hv (p := 0) (a := a) (by omega)).2.1
    rw [List.drop_zero, Nat.sub_zero, show a.length - v = i + ((j - i) + ((k - j) + ((l - k) + (a.length - v - l)))) by omega, U_add, U_add, U_add, U_add, Nat.zero_add, show i + (j - i) = j by omega, show j + (k - j) = k by omega, show k + (l - k) = l by omega] at e0
    rw [e0, t2, u2, z2, y2, x2]
    refine (List.Perm.refl _).append ?_
    -- B C D E from D C B E
    have q1 : (U a v i (j - i) ++ (U a v j (k - j) ++ (U a v k (l - k) ++ U a v l (a.length - v - l)))).Perm (U a v k (l - k) ++ (U a v j (k - j) ++ (U a v i (j - i) ++ U a v l (a.length - v - l)))) := by
      generalize U a v i (j - i) = A
      generalize U a v j (k - j) = B
      generalize U a v k (l - k) = C
      generalize U a v l (a.length - v - l) = D
      have s1 : (A ++ (B ++ (C ++ D))).Perm (B ++ (C ++ (A ++ D))) := by
        have r1 : (A ++ (B ++ (C ++ D))).Perm (A ++ (B ++ C) ++ D) := by simp
        have r2 : (A ++ (B ++ C) ++ D).Perm ((B ++ C) ++ A ++ D) := List.Perm.append_right D List.perm_append_comm
        exact r1.trans (r2.trans (by simp))
      have s2 : (B ++ (C ++ (A ++ D))).Perm (C ++ (B ++ (A ++ D))) := by
        have r1 : (B ++ (C ++ (A ++ D))).Perm (B ++ C ++ (A ++ D)) := by simp
        have r2 : (B ++ C ++ (A ++ D)).Perm (C ++ B ++ (A ++ D)) := List.Perm.append_right _ List.perm_append_comm
        exact r1.trans (r2.trans (by simp))
      exact s1.trans s2
    exact q1
  · unfold pc
    rw [d1, d3, u1, y1, c1]
  · unfold pc
    rw [d2, d4, z1, x1, c2]
  · have g : ∀ p q, p ≤ q → (a.drop p).take (q - p) ++ a.drop q = a.drop p := fun p q h => by
      have := List.take_append_drop (q - p) (a.drop p)
      rwa [List.drop_drop, show p + (q - p) = q by omega] at this
    have e : exch (exch a i k j l) i (i + l - j) (i + (l - k)) l = a.take i ++ ((a.drop i).take (j - i) ++ ((a.drop j).take (k - j) ++ ((a.drop k).take (l - k) ++ a.drop l))) := by
      rw [show exch (exch a i k j l) i (i + l - j) (i + (l - k)) l = (exch a i k j l).take i ++ ((exch a i k j l).drop (i + l - j)).take (l - (i + l - j)) ++ ((exch a i k j l).drop (i + (l - k))).take (i + l - j - (i + (l - k))) ++ ((exch a i k j l).drop i).take (i + (l - k) - i) ++ (exch a i k j l).drop l from rfl]
      rw [p1, d3, d2, d1, d4, take_at (show _ = l - (i + l - j) by rw [lD]; omega), take_at (show _ = i + l - j - (i + (l - k)) by rw [lC]; omega), take_at (show _ = i + (l - k) - i by rw [lB]; omega)]
      simp only [List.append_assoc]
    rw [e, g k l (by omega), g j k h2, g i j (by omega), List.take_append_drop]
/-- a turn -/
theorem turn_one {a : List Nat} {v i : Nat} (hv : 1 ≤ v) (c : a.take v = a.drop (a.length - v)) (h1 : 1 ≤ i) (h2 : i < a.length - v) :
    (turn a (v + 1) i).length = a.length ∧ (wsR v a).Perm (wsR v (turn a (v + 1) i)) ∧ (turn a (v + 1) i).take v = (turn a (v + 1) i).drop (a.length - v) ∧ turn (turn a (v + 1) i) (v + 1) (a.length - v - i) = a := by
  have et : turn a (v + 1) i = (a.drop i).take (a.length - v - i) ++ (a.take i ++ (a.drop i).take v) := by
    unfold turn
    rw [show a.length - (v + 1) + 1 - i = a.length - v - i by omega, Nat.add_sub_cancel, List.append_assoc]
  have l3 : ((a.drop i).take v).length = v := by rw [List.length_take, List.length_drop]; omega
  obtain ⟨y1, y2, y3⟩ := walk17 (a := a) hv i 0 ((a.drop i).take v) (by omega) (by rw [List.take_take, Nat.min_self, Nat.zero_add]; rfl) (by omega)
  rw [List.drop_zero] at y1 y2 y3
  have c0 : pc a v 0 = pc a v (i + (a.length - v - i)) := by
    unfold pc
    rw [List.drop_zero, show i + (a.length - v - i) = a.length - v by omega, c, List.take_of_length_le (by rw [List.length_drop]; omega)]
  obtain ⟨z1, z2, z3⟩ := walk17 (a := a) hv (a.length - v - i) i (a.take i ++ (a.drop i).take v) (by omega) (by rw [y1, c0]) y3
  rw [← et] at z1 z2 z3
  have lA : ((a.drop i).take (a.length - v - i)).length = a.length - v - i := by rw [List.length_take, List.length_drop]; omega
  have lB : (a.take i).length = i := by rw [List.length_take]; omega
  have lt : (turn a (v + 1) i).length = a.length := by
    rw [et]
    simp only [List.length_append, lA, lB, l3]
    omega
  have d1 : (turn a (v + 1) i).drop (a.length - v - i) = a.take i ++ (a.drop i).take v := by rw [et, drop_at lA]
  have d2 : (turn a (v + 1) i).drop (a.length - v) = (a.drop i).take v := by
    have : (turn a (v + 1) i).drop (a.length - v - i + i) = (a.drop i).take v := by rw [← List.drop_drop, d1, drop_at lB]
    rwa [show a.length - v - i + i = a.length - v by omega] at this
  refine ⟨lt, ?_, ?_, ?_⟩
  · have e0 := (walk_end hv (p := 0) (a := a) (by omega)).2.1
    rw [List.drop_zero, Nat.sub_zero, show a.length - v = i + (a.length - v - i) by omega, U_add, Nat.zero_add] at e0
    rw [e0, z2, y2, wsR_short (Nat.le_of_eq l3), List.append_nil]
    exact List.perm_append_comm
  · rw [z1, d2]
    rfl
  · rw [show turn (turn a (v + 1) i) (v + 1) (a.length - v - i) = ((turn a (v + 1) i).drop (a.length - v - i)).take ((turn a (v + 1) i).length - (v + 1) + 1 - (a.length - v - i)) ++ (turn a (v + 1) i).take (a.length - v - i) ++ ((turn a (v + 1) i).drop (a.length - v - i)).take (v + 1 - 1) from rfl]
    rw [lt, d1, take_at (show _ = a.length - (v + 1) + 1 - (a.length - v - i) by rw [lB]; omega), Nat.add_sub_cancel, y1]
    rw [show (turn a (v + 1) i).take (a.length - v - i) = (a.drop i).take (a.length - v - i) by rw [et, take_at lA]]
    have g : (a.drop i).take (a.length - v - i) ++ a.drop (a.length - v) = a.drop i := by
      have := List.take_append_drop (a.length - v - i) (a.drop i)
      rwa [List.drop_drop, show i + (a.length - v - i) = a.length - v by omega] at this
    rw [show pc a v 0 = a.drop (a.length - v) by unfold pc; rw [List.drop_zero, c], List.append_assoc, g, List.take_append_drop]
theorem exch_T3 {a : List Nat} (h : T3 a) (i k j l : Nat) : T3 (exch a i k j l) := ((((h.take _).app ((h.drop _).take _)).app ((h.drop _).take _)).app ((h.drop _).take _)).app (h.drop _)
theorem turn_T3 {a : List Nat} (h : T3 a) (w i : Nat) : T3 (turn a w i) := (((h.drop _).take _).app (h.take _)).app ((h.drop _).take _)
theorem m17 : M17 := by
  intro a w t hF hw h
  obtain ⟨v, rfl⟩ : ∃ v, w = v + 1 := ⟨w - 1, by omega⟩
  have hv : 1 ≤ v := by omega
  have f1 := hF.l
  have f2 := hF.lo
  have f3 := hF.hi
  have fin : ∀ t : List Nat, T3 t → t.length = a.length → (wsR v a).Perm (wsR v t) → Fit t (v + 1) ∧ (pcs a (v + 1) (a.length - (v + 1) + 1)).Perm (pcs t (v + 1) (t.length - (v + 1) + 1)) := fun t ht hl hp => by
    refine ⟨⟨ht, by omega, hF.w1, hF.w4, by omega, by omega⟩, ?_⟩
    rw [ws_all hv (by omega), ws_all hv (by omega)] at hp
    rw [show a.length - (v + 1) + 1 = a.length - v by omega, show t.length - (v + 1) + 1 = t.length - v by omega]
    exact hp
  rcases h with h | h
  · obtain ⟨i, k, j, l, h1, h2, h3, h4, c1, c2, rfl⟩ := mem_exOf.mp h
    rw [Nat.add_sub_cancel] at c1 c2
    obtain ⟨e1, e2, e3, e4, e5⟩ := ex_one hv h1 h2 h3 (by omega) c1 c2
    obtain ⟨g1, g2⟩ := fin _ (exch_T3 hF.t i k j l) e1 e2
    refine ⟨g1, g2, .inl (mem_exOf.mpr ⟨i, i + l - j, i + (l - k), l, by omega, by omega, by omega, by omega, ?_, ?_, e5.symm⟩)⟩
    · rw [Nat.add_sub_cancel]
      exact e3
    · rw [Nat.add_sub_cancel]
      exact e4
  · obtain ⟨c, i, hi, rfl⟩ := mem_turns.mp h
    rw [Nat.add_sub_cancel, show a.length - (v + 1) + 1 = a.length - v by omega] at c
    obtain ⟨e1, e2, e3, e4⟩ := turn_one hv c (i := i + 1) (by omega) (by omega)
    obtain ⟨g1, g2⟩ := fin _ (turn_T3 hF.t (v + 1) (i + 1)) e1 e2
    refine ⟨g1, g2, .inr (mem_turns.mpr ⟨?_, a.length - v - (i + 1) - 1, by omega, ?_⟩)⟩
    · rw [Nat.add_sub_cancel, e1, show a.length - (v + 1) + 1 = a.length - v by omega]
      exact e3
    · rw [show a.length - v - (i + 1) - 1 + 1 = a.length - v - (i + 1) by omega]
      exact e4.symm
end SV
/-! SvL16: the law k16: its own list of exchanges. -/
namespace SV
open PySem
section
variable {fu n : Nat} {S : Store} {a : List Nat} {Q : List (List Nat)}
theorem r_row {w : Nat} (h : Fit a w) : run G fu (n + 1) 20 [dt a, .int (w : Int)] S = .ok (.lst ((pcs a (w - 1) (a.length - w + 2)).map dt)) S := by
  have := h.l
  have := h.lo
  have := h.w1
  have := h.w4
  rw [run_go (env := [some (dt a), some (.int (w : Int)), none]) G20 rfl rfl]
  simp only [c20]
  rw [xs_cons]
  simp only [x_ret, e_lc, ei_1, e_op, e_bi, e_var, e_cst, es_cons, es_nil, List.getD_cons_zero, List.getD_cons_succ, slotR_some, bo]
  rw [t_len (by omega)]
  simp only [bo, p_add, p_sub]
  rw [rngR_int (by omega)]
  simp only [bo]
  rw [show ((a.length : Int) - (w : Int) + 2).toNat = a.length - w + 2 by omega]
  rw [rng_lc (pc a (w - 1)) (by omega) (fun i hi => ⟨_, rfl, ec_none, by
    simp only [e_sl, e_op, e_var, e_cst, eo_some, List.set_cons_succ, List.set_cons_zero, List.getD_cons_zero, List.getD_cons_succ, slotR_some, bo, p_add, p_sub, intO_int]
    rw [t_cut (by omega), show (0 : Int) + (i : Int) = ((i : Nat) : Int) by omega, show ((i : Nat) : Int) + (w : Int) - 1 = ((i + (w - 1) : Nat) : Int) by omega, cut_mid, Nat.add_sub_cancel_left]
    rfl⟩)]
  simp only [bo, andThen_ret, toD_ret]
  exact fin_self
/-- the law's inner body: an exchange at i, k, j, l -/
abbrev stBody : Cs := .cons (.ifs (.cmp .eq (.idx (.var 1) (.var 6)) (.idx (.var 1) (.var 5))) (.cons (.set 7 (.op .add (.sl (.var 0) .none (.some (.var 6))) (.sl (.var 0) (.some (.var 5)) (.some (.var 3))))) (.cons (.set 7 (.op .add (.var 7) (.sl (.var 0) (.some (.var 2)) (.some (.var 5))))) (.cons (.expr (.mth .append (.var 4) (.cons (.op .add (.op .add (.var 7) (.sl (.var 0) (.some (.var 6)) (.some (.var 2)))) (.sl (.var 0) (.some (.var 3)) .none)) .nil))) .nil))) (.nil)) .nil
abbrev stEnv (a : List Nat) (Q : List (List Nat)) (j l : Nat) (S : Store) (k i f : Option D) : Env := [some (dt a), some (.lst (Q.map dt)), some (.int (j : Int)), some (.int (l : Int)), some (.loc S.length), k, i, f]
theorem st_body {i k j l : Nat} {f : Option D} {acc : List (List Nat)} (ha : a.length ≤ 1000) (hi : i < Q.length) (hk : k < Q.length) (hacc : acc.length ≤ 100000) :
    ∃ f2, xcs (run G fu n) fu stBody (stEnv a Q j l S (some (.int (k : Int))) (some (.int (i : Int))) f) (S ++ [.lst (acc.map dt)]) =
      .ok (.nx (stEnv a Q j l S (some (.int (k : Int))) (some (.int (i : Int))) f2)) (S ++ [.lst ((acc ++ (if Q.getD i [] = Q.getD k [] then [exch a i k j l] else [])).map dt)]) := by
  unfold stBody stEnv
  rw [xs_cons]
  simp only [x_ifs, e_cmp, e_idx, e_var, List.getD_cons_zero, List.getD_cons_succ, slotR_some, bo]
  rw [at_row hi]
  simp only [bo]
  rw [at_row hk]
  simp only [bo]
  rw [t_eq]
  simp only [bo]
  by_cases c : Q.getD i [] = Q.getD k []
  · refine ⟨some (dt (a.take i ++ (a.drop k).take (l - k) ++ (a.drop j).take (k - j))), ?_⟩
    rw [decide_eq_true c, if_pos c]
    simp only [ifb_t]
    rw [xs_cons]
    simp only [x_set, e_op, e_sl, e_var, eo_some, eo_none, List.getD_cons_zero, List.getD_cons_succ, slotR_some, bo, intO_int]
    rw [t_cut (by omega), cut_to]
    simp only [bo]
    rw [t_cut (by omega), cut_mid]
    simp only [bo]
    rw [t_add (by simp only [List.length_take, List.length_drop]; omega)]
    simp only [bo, andThen_nx, List.set_cons_succ, List.set_cons_zero]
    rw [xs_cons]
    simp only [x_set, e_op, e_sl, e_var, eo_some, eo_none, List.getD_cons_zero, List.getD_cons_succ, slotR_some, bo, intO_int]
    rw [t_cut (by omega), cut_mid]
    simp only [bo]
    rw [t_add (by simp only [List.length_append, List.length_take, List.length_drop]; omega)]
    simp only [bo, andThen_nx, List.set_cons_succ, List.set_cons_zero]
    rw [xs_cons]
    simp only [x_expr, e_mth, e_var, List.getD_cons_zero, List.getD_cons_succ, slotR_some, bo]
    rw [if_pos recv_app]
    simp only [es_cons, es_nil, e_op, e_sl, e_var, eo_some, eo_none, List.getD_cons_zero, List.getD_cons_succ, slotR_some, bo, intO_int]
    rw [t_cut (by omega), cut_mid]
    simp only [bo]
    rw [t_add (by simp only [List.length_append, List.length_take, List.length_drop]; omega)]
    simp only [bo]
    rw [t_cut (by omega), cut_from]
    simp only [bo]
    rw [t_add (by simp only [List.length_append, List.length_take, List.length_drop]; omega)]
    simp only [bo]
    rw [app_end (by rw [List.length_map]; omega)]
    simp only [bo, andThen_nx, xs_nil, List.map_append, List.map_cons, List.map_nil]
    rfl
  · refine ⟨f, ?_⟩
    rw [decide_eq_false c, if_neg c, List.append_nil]
    simp only [ifb_f, xs_nil, andThen_nx]
def stIn (a : List Nat) (Q : List (List Nat)) (j l k i : Nat) : List (List Nat) := if Q.getD i [] = Q.getD k [] then [exch a i k j l] else []
def stAt (a : List Nat) (Q : List (List Nat)) (j l : Nat) (k : Nat) : List (List Nat) := (List.range j).flatMap (stIn a Q j l (j + k))
def sts (a : List Nat) (Q : List (List Nat)) (j l : Nat) : List (List Nat) := (List.range (l - j)).flatMap (stAt a Q j l)
theorem stIn_len {j l k i : Nat} : (stIn a Q j l k i).length ≤ 1 := by
  unfold stIn
  split <;> simp
theorem stAt_len {j l k : Nat} : (stAt a Q j l k).length ≤ j := by
  have := flat_len (g := stIn a Q j l (j + k)) (c := 1) (fun _ => stIn_len) j
  unfold stAt
  omega
theorem st_inner {j l k m : Nat} {o f : Option D} {acc : List (List Nat)} (ha : a.length ≤ 1000) (hk : k < Q.length) (hm : m ≤ Q.length) (hacc : acc.length + m ≤ 100000) :
    ∃ o2 f2, forLoop none (Tg.one 6).set (fun env S => xcs (run G fu n) fu stBody env S) (rngD 0 m) (stEnv a Q j l S (some (.int (k : Int))) o f) (S ++ [.lst (acc.map dt)]) =
      .ok (.nx (stEnv a Q j l S (some (.int (k : Int))) o2 f2)) (S ++ [.lst ((acc ++ (List.range m).flatMap (stIn a Q j l k)).map dt)]) := by
  obtain ⟨env2, S2, h1, h2⟩ := for_inv (items := rngD 0 m) (st := (Tg.one 6).set) (f := fun env S => xcs (run G fu n) fu stBody env S) (env := stEnv a Q j l S (some (.int (k : Int))) o f) (S := S ++ [.lst (acc.map dt)])
    (fun t env S' => ∃ o2 f2, env = stEnv a Q j l S (some (.int (k : Int))) o2 f2 ∧ S' = S ++ [.lst ((acc ++ (List.range t).flatMap (stIn a Q j l k)).map dt)])
    ⟨o, f, rfl, by simp⟩ (by
      rintro t x env S' hx ⟨o2, f2, rfl, rfl⟩
      obtain ⟨lt, rfl⟩ := rng_at hx
      have bl := flat_len (g := stIn a Q j l k) (c := 1) (fun _ => stIn_len) t
      obtain ⟨f3, e3⟩ := st_body (fu := fu) (n := n) (S := S) (a := a) (Q := Q) (i := t) (k := k) (j := j) (l := l) (f := f2) (acc := acc ++ (List.range t).flatMap (stIn a Q j l k)) ha (by omega) hk (by rw [List.length_append]; omega)
      refine ⟨_, _, _, by rw [show (0 : Int) + (t : Int) = (t : Int) by omega]; rfl, e3, some (.int (t : Int)), f3, rfl, ?_⟩
      rw [range_flat, List.append_assoc]
      rfl)
  rw [show (rngD 0 m).length = m by simp [rngD]] at h2
  obtain ⟨o2, f2, rfl, rfl⟩ := h2
  exact ⟨o2, f2, h1⟩
theorem r_sts {j l : Nat} (w : Wf S) (ha : a.length ≤ 1000) (hl : l < Q.length) (hQ : Q.length ≤ 100) (hj : j ≤ l) :
    run G fu (n + 1) 21 [dt a, .lst (Q.map dt), .int (j : Int), .int (l : Int)] S = .ok (.lst ((sts a Q j l).map dt)) S := by
  rw [run_go (env := [some (dt a), some (.lst (Q.map dt)), some (.int (j : Int)), some (.int (l : Int)), none, none, none, none]) G21 rfl rfl]
  simp only [c21]
  rw [xs_cons]
  simp only [x_set, e_cell, e_lst, es_nil, bo]
  rw [seqR_ok (by simp)]
  simp only [bo, cellR_lst, andThen_nx, List.set_cons_succ, List.set_cons_zero]
  rw [xs_cons]
  simp only [x_for, ei_2, e_var, List.getD_cons_zero, List.getD_cons_succ, slotR_some, bo]
  rw [rng2R_int (by omega) (by omega)]
  simp only [bo]
  rw [show ((l : Int) - (j : Int)).toNat = l - j by omega]
  obtain ⟨env2, S2, h1, h2⟩ := for_inv (items := rngD (j : Int) (l - j)) (st := (Tg.one 5).set)
    (f := fun env S => xcs (run G fu n) fu (.cons (.for (.one 6) (.rng1 (.var 2)) stBody) .nil) env S) (env := stEnv a Q j l S none none none) (S := S ++ [.lst []])
    (fun t env S' => ∃ k o f, env = stEnv a Q j l S k o f ∧ S' = S ++ [.lst (((List.range t).flatMap (stAt a Q j l)).map dt)])
    ⟨none, none, none, rfl, by simp⟩ (by
      rintro t x env S' hx ⟨k, o, f, rfl, rfl⟩
      obtain ⟨lt, rfl⟩ := rng_at hx
      have el : (j : Int) + (t : Int) = ((j + t : Nat) : Int) := by omega
      have bl := flat_len (g := stAt a Q j l) (c := 100) (fun k => Nat.le_trans stAt_len (by omega)) t
      obtain ⟨o3, f3, e3⟩ := st_inner (fu := fu) (n := n) (S := S) (a := a) (Q := Q) (j := j) (l := l) (k := j + t) (m := j) (o := o) (f := f) (acc := (List.range t).flatMap (stAt a Q j l)) ha (by omega) (by omega) (by omega)
      refine ⟨stEnv a Q j l S (some (.int ((j + t : Nat) : Int))) o f, _, _, by rw [el]; rfl, ?_, some (.int ((j + t : Nat) : Int)), o3, f3, rfl, rfl⟩
      rw [xs_cons]
      simp only [x_for, ei_1, e_var, List.getD_cons_zero, List.getD_cons_succ, slotR_some, bo]
      rw [rngR_int (by omega)]
      simp only [bo]
      rw [Int.toNat_natCast, e3]
      simp only [andThen_nx, xs_nil]
      rw [range_flat]
      rfl)
  rw [show (rngD (j : Int) (l - j)).length = l - j by simp [rngD]] at h2
  obtain ⟨k, o, f, rfl, rfl⟩ := h2
  have h1' : forLoop none (Tg.one 5).set (fun env S => xcs (run G fu n) fu (.cons (.for (.one 6) (.rng1 (.var 2)) stBody) .nil) env S) (rngD (j : Int) (l - j)) [some (dt a), some (.lst (Q.map dt)), some (.int (j : Int)), some (.int (l : Int)), some (.loc S.length), none, none, none] (S ++ [.lst []]) = _ := h1
  rw [h1', andThen_nx, xs_cons]
  simp only [x_ret, e_snap, List.getD_cons_zero, List.getD_cons_succ]
  rw [snap_end]
  simp only [bo, andThen_ret, toD_ret]
  exact fin_more w lo_strs
theorem lc_pureG {g : Option (Nat × List D)} {st : D → Option Env} {fc fe : Env → Store → R D} {S : Store} (hg : Good g S) {p : D → Bool} {q : D → D} : ∀ {items : List D}, (∀ x ∈ items, ∃ env, st x = some env ∧ fc env S = .ok (.bl (p x)) S ∧ (p x = true → fe env S = .ok (q x) S)) →
    lcLoop g st fc fe items S = .ok ((items.filter p).map q) S
  | [], _ => by
    unfold lcLoop
    rw [if_pos hg]
    rfl
  | x :: xs, h => by
    unfold lcLoop
    rw [if_pos hg]
    obtain ⟨env, h1, h2, h3⟩ := h x List.mem_cons_self
    rw [h1]
    dsimp only
    rw [h2]
    dsimp only [R.nox_ok, R.bind_ok]
    have ih := lc_pureG hg fun y hy => h y (List.mem_cons_of_mem _ hy)
    cases hp : p x with
    | false =>
      dsimp only
      rw [ih, List.filter_cons_of_neg (by simp [hp])]
    | true =>
      dsimp only
      rw [h3 hp]
      dsimp only [R.nox_ok, R.bind_ok]
      rw [ih, List.filter_cons_of_pos hp]
      rfl
theorem lcR_pureG {g : Option (Nat × List D)} {st : D → Option Env} {fc fe : Env → Store → R D} {S : Store} {items : List D} (hg : Good g S) (p : D → Bool) (q : D → D) (hl : items.length ≤ 16000000) (h : ∀ x ∈ items, ∃ env, st x = some env ∧ fc env S = .ok (.bl (p x)) S ∧ (p x = true → fe env S = .ok (q x) S)) :
    lcR g st fc fe items S = .ok (.lst ((items.filter p).map q)) S := by
  unfold lcR
  rw [if_pos (okLen_le' hl), lc_pureG hg h]
  rfl
theorem mul3 (l : List Nat) : Txt.mul (tx l) 3 = tx (l ++ l ++ l) := by
  unfold Txt.mul
  rw [if_neg (by decide)]
  by_cases h : l = []
  · subst h
    rfl
  · have : ((3 : Int) == 1 || (tx l).length == 0) = false := by
      rw [tx_len]
      simp [h]
    rw [this, if_neg (by decide)]
    unfold tx
    congr 1
    show (((#[] ++ l.toArray) ++ l.toArray) ++ l.toArray) = _
    simp
theorem t_mul3 {l : List Nat} (h : l.length ≤ 1000) : Op2.mul.app (dt l) (.int 3) S = .ok (dt (l ++ l ++ l)) S := by
  show (if 0 ≤ (3 : Int) ∧ (3 : Int) ≤ 1000 ∧ (tx l).length ≤ 1000 then R.ok (D.str (Txt.mul (tx l) 3)) S else .bad) = _
  rw [tx_len, if_pos ⟨by decide, by decide, h⟩, mul3]
end
end SV
/-! SvL16b: the law k16: _law_moved. -/
namespace SV
open PySem
def mvIn (a : List Nat) (Q : List (List Nat)) (l j : Nat) : List (List Nat) := if Q.getD j [] = Q.getD l [] then sts a Q j l else []
def mvAt (a : List Nat) (Q : List (List Nat)) (l : Nat) : List (List Nat) := (List.range l).flatMap (mvIn a Q l)
def rngs (a : List Nat) (m : Nat) : List (List Nat) := (List.range (m - 1)).map fun i => ((a.take m ++ a.take m ++ a.take m).drop (i + 1)).take a.length
def mvd (a : List Nat) (Q : List (List Nat)) : List (List Nat) := (List.range Q.length).flatMap (mvAt a Q) ++ (if Q.getD 0 [] = Q.getD (Q.length - 1) [] then rngs a (Q.length - 1) else [])
section
variable {fu n : Nat} {S : Store} {a : List Nat} {Q : List (List Nat)}
theorem sts_len {j l : Nat} (hQ : Q.length ≤ 20) (hl : l < Q.length) (hj : j ≤ l) : (sts a Q j l).length ≤ 400 := by
  have := flat_len (g := stAt a Q j l) (c := 20) (fun k => Nat.le_trans stAt_len (by omega)) (l - j)
  have h2 : (l - j) * 20 ≤ 20 * 20 := Nat.mul_le_mul_right _ (by omega)
  unfold sts
  omega
theorem mvIn_len {l j : Nat} (hQ : Q.length ≤ 20) (hl : l < Q.length) (hj : j ≤ l) : (mvIn a Q l j).length ≤ 400 := by
  unfold mvIn
  split
  · exact sts_len hQ hl hj
  · simp
abbrev mvBody : Cs := .cons (.ifs (.cmp .eq (.idx (.var 2) (.var 5)) (.idx (.var 2) (.var 4))) (.cons (.expr (.mth .extend (.var 3) (.cons (.call 21 (.cons (.var 0) (.cons (.var 2) (.cons (.var 5) (.cons (.var 4) .nil))))) .nil))) .nil) (.nil)) .nil
abbrev mvEnv (a : List Nat) (w : Nat) (Q : List (List Nat)) (S : Store) (o p : Option D) : Env := [some (dt a), some (.int (w : Int)), some (.lst (Q.map dt)), some (.loc S.length), o, p, none, none, none]
theorem mv_body {w l j : Nat} {acc : List (List Nat)} (wf : Wf S) (ha : a.length ≤ 1000) (hj : j < Q.length) (hl : l < Q.length) (hjl : j ≤ l) (hQ : Q.length ≤ 20) (hacc : acc.length ≤ 1000000) :
    xcs (run G fu (n + 1)) fu mvBody (mvEnv a w Q S (some (.int (l : Int))) (some (.int (j : Int)))) (S ++ [.lst (acc.map dt)]) =
      .ok (.nx (mvEnv a w Q S (some (.int (l : Int))) (some (.int (j : Int))))) (S ++ [.lst ((acc ++ mvIn a Q l j).map dt)]) := by
  unfold mvBody mvEnv mvIn
  rw [xs_cons]
  simp only [x_ifs, e_cmp, e_idx, e_var, List.getD_cons_zero, List.getD_cons_succ, slotR_some, bo]
  rw [at_row hj]
  simp only [bo]
  rw [at_row hl]
  simp only [bo]
  rw [t_eq]
  simp only [bo]
  by_cases c : Q.getD j [] = Q.getD l []
  · rw [decide_eq_true c, if_pos c]
    simp only [ifb_t]
    rw [xs_cons]
    simp only [x_expr, e_mth, e_var, List.getD_cons_zero, List.getD_cons_succ, slotR_some, bo]
    rw [if_pos recv_ext]
    simp only [es_cons, es_nil, e_call, e_var, List.getD_cons_zero, List.getD_cons_succ, slotR_some, bo]
    rw [r_sts wf.strs ha hl (by omega) hjl]
    simp only [bo]
    have := sts_len (a := a) (Q := Q) (j := j) (l := l) hQ hl hjl
    rw [ext_end (by rw [List.length_map, List.length_map]; omega)]
    simp only [bo, andThen_nx, xs_nil, List.map_append]
  · rw [decide_eq_false c, if_neg c, List.append_nil]
    simp only [ifb_f, xs_nil, andThen_nx]
theorem mv_inner {w l m : Nat} {o : Option D} {acc : List (List Nat)} (wf : Wf S) (ha : a.length ≤ 1000) (hl : l < Q.length) (hm : m ≤ l) (hQ : Q.length ≤ 20) (hacc : acc.length ≤ 900000) :
    ∃ o2, forLoop none (Tg.one 5).set (fun env S => xcs (run G fu (n + 1)) fu mvBody env S) (rngD 0 m) (mvEnv a w Q S (some (.int (l : Int))) o) (S ++ [.lst (acc.map dt)]) =
      .ok (.nx (mvEnv a w Q S (some (.int (l : Int))) o2)) (S ++ [.lst ((acc ++ (List.range m).flatMap (mvIn a Q l)).map dt)]) := by
  obtain ⟨env2, S2, h1, h2⟩ := for_inv (items := rngD 0 m) (st := (Tg.one 5).set) (f := fun env S => xcs (run G fu (n + 1)) fu mvBody env S) (env := mvEnv a w Q S (some (.int (l : Int))) o) (S := S ++ [.lst (acc.map dt)])
    (fun t env S' => ∃ o2, env = mvEnv a w Q S (some (.int (l : Int))) o2 ∧ S' = S ++ [.lst ((acc ++ (List.range t).flatMap (mvIn a Q l)).map dt)])
    ⟨o, rfl, by simp⟩ (by
      rintro t x env S' hx ⟨o2, rfl, rfl⟩
      obtain ⟨lt, rfl⟩ := rng_at hx
      have bl := flat_lenB (g := mvIn a Q l) (c := 400) t fun j hj => mvIn_len hQ hl (by omega)
      refine ⟨_, _, _, by rw [show (0 : Int) + (t : Int) = (t : Int) by omega]; rfl, ?_, some (.int (t : Int)), rfl, rfl⟩
      rw [range_flat, ← List.append_assoc]
      exact mv_body wf ha (by omega) hl (by omega) hQ (by rw [List.length_append]; omega))
  rw [show (rngD 0 m).length = m by simp [rngD]] at h2
  obtain ⟨o2, rfl, rfl⟩ := h2
  exact ⟨o2, h1⟩
theorem mv_outer {w : Nat} (wf : Wf S) (ha : a.length ≤ 1000) (hQ : Q.length ≤ 20) :
    ∃ o o2, forLoop none (Tg.one 4).set (fun env S => xcs (run G fu (n + 1)) fu (.cons (.for (.one 5) (.rng1 (.var 4)) mvBody) .nil) env S) (rngD 0 Q.length) (mvEnv a w Q S none none) (S ++ [.lst []]) =
      .ok (.nx (mvEnv a w Q S o o2)) (S ++ [.lst (((List.range Q.length).flatMap (mvAt a Q)).map dt)]) ∧ ((List.range Q.length).flatMap (mvAt a Q)).length ≤ 160000 := by
  have len : ∀ t, t ≤ Q.length → ((List.range t).flatMap (mvAt a Q)).length ≤ t * 8000 := fun t ht => flat_lenB (g := mvAt a Q) (c := 8000) t fun l hl => by
    have := flat_lenB (g := mvIn a Q l) (c := 400) l fun j hj => mvIn_len hQ (by omega) (by omega)
    unfold mvAt
    omega
  obtain ⟨env2, S2, h1, h2⟩ := for_inv (items := rngD 0 Q.length) (st := (Tg.one 4).set) (f := fun env S => xcs (run G fu (n + 1)) fu (.cons (.for (.one 5) (.rng1 (.var 4)) mvBody) .nil) env S) (env := mvEnv a w Q S none none) (S := S ++ [.lst []])
    (fun t env S' => ∃ o o2, env = mvEnv a w Q S o o2 ∧ S' = S ++ [.lst (((List.range t).flatMap (mvAt a Q)).map dt)])
    ⟨none, none, rfl, by simp⟩ (by
      rintro t x env S' hx ⟨o, o2, rfl, rfl⟩
      obtain ⟨lt, rfl⟩ := rng_at hx
      have bl := len t (by omega)
      obtain ⟨o3, e3⟩ := mv_inner (fu := fu) (n := n) (S := S) (a := a) (w := w) (Q := Q) (l := t) (m := t) (o := o2) (acc := (List.range t).flatMap (mvAt a Q)) wf ha lt (Nat.le_refl _) hQ (by omega)
      refine ⟨mvEnv a w Q S (some (.int (t : Int))) o2, _, _, by rw [show (0 : Int) + (t : Int) = (t : Int) by omega]; rfl, ?_, some (.int (t : Int)), o3, rfl, rfl⟩
      rw [xs_cons]
      simp only [x_for, ei_1, e_var, List.getD_cons_zero, List.getD_cons_succ, slotR_some, bo]
      rw [rngR_int (by omega)]
      simp only [bo]
      rw [Int.toNat_natCast, e3]
      simp only [andThen_nx, xs_nil]
      rw [range_flat]
      rfl)
  rw [show (rngD 0 Q.length).length = Q.length by simp [rngD]] at h2
  obtain ⟨o, o2, rfl, rfl⟩ := h2
  have := len Q.length (Nat.le_refl _)
  exact ⟨o, o2, h1, by omega⟩
theorem last_row (h : 0 < Q.length) : atD (.lst (Q.map dt)) (.int (-1)) S = .ok (dt (Q.getD (Q.length - 1) [])) S := by
  show (match L2.atI (Q.map dt) (-1) with | some d => R.ok d S | none => .bad) = _
  have e : L2.atI (Q.map dt) (-1) = some (dt (Q.getD (Q.length - 1) [])) := by
    unfold L2.atI L2.ixN
    rw [if_neg (by decide)]
    simp only [List.length_map]
    rw [if_pos (by omega)]
    have : ((-1 : Int) + (Q.length : Int)).toNat = Q.length - 1 := by omega
    simp [this, List.getD_eq_getElem?_getD, show Q.length - 1 < Q.length by omega]
  rw [e]
theorem r_moved {w : Nat} (wf : Wf S) (h : Fit a w) (hQ : Q = pcs a (w - 1) (a.length - w + 2)) : ∀ ts : List (List Nat), (∀ S, ssetR (((mvd a Q).filter fun t => !decide (t = a)).map dt) S = .ok (.lst (ts.map dt)) S) →
    run G fu (n + 2) 22 [dt a, .int (w : Int)] S = .ok (.lst (ts.map dt)) S := by
  intro ts hts
  have := h.l
  have := h.lo
  have := h.w1
  have := h.w4
  have := h.hi
  have hL : Q.length = a.length - w + 2 := by rw [hQ, pcs_len]
  rw [run_go (env := [some (dt a), some (.int (w : Int)), none, none, none, none, none, none, none]) G22 rfl rfl]
  simp only [c22]
  rw [xs_cons]
  simp only [x_set, e_call, e_var, es_cons, es_nil, List.getD_cons_zero, List.getD_cons_succ, slotR_some, bo]
  rw [r_row h, ← hQ]
  simp only [bo, andThen_nx, List.set_cons_succ, List.set_cons_zero]
  rw [xs_cons]
  simp only [x_set, e_cell, e_lst, es_nil, bo]
  rw [seqR_ok (by simp)]
  simp only [bo, cellR_lst, andThen_nx, List.set_cons_succ, List.set_cons_zero]
  rw [xs_cons]
  simp only [x_for, ei_1, e_bi, e_var, es_cons, es_nil, List.getD_cons_zero, List.getD_cons_succ, slotR_some, bo]
  rw [len_row]
  simp only [bo]
  rw [rngR_int (by omega)]
  simp only [bo]
  rw [Int.toNat_natCast]
  obtain ⟨o, o2, h1, hlen⟩ := mv_outer (fu := fu) (n := n) (S := S) (a := a) (w := w) (Q := Q) wf (by omega) (by omega)
  have h1' : forLoop none (Tg.one 4).set (fun env S => xcs (run G fu (n + 1)) fu (.cons (.for (.one 5) (.rng1 (.var 4)) mvBody) .nil) env S) (rngD 0 Q.length) [some (dt a), some (.int (w : Int)), some (.lst (Q.map dt)), some (.loc S.length), none, none, none, none, none] (S ++ [.lst []]) = _ := h1
  rw [h1', andThen_nx, xs_cons]
  -- the last statement, whatever is in the cell and in slot 6
  have last : ∀ (q6 : Option D) (L : List (List Nat)), L.length ≤ 200000 → (L = mvd a Q) → fin S.length (toD (xcs (run G fu (n + 1)) fu (.cons (.ret (.sset (.lc (.var 8) (.one 8) (.e (.var 3)) (.some (.cmp .ne (.var 8) (.var 0)))))) .nil)
      [some (dt a), some (.int (w : Int)), some (.lst (Q.map dt)), some (.loc S.length), o, o2, q6, none, none] (S ++ [.lst (L.map dt)]))) = .ok (.lst (ts.map dt)) S := fun q6 L hl he => by
    subst he
    rw [xs_cons]
    simp only [x_ret, e_sset, e_lc, ei_e, e_var, List.getD_cons_zero, List.getD_cons_succ, slotR_some, bo]
    have ei : itR (.loc S.length) (S ++ [.lst ((mvd a Q).map dt)]) = .ok ⟨(mvd a Q).map dt, some (S.length, (mvd a Q).map dt)⟩ (S ++ [.lst ((mvd a Q).map dt)]) := by
      have g := get_end S (.lst ((mvd a Q).map dt))
      unfold itR srcD
      simp only [g]
    rw [ei]
    simp only [bo]
    rw [lcR_pureG (g := some (S.length, (mvd a Q).map dt)) (show Good _ _ from get_end S _) (fun d => match d with | .str x => !decide (x = tx a) | _ => true) id (by rw [List.length_map]; omega) (fun x hx => by
      obtain ⟨t, _, rfl⟩ := List.mem_map.mp hx
      refine ⟨_, rfl, ?_, fun _ => ?_⟩
      · simp only [ec_some, e_cmp, e_var, List.set_cons_succ, List.set_cons_zero, List.getD_cons_zero, List.getD_cons_succ, slotR_some, bo]
        rw [t_ne]
        congr 3
        rw [decide_eq_decide]
        exact tx_inj.symm
      · simp only [e_var, List.set_cons_succ, List.set_cons_zero, List.getD_cons_zero, List.getD_cons_succ, slotR_some]
        rfl)]
    rw [List.map_id, filter_dt (p := fun t => !decide (t = a)) (fun t => by
      show (!decide (tx t = tx a)) = (!decide (t = a))
      congr 1
      rw [decide_eq_decide]
      exact tx_inj)]
    simp only [bo]
    have es : ∀ (env : Env) (S' : Store), setOfF ssetR (fun _ S => .ok (.lst (((mvd a Q).filter fun t => !decide (t = a)).map dt)) S) env S' = .ok (.lst (ts.map dt)) S' := fun env S' => hts S'
    rw [es]
    simp only [bo, andThen_ret, toD_ret]
    exact fin_more wf lo_strs
  simp only [x_ifs, e_cmp, e_idx, e_neg, e_var, e_cst, List.getD_cons_zero, List.getD_cons_succ, slotR_some, negR_int, bo]
  have z0 := at_row (S := S ++ [.lst (((List.range Q.length).flatMap (mvAt a Q)).map dt)]) (Q := Q) (j := 0) (by omega)
  rw [show ((0 : Nat) : Int) = 0 from rfl] at z0
  rw [z0]
  simp only [bo]
  rw [last_row (by omega)]
  simp only [bo]
  rw [t_eq]
  simp only [bo]
  by_cases c : Q.getD 0 [] = Q.getD (Q.length - 1) []
  · rw [decide_eq_true c]
    simp only [ifb_t]
    rw [xs_cons]
    simp only [x_set, e_op, e_sl, e_bi, e_var, e_cst, eo_none, eo_some, es_cons, es_nil, List.getD_cons_zero, List.getD_cons_succ, slotR_some, bo]
    rw [len_row]
    simp only [bo, p_sub, intO_int]
    rw [show (Q.length : Int) - 1 = ((Q.length - 1 : Nat) : Int) by omega, t_cut (by omega), cut_to]
    simp only [bo]
    rw [t_mul3 (by rw [List.length_take]; omega)]
    simp only [bo, andThen_nx, List.set_cons_succ, List.set_cons_zero]
    rw [xs_cons]
    simp only [x_expr, e_mth, e_var, List.getD_cons_zero, List.getD_cons_succ, slotR_some, bo]
    rw [if_pos recv_ext]
    simp only [es_cons, es_nil, e_lc, ei_2, e_op, e_bi, e_var, e_cst, List.getD_cons_zero, List.getD_cons_succ, slotR_some, bo]
    rw [len_row]
    simp only [bo, p_sub]
    rw [rng2R_int (by omega) (by omega)]
    simp only [bo]
    rw [show ((Q.length : Int) - 1 - 1).toNat = Q.length - 1 - 1 by omega]
    rw [rng_lc (fun i => ((a.take (Q.length - 1) ++ a.take (Q.length - 1) ++ a.take (Q.length - 1)).drop (i + 1)).take a.length) (by omega) (fun i hi => ⟨_, rfl, ec_none, by
      simp only [e_sl, e_op, e_bi, e_var, e_cst, eo_some, es_cons, es_nil, List.set_cons_succ, List.set_cons_zero, List.getD_cons_zero, List.getD_cons_succ, slotR_some, bo, intO_int]
      rw [t_len (by omega)]
      simp only [bo, p_add, intO_int]
      rw [show (1 : Int) + (i : Int) = ((i + 1 : Nat) : Int) by omega, show ((i + 1 : Nat) : Int) + (a.length : Int) = ((i + 1 + a.length : Nat) : Int) by omega, t_cut (by simp only [List.length_append, List.length_take]; omega), cut_mid, Nat.add_sub_cancel_left]⟩)]
    simp only [bo]
    rw [ext_end (by simp only [List.length_map, List.length_range]; omega)]
    simp only [bo, andThen_nx, xs_nil, ← List.map_append]
    refine last _ _ (by simp only [List.length_append, List.length_map, List.length_range]; omega) ?_
    unfold mvd
    rw [if_pos c]
    rfl
  · rw [decide_eq_false c]
    simp only [ifb_f, xs_nil, andThen_nx]
    refine last _ _ (by omega) ?_
    unfold mvd
    rw [if_neg c, List.append_nil]
end
end SV
/-! SvM16: sorted lists with the same members are equal; the mathematics of k16. -/
namespace SV
open PySem
/-- rising, each once -/
def Rise (ts : List (List Nat)) : Prop := ts.Nodup ∧ ts.Pairwise fun x y => PySem.W.dataLe false D.py (dt x) (dt y) = true
theorem rise_eq {ts us : List (List Nat)} (h : Rise ts) (k : Rise us) (m : ∀ t, t ∈ ts ↔ t ∈ us) : ts = us := by
  refine ((List.perm_ext_iff_of_nodup h.1 k.1).mpr m).eq_of_pairwise (fun a b _ _ h1 h2 => ?_) h.2 k.2
  have q1 : (!(PyProof.Rows.listOrd PyProof.Rows.itemOrd).blt (PySem.W.keyToks (dt b).py) (PySem.W.keyToks (dt a).py)) = true := h1
  have q2 : (!(PyProof.Rows.listOrd PyProof.Rows.itemOrd).blt (PySem.W.keyToks (dt a).py) (PySem.W.keyToks (dt b).py)) = true := h2
  rw [Bool.not_eq_true'] at q1 q2
  have e := kD_toks (a := .inr (tx a)) (b := .inr (tx b)) ((PyProof.Rows.listOrd PyProof.Rows.itemOrd).total _ _ q2 q1)
  exact tx_inj.mp (Sum.inr.inj e)
theorem Rise.filter {ts : List (List Nat)} (h : Rise ts) (p : List Nat → Bool) : Rise (ts.filter p) := ⟨h.1.sublist List.filter_sublist, h.2.sublist List.filter_sublist⟩
/-- sorted(set(l)): these texts, rising -/
theorem sset_rise (l : List (List Nat)) (hl : l.length < 4000) : ∃ ts : List (List Nat), (∀ S, ssetR (l.map dt) S = .ok (.lst (ts.map dt)) S) ∧ (∀ t, t ∈ ts ↔ t ∈ l) ∧ ts.length ≤ l.length ∧ Rise ts := by
  obtain ⟨ts, h1, h2, h3⟩ := sset_ex l hl
  refine ⟨ts, h1, h2, h3, ?_⟩
  have e := h1 []
  unfold ssetR at e
  rw [keysD_texts] at e
  dsimp only at e
  split at e
  · next ok =>
    have e2 : sortD ((dd (l.map fun t => (Sum.inr (tx t) : SKey))).map kD) = ts.map dt := by
      injection e with e3
      exact D.lst.inj e3
    have T := PySem.W.sortLe_total (α := D) (PyProof.Rows.listOrd PyProof.Rows.itemOrd) false (fun b => PySem.W.keyToks b.py)
    have s1 := List.pairwise_mergeSort (le := PySem.W.dataLe false D.py) (fun a b c => T.trans a b c) (fun a b => by rw [Bool.or_eq_true]; exact T.total a b) ((dd (l.map fun t => (Sum.inr (tx t) : SKey))).map kD)
    have s2 : (ts.map dt).Pairwise fun a b => PySem.W.dataLe false D.py a b = true := e2 ▸ s1
    have n1 : ((dd (l.map fun t => (Sum.inr (tx t) : SKey))).map kD).Nodup := List.Pairwise.map kD (fun a b hab z => hab (kD_toks (congrArg (fun d => PySem.W.keyToks d.py) z))) (nodup_dd _)
    have n2 : (ts.map dt).Nodup := e2 ▸ ((sortD_perm _).nodup_iff.mpr n1)
    exact ⟨List.Pairwise.of_map dt (fun a b hab z => hab (congrArg dt z)) n2, List.Pairwise.of_map dt (fun a b hab => hab) s2⟩
  · cases e
end SV
/-! SvM16b: the law's moved texts are those of exchanges and turns. -/
namespace SV
open PySem
theorem pcs_getD {a : List Nat} {v m p : Nat} (hp : p < m) : (pcs a v m).getD p [] = pc a v p := by
  unfold pcs
  rw [List.getD_eq_getElem?_getD, List.getElem?_map, List.getElem?_range hp]
  rfl
theorem mem_sts {a t : List Nat} {Q : List (List Nat)} {j l : Nat} : t ∈ sts a Q j l ↔ ∃ i k, i < j ∧ j ≤ k ∧ k < l ∧ Q.getD i [] = Q.getD k [] ∧ t = exch a i k j l := by
  unfold sts stAt stIn
  simp only [List.mem_flatMap, List.mem_range]
  constructor
  · rintro ⟨k, hk, i, hi, h⟩
    split at h
    · next c =>
      rw [List.mem_singleton] at h
      exact ⟨i, j + k, hi, by omega, by omega, c, h⟩
    · cases h
  · rintro ⟨i, k, h1, h2, h3, h4, h5⟩
    refine ⟨k - j, by omega, i, h1, ?_⟩
    rw [show j + (k - j) = k by omega, if_pos h4]
    exact List.mem_singleton.mpr h5
theorem mem_mv {a t : List Nat} {Q : List (List Nat)} : t ∈ (List.range Q.length).flatMap (mvAt a Q) ↔ ∃ i k j l, i < j ∧ j ≤ k ∧ k < l ∧ l < Q.length ∧ Q.getD i [] = Q.getD k [] ∧ Q.getD j [] = Q.getD l [] ∧ t = exch a i k j l := by
  unfold mvAt mvIn
  simp only [List.mem_flatMap, List.mem_range]
  constructor
  · rintro ⟨l, hl, j, hj, h⟩
    split at h
    · next c =>
      obtain ⟨i, k, h1, h2, h3, h4, h5⟩ := mem_sts.mp h
      exact ⟨i, k, j, l, h1, h2, h3, hl, h4, c, h5⟩
    · cases h
  · rintro ⟨i, k, j, l, h1, h2, h3, h4, h5, h6, h7⟩
    refine ⟨l, h4, j, by omega, ?_⟩
    rw [if_pos h6]
    exact mem_sts.mpr ⟨i, k, h1, h2, h3, h5, h7⟩
theorem ring_turn {a : List Nat} {w i : Nat} (h : Fit a w) (c : a.take (w - 1) = a.drop (a.length - w + 1)) (hi : i < a.length - w) :
    ((a.take (a.length - w + 1) ++ a.take (a.length - w + 1) ++ a.take (a.length - w + 1)).drop (i + 1)).take a.length = turn a w (i + 1) := by
  have := h.lo
  have := h.w1
  have := h.w4
  generalize hm : a.length - w + 1 = m
  have hml : (a.take m).length = m := by rw [List.length_take]; omega
  have ea : a = a.take m ++ a.take (w - 1) := by
    have e := List.take_append_drop m a
    rw [← hm] at e ⊢
    rw [← c] at e
    exact e.symm
  have ed : a.drop (i + 1) = (a.take m).drop (i + 1) ++ a.take (w - 1) := by
    conv => lhs; rw [ea]
    rw [List.drop_append_of_le_length (by omega)]
  have edl : ((a.take m).drop (i + 1)).length = m - (i + 1) := by rw [List.length_drop, hml]
  unfold turn
  rw [hm]
  have e1 : (a.drop (i + 1)).take (m - (i + 1)) = (a.take m).drop (i + 1) := by
    rw [ed, List.take_append_of_le_length (by omega), List.take_of_length_le (by omega)]
  have e2 : (a.drop (i + 1)).take (w - 1) = ((a.take m).drop (i + 1) ++ a.take m).take (w - 1) := by
    rw [ed]
    by_cases hw : w - 1 ≤ m - (i + 1)
    · rw [List.take_append_of_le_length (by omega), List.take_append_of_le_length (by omega)]
    · rw [List.take_append, List.take_append, edl]
      congr 1
      rw [List.take_take, List.take_take]
      congr 1
      omega
  rw [e1, e2]
  have e3 : a.take (i + 1) = (a.take m).take (i + 1) := by
    rw [List.take_take]
    congr 1
    omega
  rw [e3, List.append_assoc (a.take m), List.drop_append_of_le_length (by omega)]
  have e4 : a.take m ++ a.take m = (a.take m).take (i + 1) ++ ((a.take m).drop (i + 1) ++ a.take m) := by
    rw [← List.append_assoc, List.take_append_drop]
  rw [e4, ← List.append_assoc, List.take_append]
  have l2 : ((a.take m).drop (i + 1) ++ (a.take m).take (i + 1)).length = m := by
    rw [List.length_append, edl, List.length_take, hml]
    omega
  rw [List.take_of_length_le (by omega), l2]
  congr 2
  omega
theorem mem_mvd {a t : List Nat} {w : Nat} (h : Fit a w) : t ∈ mvd a (pcs a (w - 1) (a.length - w + 2)) ↔ t ∈ exOf a w ∨ t ∈ turns a w := by
  have hl : (pcs a (w - 1) (a.length - w + 2)).length = a.length - w + 2 := pcs_len _ _ _
  have := h.lo
  have := h.w1
  unfold mvd
  rw [List.mem_append, mem_mv, mem_exOf, mem_turns]
  have g : ∀ p, p < a.length - w + 2 → (pcs a (w - 1) (a.length - w + 2)).getD p [] = pc a (w - 1) p := fun p hp => pcs_getD hp
  refine or_congr ?_ ?_
  · rw [hl]
    constructor
    · rintro ⟨i, k, j, l, h1, h2, h3, h4, h5, h6, h7⟩
      rw [g i (by omega), g k (by omega)] at h5
      rw [g j (by omega), g l (by omega)] at h6
      exact ⟨i, k, j, l, h1, h2, h3, h4, h5, h6, h7⟩
    · rintro ⟨i, k, j, l, h1, h2, h3, h4, h5, h6, h7⟩
      refine ⟨i, k, j, l, h1, h2, h3, h4, ?_, ?_, h7⟩
      · rw [g i (by omega), g k (by omega)]
        exact h5
      · rw [g j (by omega), g l (by omega)]
        exact h6
  · rw [hl, show a.length - w + 2 - 1 = a.length - w + 1 by omega, g 0 (by omega), g _ (by omega)]
    have e1 : pc a (w - 1) 0 = a.take (w - 1) := by unfold pc; rw [List.drop_zero]
    have e2 : pc a (w - 1) (a.length - w + 1) = a.drop (a.length - w + 1) := by
      unfold pc
      rw [List.take_of_length_le (by rw [List.length_drop]; omega)]
    rw [e1, e2]
    by_cases c : a.take (w - 1) = a.drop (a.length - w + 1)
    · rw [if_pos c]
      unfold rngs
      simp only [List.mem_map, List.mem_range]
      constructor
      · rintro ⟨i, hi, rfl⟩
        exact ⟨c, i, by omega, ring_turn h c (by omega)⟩
      · rintro ⟨_, i, hi, rfl⟩
        exact ⟨i, by omega, ring_turn h c hi⟩
    · rw [if_neg c]
      constructor
      · intro z
        cases z
      · rintro ⟨z, _⟩
        exact absurd z c
theorem sts_len2 {a : List Nat} {Q : List (List Nat)} {j l : Nat} (hl : l < 10) (hj : j ≤ l) : (sts a Q j l).length ≤ 25 := by
  have h1 := flat_len (g := stAt a Q j l) (c := j) (fun k => stAt_len) (l - j)
  have h2 := small_mul (l - j) (by omega) j (by omega) (by omega)
  unfold sts
  omega
theorem mvd_len {a : List Nat} {w : Nat} (h : Fit a w) : ((mvd a (pcs a (w - 1) (a.length - w + 2))).filter fun t => !decide (t = a)).length < 4000 := by
  have := h.lo
  have := h.hi
  have hl : (pcs a (w - 1) (a.length - w + 2)).length = a.length - w + 2 := pcs_len _ _ _
  generalize pcs a (w - 1) (a.length - w + 2) = Q at hl
  have h0 := List.length_filter_le (fun t => !decide (t = a)) (mvd a Q)
  have h1 : ((List.range Q.length).flatMap (mvAt a Q)).length ≤ Q.length * 250 := flat_lenB (g := mvAt a Q) (c := 250) Q.length fun l hlt => by
    have := flat_lenB (g := mvIn a Q l) (c := 25) l fun j hj => by
      unfold mvIn
      split
      · exact sts_len2 (by omega) (by omega)
      · simp
    unfold mvAt
    omega
  have h2 : (mvd a Q).length ≤ ((List.range Q.length).flatMap (mvAt a Q)).length + Q.length := by
    unfold mvd rngs
    rw [List.length_append]
    split
    · rw [List.length_map, List.length_range]
      omega
    · simp
  omega
theorem turns_len {a : List Nat} {w : Nat} (h : Fit a w) : (turns a w).length ≤ 12 := by
  have := h.l
  unfold turns
  split
  · rw [List.length_map, List.length_range]
    omega
  · simp
/-- both tell the same list -/
theorem same16 {a : List Nat} {w : Nat} (h : Fit a w) : ∃ ts : List (List Nat), ts.length ≤ 4000 ∧ (∀ t, t ∈ ts ↔ t ≠ a ∧ (t ∈ exOf a w ∨ t ∈ turns a w)) ∧ Rise ts ∧ (∀ fu n S, Wf S → run G fu (n + 5) 17 [dt a, .int (w : Int)] S = .ok (.lst (ts.map dt)) S) ∧
    ∀ fu n S, Wf S → run G fu (n + 2) 22 [dt a, .int (w : Int)] S = .ok (.lst (ts.map dt)) S := by
  have le := exOf_len h
  have lt := turns_len h
  obtain ⟨ts, h1, h2, h3, h4⟩ := sset_rise (exOf a w ++ turns a w) (by rw [List.length_append]; omega)
  rw [List.length_append] at h3
  have nr := next_run h h1 (by omega) le lt
  have hm : ∀ t, t ∈ ts.filter (fun t => !decide (t = a)) ↔ t ≠ a ∧ (t ∈ exOf a w ∨ t ∈ turns a w) := fun t => by
    rw [List.mem_filter, h2, List.mem_append]
    simp only [Bool.not_eq_true', decide_eq_false_iff_not]
    exact And.comm
  obtain ⟨us, k1, k2, k3, k4⟩ := sset_rise ((mvd a (pcs a (w - 1) (a.length - w + 2))).filter fun t => !decide (t = a)) (mvd_len h)
  have e : us = ts.filter (fun t => !decide (t = a)) := rise_eq k4 (h4.filter _) fun t => by
    rw [k2, hm, List.mem_filter, mem_mvd h]
    simp only [Bool.not_eq_true', decide_eq_false_iff_not]
    exact And.comm
  refine ⟨ts.filter (fun t => !decide (t = a)), ?_, hm, h4.filter _, nr, fun fu n S wf => ?_⟩
  · have := List.length_filter_le (fun t => !decide (t = a)) ts
    omega
  · rw [← e]
    exact r_moved wf h rfl us k1
end SV
/-! SvZ: walking a code: what is wanted of a result. -/
namespace SV
open PySem
universe u v
/-- so that simp does not look into what is wanted -/
inductive Tag {α : Sort u} {β : Sort v} (a : α) (b : β) : Type
  | mk
/-- what is wanted of a result -/
def Wp {α : Type} (r : R α) (Q : α → Store → Prop) (E : Nat → Store → Prop) (t : Tag Q E) : Prop := match r with
  | .ok a S => Q a S
  | .exc c S => E c S
  | .bad => False
section
variable {α β : Type} {Q : α → Store → Prop} {E : Nat → Store → Prop} {t : Tag Q E}
theorem wp_ok {a : α} {S : Store} : Wp (.ok a S) Q E t = Q a S := by cases S <;> rfl
theorem wp_exc {c : Nat} {S : Store} : Wp (.exc c S) Q E t = E c S := by cases S <;> rfl
theorem wp_bind {r : R β} {f : β → Store → R α} : Wp (r.bind f) Q E t = Wp r (fun a S => Wp (f a S) Q E .mk) E .mk := by cases r <;> rfl
theorem wp_cong {r : R α} {Q' : α → Store → Prop} {t' : Tag Q' E} (h : ∀ a S, Q a S = Q' a S) : Wp r Q E t = Wp r Q' E t' := by
  cases r with
  | ok a S => exact h a S
  | exc c S => rfl
  | bad => rfl
theorem wp_imp {r : R α} {Q' : α → Store → Prop} {t' : Tag Q' E} (h : Wp r Q' E t') (k : ∀ a S, Q' a S → Q a S) : Wp r Q E t := by
  cases r with
  | ok a S => exact k a S h
  | exc c S => exact h
  | bad => exact h
theorem wp_nox {r : R α} : Wp r.nox Q E t = Wp r Q (fun _ _ => False) .mk := by cases r <;> rfl
/-- the result itself -/
theorem wp_eq {r : R α} {a : α} {S : Store} {E' : Nat → Store → Prop} {t' : Tag (fun x S' => x = a ∧ S' = S) (fun _ _ => False)} (h : Wp r (fun x S' => x = a ∧ S' = S) (fun _ _ => False) t') : r = .ok a S := by
  cases r with
  | ok b S2 =>
    obtain ⟨h1, h2⟩ := h
    rw [h1, h2]
  | exc c S => exact h.elim
  | bad => exact h.elim
theorem wp_of {r : R α} {a : α} {S : Store} (h : r = .ok a S) (k : Q a S) : Wp r Q E t := by
  rw [h]
  exact k
end
/-- the statements behind -/
def Sq (Γ : Nat → List D → Store → R D) (fu : Nat) (cs : Cs) (Q : Fl → Store → Prop) (E : Nat → Store → Prop) (t : Tag Q E) : Fl → Store → Prop := fun fl S => match fl with
  | .nx env => Wp (xcs Γ fu cs env S) Q E .mk
  | fl => Q fl S
section
variable {Γ : Nat → List D → Store → R D} {fu : Nat} {cs : Cs} {Q : Fl → Store → Prop} {E : Nat → Store → Prop} {t : Tag Q E} {env : Env} {S : Store}
theorem sq_nx : Sq Γ fu cs Q E t (.nx env) S = Wp (xcs Γ fu cs env S) Q E .mk := by cases S <;> rfl
theorem sq_bk : Sq Γ fu cs Q E t (.bk env) S = Q (.bk env) S := by cases S <;> rfl
theorem sq_ct : Sq Γ fu cs Q E t (.ct env) S = Q (.ct env) S := by cases S <;> rfl
theorem sq_ret {d : D} : Sq Γ fu cs Q E t (.ret d) S = Q (.ret d) S := by cases S <;> rfl
end
/-! ### expressions -/
section
variable {Γ : Nat → List D → Store → R D} {fu : Nat} {env : Env} {S : Store}
section
variable {Q : D → Store → Prop} {E : Nat → Store → Prop} {t : Tag Q E}
theorem w_var {i : Nat} : Wp (ev Γ (.var i) env S) Q E t = Wp (slotR (env.getD i none) S) Q E .mk := by rw [e_var]
theorem w_cst {d : D} : Wp (ev Γ (.cst d) env S) Q E t = Q d S := by rw [e_cst, wp_ok]
theorem w_glb {x : Str} {d : D} : Wp (ev Γ (.glb x d) env S) Q E t = Q d S := by rw [e_glb, wp_ok]
theorem w_op {o : Op2} {a b : SV.E} : Wp (ev Γ (.op o a b) env S) Q E t = Wp (ev Γ a env S) (fun x S => Wp (ev Γ b env S) (fun y S => Wp (o.app x y S) Q E .mk) E .mk) E .mk := by
  rw [e_op, wp_bind]; refine wp_cong fun x S => ?_; rw [wp_bind]
theorem w_neg {a : SV.E} : Wp (ev Γ (.neg a) env S) Q E t = Wp (ev Γ a env S) (fun x S => Wp (negR x S) Q E .mk) E .mk := by rw [e_neg, wp_bind]
theorem w_cmp {o : Cm} {a b : SV.E} : Wp (ev Γ (.cmp o a b) env S) Q E t = Wp (ev Γ a env S) (fun x S => Wp (ev Γ b env S) (fun y S => Wp (cmA o x y S) Q E .mk) E .mk) E .mk := by
  rw [e_cmp, wp_bind]; refine wp_cong fun x S => ?_; rw [wp_bind]
theorem wp_ifb {α : Type} {Q : α → Store → Prop} {E : Nat → Store → Prop} {t : Tag Q E} {c : Bool} {a b : R α} : Wp (ifb (.bl c) a b) Q E t = if c = true then Wp a Q E .mk else Wp b Q E .mk := by
  cases c
  · rw [ifb_f, if_neg (by decide)]
  · rw [ifb_t, if_pos rfl]
theorem wp_ift {α : Type} {Q : α → Store → Prop} {E : Nat → Store → Prop} {t : Tag Q E} {a b : R α} : Wp (ifb (.bl true) a b) Q E t = Wp a Q E .mk := by rw [ifb_t]
theorem wp_iff {α : Type} {Q : α → Store → Prop} {E : Nat → Store → Prop} {t : Tag Q E} {a b : R α} : Wp (ifb (.bl false) a b) Q E t = Wp b Q E .mk := by rw [ifb_f]
/-- by a proposition -/
theorem wp_ifd1 {α : Type} {Q : α → Store → Prop} {E : Nat → Store → Prop} {t : Tag Q E} {c : Prop} [Decidable c] {a b : R α} (h : c) : Wp (ifb (.bl (decide c)) a b) Q E t = Wp a Q E .mk := by rw [decide_eq_true h, ifb_t]
theorem wp_ifd0 {α : Type} {Q : α → Store → Prop} {E : Nat → Store → Prop} {t : Tag Q E} {c : Prop} [Decidable c] {a b : R α} (h : ¬ c) : Wp (ifb (.bl (decide c)) a b) Q E t = Wp b Q E .mk := by rw [decide_eq_false h, ifb_f]
theorem wp_ifn1 {α : Type} {Q : α → Store → Prop} {E : Nat → Store → Prop} {t : Tag Q E} {c : Prop} [Decidable c] {a b : R α} (h : c) : Wp (ifb (.bl (!decide c)) a b) Q E t = Wp b Q E .mk := by rw [decide_eq_true h]; exact wp_iff
theorem wp_ifn0 {α : Type} {Q : α → Store → Prop} {E : Nat → Store → Prop} {t : Tag Q E} {c : Prop} [Decidable c] {a b : R α} (h : ¬ c) : Wp (ifb (.bl (!decide c)) a b) Q E t = Wp a Q E .mk := by rw [decide_eq_false h]; exact wp_ift
theorem w_chn {o o' : Cm} {a b c : SV.E} : Wp (ev Γ (.chn o o' a b c) env S) Q E t = Wp (ev Γ a env S) (fun x S => Wp (ev Γ b env S) (fun y S => Wp (cmA o x y S) (fun d S => Wp (ifb d ((ev Γ c env S).bind fun z S => cmA o' y z S) (.ok (.bl false) S)) Q E .mk) E .mk) E .mk) E .mk := by
  rw [e_chn, wp_bind]; refine wp_cong fun x S => ?_; rw [wp_bind]; refine wp_cong fun y S => ?_; rw [wp_bind]
theorem w_not {a : SV.E} : Wp (ev Γ (.not a) env S) Q E t = Wp (ev Γ a env S) (fun x S => Wp (ifb x (.ok (.bl false) S) (.ok (.bl true) S)) Q E .mk) E .mk := by rw [e_not, wp_bind]
theorem w_and {a b : SV.E} : Wp (ev Γ (.and a b) env S) Q E t = Wp (ev Γ a env S) (fun x S => Wp (ifb x (ev Γ b env S) (.ok (.bl false) S)) Q E .mk) E .mk := by rw [e_and, wp_bind]
theorem w_or {a b : SV.E} : Wp (ev Γ (.or a b) env S) Q E t = Wp (ev Γ a env S) (fun x S => Wp (ifb x (.ok (.bl true) S) (ev Γ b env S)) Q E .mk) E .mk := by rw [e_or, wp_bind]
theorem w_ite {c a b : SV.E} : Wp (ev Γ (.ite c a b) env S) Q E t = Wp (ev Γ c env S) (fun x S => Wp (ifb x (ev Γ a env S) (ev Γ b env S)) Q E .mk) E .mk := by rw [e_ite, wp_bind]
theorem w_tup {es : Es} : Wp (ev Γ (.tup es) env S) Q E t = Wp (evs Γ es env S) (fun l S => Wp (seqR .tup l S) Q E .mk) E .mk := by rw [e_tup, wp_bind]
theorem w_lst {es : Es} : Wp (ev Γ (.lst es) env S) Q E t = Wp (evs Γ es env S) (fun l S => Wp (seqR .lst l S) Q E .mk) E .mk := by rw [e_lst, wp_bind]
theorem w_idx {a b : SV.E} : Wp (ev Γ (.idx a b) env S) Q E t = Wp (ev Γ a env S) (fun x S => Wp (ev Γ b env S) (fun y S => Wp (atD x y S) Q E .mk) E .mk) E .mk := by
  rw [e_idx, wp_bind]; refine wp_cong fun x S => ?_; rw [wp_bind]
theorem w_sl {a : SV.E} {lo hi : Eo} : Wp (ev Γ (.sl a lo hi) env S) Q E t = Wp (ev Γ a env S) (fun x S => Wp (evo Γ lo env S) (fun l S => Wp (evo Γ hi env S) (fun h S => Wp (cutD x l h S) Q E .mk) E .mk) E .mk) E .mk := by
  rw [e_sl, wp_bind]; refine wp_cong fun x S => ?_; rw [wp_bind]; refine wp_cong fun y S => ?_; rw [wp_bind]
theorem w_call {f : Nat} {es : Es} : Wp (ev Γ (.call f es) env S) Q E t = Wp (evs Γ es env S) (fun l S => Wp (Γ f l S) Q E .mk) E .mk := by rw [e_call, wp_bind]
theorem w_bi {f : Bi} {es : Es} : Wp (ev Γ (.bi f es) env S) Q E t = Wp (evs Γ es env S) (fun l S => Wp (f.app l S) Q E .mk) E .mk := by rw [e_bi, wp_bind]
def mthR (m : Mt) (x : D) (r : R (List D)) (S : Store) : R D := if m.recv x S then r.bind fun l S => m.app x l S else .bad
theorem w_mth {m : Mt} {o : SV.E} {es : Es} : Wp (ev Γ (.mth m o es) env S) Q E t = Wp (ev Γ o env S) (fun x S => Wp (mthR m x (evs Γ es env S) S) Q E .mk) E .mk := by rw [e_mth, wp_bind]; rfl
theorem wp_mth {m : Mt} {x : D} {r : R (List D)} (h : m.recv x S = true) : Wp (mthR m x r S) Q E t = Wp r (fun l S => Wp (m.app x l S) Q E .mk) E .mk := by
  unfold mthR
  rw [if_pos h, wp_bind]
theorem w_lc {elt : SV.E} {tg : Tg} {it : It} {cond : Eo} : Wp (ev Γ (.lc elt tg it cond) env S) Q E t = Wp (evi Γ it env S) (fun src S => Wp (lcR src.guard (fun d => tg.set d env) (evc Γ cond) (ev Γ elt) src.items S) Q E .mk) E .mk := by rw [e_lc, wp_bind]
theorem w_cell {a : SV.E} : Wp (ev Γ (.cell a) env S) Q E t = Wp (ev Γ a env S) (fun x S => Wp (cellR x S) Q E .mk) E .mk := by rw [e_cell, wp_bind]
theorem w_snap {i : Nat} : Wp (ev Γ (.snap i) env S) Q E t = Wp (snapR (env.getD i none) S) Q E .mk := by rw [e_snap]
def ssR (x : D) (S : Store) : R D := match x.items S with
  | some l => ssetR l S
  | none => .bad
def lsR (x : D) (S : Store) : R D := match x.items S with
  | some l => lsetR l S
  | none => .bad
theorem w_sset {a : SV.E} : Wp (ev Γ (.sset a) env S) Q E t = Wp (ev Γ a env S) (fun x S => Wp (ssR x S) Q E .mk) E .mk := by
  rw [ev, wp_bind]; rfl
theorem w_lset {a : SV.E} : Wp (ev Γ (.lset a) env S) Q E t = Wp (ev Γ a env S) (fun x S => Wp (lsR x S) Q E .mk) E .mk := by
  rw [ev, wp_bind]; rfl
theorem w_cn : Wp (evc Γ .none env S) Q E t = Q (.bl true) S := by rw [ec_none, wp_ok]
theorem w_cs {e : SV.E} : Wp (evc Γ (.some e) env S) Q E t = Wp (ev Γ e env S) Q E .mk := by rw [ec_some]
theorem w_slot {d : D} : Wp (slotR (some d) S) Q E t = Q d S := by rw [slotR_some, wp_ok]
end
section
variable {Q : List D → Store → Prop} {E : Nat → Store → Prop} {t : Tag Q E}
theorem w_nil : Wp (evs Γ .nil env S) Q E t = Q [] S := by rw [es_nil, wp_ok]
theorem w_cons {e : SV.E} {es : Es} : Wp (evs Γ (.cons e es) env S) Q E t = Wp (ev Γ e env S) (fun x S => Wp (evs Γ es env S) (fun l S => Q (x :: l) S) E .mk) E .mk := by
  rw [es_cons, wp_bind]; refine wp_cong fun x S => ?_; rw [wp_bind]; refine wp_cong fun l S => ?_; rw [wp_ok]
end
section
variable {Q : Option Int → Store → Prop} {E : Nat → Store → Prop} {t : Tag Q E}
theorem w_on : Wp (evo Γ .none env S) Q E t = Q none S := by rw [eo_none, wp_ok]
theorem w_os {e : SV.E} : Wp (evo Γ (.some e) env S) Q E t = Wp (ev Γ e env S) (fun x S => Wp (intO x S) Q E .mk) E .mk := by rw [eo_some, wp_bind]
end
section
variable {Q : Src → Store → Prop} {E : Nat → Store → Prop} {t : Tag Q E}
theorem w_ie {a : SV.E} : Wp (evi Γ (.e a) env S) Q E t = Wp (ev Γ a env S) (fun x S => Wp (itR x S) Q E .mk) E .mk := by rw [ei_e, wp_bind]
theorem w_i1 {a : SV.E} : Wp (evi Γ (.rng1 a) env S) Q E t = Wp (ev Γ a env S) (fun x S => Wp (rngR x S) Q E .mk) E .mk := by rw [ei_1, wp_bind]
theorem w_i2 {a b : SV.E} : Wp (evi Γ (.rng2 a b) env S) Q E t = Wp (ev Γ a env S) (fun x S => Wp (ev Γ b env S) (fun y S => Wp (rng2R x y S) Q E .mk) E .mk) E .mk := by
  rw [ei_2, wp_bind]; refine wp_cong fun x S => ?_; rw [wp_bind]
end
/-! ### statements -/
section
variable {Q : Fl → Store → Prop} {E : Nat → Store → Prop} {t : Tag Q E}
theorem w_xnil : Wp (xcs Γ fu .nil env S) Q E t = Q (.nx env) S := by rw [xs_nil, wp_ok]
theorem w_xcons {c : C} {cs : Cs} : Wp (xcs Γ fu (.cons c cs) env S) Q E t = Wp (xc Γ fu c env S) (Sq Γ fu cs Q E .mk) E .mk := by
  rw [xs_cons]
  unfold andThen
  rw [wp_bind]
  refine wp_cong fun fl S => ?_
  cases fl <;> first | rfl | exact wp_ok
theorem w_pass : Wp (xc Γ fu .pass env S) Q E t = Q (.nx env) S := by rw [x_pass, wp_ok]
theorem w_expr {e : SV.E} : Wp (xc Γ fu (.expr e) env S) Q E t = Wp (ev Γ e env S) (fun _ S => Q (.nx env) S) E .mk := by
  rw [x_expr, wp_bind]; refine wp_cong fun x S => ?_; rw [wp_ok]
theorem w_set {i : Nat} {e : SV.E} : Wp (xc Γ fu (.set i e) env S) Q E t = Wp (ev Γ e env S) (fun x S => Q (.nx (env.set i (some x))) S) E .mk := by
  rw [x_set, wp_bind]; refine wp_cong fun x S => ?_; rw [wp_ok]
theorem w_setT {i j : Nat} {e : SV.E} : Wp (xc Γ fu (.setT i j e) env S) Q E t = Wp (ev Γ e env S) (fun x S => Wp (setTR (.two i j) x env S) Q E .mk) E .mk := by rw [x_setT, wp_bind]
theorem w_par {i j : Nat} {a b : SV.E} : Wp (xc Γ fu (.par i j a b) env S) Q E t = Wp (ev Γ a env S) (fun x S => Wp (ev Γ b env S) (fun y S => Q (.nx ((env.set i (some x)).set j (some y))) S) E .mk) E .mk := by
  rw [x_par, wp_bind, w_cons]; refine wp_cong fun x S => ?_; rw [w_cons]; refine wp_cong fun y S => ?_; rw [w_nil, parR_two, wp_ok]
theorem w_ret {e : SV.E} : Wp (xc Γ fu (.ret e) env S) Q E t = Wp (ev Γ e env S) (fun x S => Q (.ret x) S) E .mk := by
  rw [x_ret, wp_bind]; refine wp_cong fun x S => ?_; rw [wp_ok]
theorem w_retN : Wp (xc Γ fu .retN env S) Q E t = Q (.ret .non) S := by rw [x_retN, wp_ok]
theorem w_ifs {c : SV.E} {a b : Cs} : Wp (xc Γ fu (.ifs c a b) env S) Q E t = Wp (ev Γ c env S) (fun x S => Wp (ifb x (xcs Γ fu a env S) (xcs Γ fu b env S)) Q E .mk) E .mk := by rw [x_ifs, wp_bind]
theorem w_for {tg : Tg} {it : It} {b : Cs} : Wp (xc Γ fu (.for tg it b) env S) Q E t = Wp (evi Γ it env S) (fun src S => Wp (forLoop src.guard tg.set (xcs Γ fu b) src.items env S) Q E .mk) E .mk := by rw [x_for, wp_bind]
theorem w_whl {c : SV.E} {b : Cs} : Wp (xc Γ fu (.whl c b) env S) Q E t = Wp (whlLoop (ev Γ c) (xcs Γ fu b) fu env S) Q E .mk := by rw [x_whl]
theorem w_brk : Wp (xc Γ fu .brk env S) Q E t = Q (.bk env) S := by rw [x_brk, wp_ok]
theorem w_cnt : Wp (xc Γ fu .cnt env S) Q E t = Q (.ct env) S := by rw [xc, wp_ok]
theorem w_two {i j : Nat} {a b : D} : Wp (setTR (.two i j) (.tup [a, b]) env S) Q E t = Q (.nx ((env.set i (some a)).set j (some b))) S := by rw [setTR_two, wp_ok]
end
end
/-! ### a def's answer -/
def Ret (n : Nat) (r : R D) : Fl → Store → Prop := fun fl S => fin n (toD (.ok fl S)) = r
def RetE (n : Nat) (r : R D) : Nat → Store → Prop := fun c S => fin n (.exc c S) = r
theorem ret_ret {n : Nat} {r : R D} {d : D} {S : Store} : Ret n r (.ret d) S = (fin n (.ok d S) = r) := by cases S <;> rfl
theorem ret_nx {n : Nat} {r : R D} {env : Env} {S : Store} : Ret n r (.nx env) S = (fin n (.ok .non S) = r) := by cases S <;> rfl
theorem run_wp {G : Nat → Option Fd} {fu n i : Nat} {c : Fd} {ds : List D} {S : Store} {r : R D} (h : G i = some c) (hn : 1 ≤ n) (hl : ds.length = c.ar) 
    (k : Wp (xcs (run G fu (n - 1)) fu c.body (ds.map some ++ List.replicate (c.sl - ds.length) none) S) (Ret S.length r) (RetE S.length r) .mk) : run G fu n i ds S = r := by
  obtain ⟨m, rfl⟩ : ∃ m, n = m + 1 := ⟨n - 1, by omega⟩
  rw [Nat.add_sub_cancel] at k
  rw [run_go h hl rfl]
  cases q : xcs (run G fu m) fu c.body (ds.map some ++ List.replicate (c.sl - ds.length) none) S with
  | bad =>
    rw [q] at k
    exact k.elim
  | exc c S =>
    rw [q] at k
    exact k
  | ok fl S =>
    rw [q] at k
    exact k
/-- a def's answer, where the result is not one value -/
theorem run_wpQ {G : Nat → Option Fd} {fu n i : Nat} {c : Fd} {ds : List D} {S : Store} {Q : D → Store → Prop} {E : Nat → Store → Prop} {t : Tag Q E} (h : G i = some c) (hn : 1 ≤ n) (hl : ds.length = c.ar) 
    (k : Wp (xcs (run G fu (n - 1)) fu c.body (ds.map some ++ List.replicate (c.sl - ds.length) none) S) (fun fl S' => Wp (fin S.length (toD (.ok fl S'))) Q E .mk) (fun c S' => Wp (fin S.length (.exc c S')) Q E .mk) .mk) : Wp (run G fu n i ds S) Q E t := by
  obtain ⟨m, rfl⟩ : ∃ m, n = m + 1 := ⟨n - 1, by omega⟩
  rw [Nat.add_sub_cancel] at k
  rw [run_go h hl rfl]
  cases q : xcs (run G fu m) fu c.body (ds.map some ++ List.replicate (c.sl - ds.length) none) S with
  | bad =>
    rw [q] at k
    exact k.elim
  | exc c S =>
    rw [q] at k
    exact k
  | ok fl S =>
    rw [q] at k
    exact k
/-! ### whole numbers as natural ones -/
theorem nc_add {a b : Nat} : (a : Int) + (b : Int) = ((a + b : Nat) : Int) := by omega
theorem nc_sub {a b : Nat} (h : b ≤ a) : (a : Int) - (b : Int) = ((a - b : Nat) : Int) := by omega
theorem nc_p1 {a : Nat} : (a : Int) + 1 = ((a + 1 : Nat) : Int) := by omega
theorem nc_p2 {a : Nat} : (a : Int) + 2 = ((a + 2 : Nat) : Int) := by omega
theorem nc_p3 {a : Nat} : (a : Int) + 3 = ((a + 3 : Nat) : Int) := by omega
theorem nc_p4 {a : Nat} : (a : Int) + 4 = ((a + 4 : Nat) : Int) := by omega
theorem nc_sub2 {a : Nat} (h : 2 ≤ a) : (a : Int) - 2 = ((a - 2 : Nat) : Int) := by omega
theorem nc_sub1 {a : Nat} (h : 1 ≤ a) : (a : Int) - 1 = ((a - 1 : Nat) : Int) := by omega
theorem nc_1add {a : Nat} : (1 : Int) + (a : Int) = ((1 + a : Nat) : Int) := by omega
theorem nc_mul {a b : Nat} : (a : Int) * (b : Int) = ((a * b : Nat) : Int) := (Int.natCast_mul a b).symm
end SV
/-! SvP16: the law k16. -/
namespace SV
open PySem
local macro_rules
  | `(tactic| simp_arith) => `(tactic| simp -dsimp (disch := first | assumption | omega | (simp only [List.length_cons, List.length_nil, List.length_map, List.length_append, List.length_take, List.length_drop, List.length_range] <;> omega) | fail) only [↓wp_bind, ↓w_var, ↓w_cst, ↓w_glb, ↓w_op, ↓w_neg, ↓w_cmp, ↓wp_ift, ↓wp_iff, ↓wp_ifd1, ↓wp_ifd0, ↓wp_ifn1, ↓wp_ifn0, ↓w_chn, ↓w_not, ↓w_and, ↓w_or, ↓w_ite, ↓w_tup, ↓w_lst, ↓w_idx, ↓w_sl, ↓w_call, ↓w_bi, ↓w_mth, ↓w_lc, ↓w_cell, ↓w_snap, ↓w_sset, ↓w_lset, ↓w_cn, ↓w_cs, ↓w_nil, ↓w_cons, ↓w_on, ↓w_os, ↓w_ie, ↓w_i1, ↓w_i2, ↓w_xnil, ↓w_xcons, ↓w_pass, ↓w_expr, ↓w_set, ↓w_setT, ↓w_par, ↓w_ret, ↓w_retN, ↓w_ifs, ↓w_for, ↓w_whl, ↓w_brk, ↓w_cnt, ↓w_two, ↓sq_nx, ↓sq_ret, ↓sq_bk, ↓sq_ct, wp_ok, wp_exc, wp_mth, slotR_some, negR_int, intO_int, List.getD_cons_zero, List.getD_cons_succ, List.set_cons_succ, List.set_cons_zero, List.map_cons, List.map_nil, List.length_cons, List.length_nil, List.replicate_succ, List.replicate_zero, List.cons_append, List.nil_append, Nat.reduceAdd, Nat.reduceSub, ret_ret, ret_nx, fin_self, seqR_ok, cellR_lst, p_add, p_sub, p_mul, p_mul', p_mod, q_lt, q_le, q_gt, q_ge, rngR_int, rng2R_int, t_add, t_len, t_cut, t_at, t_eq, t_ne, t_isStr, i_isInt, i_isBool, nc_add, nc_sub, nc_p1, nc_p2, nc_p3, nc_p4, nc_sub1, nc_sub2, nc_1add, nc_mul, Int.toNat_natCast, cut_to, cut_from, cut_mid, decide_true, decide_false, Bool.not_true, Bool.not_false, wp_ift, wp_iff, wp_ifd1, wp_ifd0, wp_ifn1, wp_ifn0])
  | `(tactic| simp_arith [$xs,*]) => `(tactic| simp -dsimp (disch := first | assumption | omega | (simp only [List.length_cons, List.length_nil, List.length_map, List.length_append, List.length_take, List.length_drop, List.length_range] <;> omega) | fail) only [↓wp_bind, ↓w_var, ↓w_cst, ↓w_glb, ↓w_op, ↓w_neg, ↓w_cmp, ↓wp_ift, ↓wp_iff, ↓wp_ifd1, ↓wp_ifd0, ↓wp_ifn1, ↓wp_ifn0, ↓w_chn, ↓w_not, ↓w_and, ↓w_or, ↓w_ite, ↓w_tup, ↓w_lst, ↓w_idx, ↓w_sl, ↓w_call, ↓w_bi, ↓w_mth, ↓w_lc, ↓w_cell, ↓w_snap, ↓w_sset, ↓w_lset, ↓w_cn, ↓w_cs, ↓w_nil, ↓w_cons, ↓w_on, ↓w_os, ↓w_ie, ↓w_i1, ↓w_i2, ↓w_xnil, ↓w_xcons, ↓w_pass, ↓w_expr, ↓w_set, ↓w_setT, ↓w_par, ↓w_ret, ↓w_retN, ↓w_ifs, ↓w_for, ↓w_whl, ↓w_brk, ↓w_cnt, ↓w_two, ↓sq_nx, ↓sq_ret, ↓sq_bk, ↓sq_ct, wp_ok, wp_exc, wp_mth, slotR_some, negR_int, intO_int, List.getD_cons_zero, List.getD_cons_succ, List.set_cons_succ, List.set_cons_zero, List.map_cons, List.map_nil, List.length_cons, List.length_nil, List.replicate_succ, List.replicate_zero, List.cons_append, List.nil_append, Nat.reduceAdd, Nat.reduceSub, ret_ret, ret_nx, fin_self, seqR_ok, cellR_lst, p_add, p_sub, p_mul, p_mul', p_mod, q_lt, q_le, q_gt, q_ge, rngR_int, rng2R_int, t_add, t_len, t_cut, t_at, t_eq, t_ne, t_isStr, i_isInt, i_isBool, nc_add, nc_sub, nc_p1, nc_p2, nc_p3, nc_p4, nc_sub1, nc_sub2, nc_1add, nc_mul, Int.toNat_natCast, cut_to, cut_from, cut_mid, decide_true, decide_false, Bool.not_true, Bool.not_false, wp_ift, wp_iff, wp_ifd1, wp_ifd0, wp_ifn1, wp_ifn0, $xs,*])
theorem plain_of {G : Nat → Option Fd} {fu n i : Nat} {c : Fd} {ns : List Int} (h : G i = some c) (hn : 1 ≤ n) (hl : c.ar = 1) (k : Wp (xcs (run G fu (n - 1)) fu c.body ([D.scr ns].map some ++ List.replicate (c.sl - 1) none) []) (fun fl _ => fl = .ret (.bl true)) (fun _ _ => False) .mk) :
    ∃ S', run G fu n i [.scr ns] [] = .ok (.bl true) S' := by
  have e := run_wpQ (fu := fu) (ds := [.scr ns]) (S := []) (Q := fun d _ => d = .bl true) (E := fun _ _ => False) (t := .mk) h hn (by rw [hl]; rfl) (wp_imp k fun fl S e => by
    subst e
    obtain ⟨S', e⟩ := fin_ex 0 (.bl true) S
    rw [show toD (R.ok (Fl.ret (.bl true)) S) = .ok (.bl true) S from rfl, show ([] : Store).length = 0 from rfl, e, wp_ok])
  cases q : run G fu n i [.scr ns] [] with
  | ok d S =>
    rw [q, wp_ok] at e
    exact ⟨S, by rw [e]⟩
  | exc c S =>
    rw [q, wp_exc] at e
    exact e.elim
  | bad =>
    rw [q] at e
    exact e.elim
section
variable {fu n : Nat} {ns : List Int} {k : Nat} {Z : Store} {Q : D → Store → Prop} {E : Nat → Store → Prop} {t : Tag Q E}
theorem w_draw (m : Nat) (h : ns.length ≤ 63) (hn : 3 ≤ n) (hm : 0 < m) (hk : k < 100000) (c : ∀ r : Nat, r < m → Q (.int (r : Int)) (tw (k + 1) :: Z)) : Wp (run G fu n 2 [.scr ns, .loc 0, .int (m : Int)] (tw k :: Z)) Q E t := by
  obtain ⟨n, rfl⟩ := Nat.exists_eq_add_of_le' hn
  obtain ⟨r, hr, e⟩ := draw_some (fu := fu) (n := n) (ns := ns) (k := k) (m := m) (Z := Z) h hm hk
  exact wp_of e (c r hr)
theorem w_like {low M : Nat} (h : ns.length ≤ 63) (hn : 6 ≤ n) (hl : 2 ≤ low) (hl2 : low ≤ 4) (hM : 6 ≤ M) (hM2 : M ≤ 40) (hk : k + 1000 < 100000) (hfu : 1000 < fu)
    (c : ∀ (l : List Nat) (w k' : Nat), T3 l → M - 2 ≤ l.length → l.length ≤ M → 2 ≤ w → w ≤ 4 → k' ≤ k + 1000 → Q (.tup [dt l, .int (w : Int)]) (tw k' :: Z)) : Wp (run G fu n 5 [.scr ns, .loc 0, .int (low : Int), .int (M : Int)] (tw k :: Z)) Q E t := by
  obtain ⟨n, rfl⟩ := Nat.exists_eq_add_of_le' hn
  obtain ⟨l, w, k', h1, h2, h3, h4, h5, h6, e⟩ := r_like (fu := fu) (n := n) (ns := ns) (k := k) (Z := Z) (low := low) (M := M) h hl hl2 hM hM2 hk hfu
  exact wp_of e (c l w k' h1 h2 h3 h4 h5 h6)
end
theorem eq_texts {ts us : List (List Nat)} {S : Store} : cmA .eq (.lst (ts.map dt)) (.lst (us.map dt)) S = .ok (.bl (decide (ts = us))) S := by
  classical
  have o : ∀ l : List (List Nat), Ok 30 ((D.lst (l.map dt)).rd S) := fun l => ok_lst (n := 29) fun d hd => by
    obtain ⟨t, _, rfl⟩ := List.mem_map.mp hd
    exact ok_str
  rw [q_eq (o ts) (o us)]
  congr 2
  rw [decide_eq_decide]
  show D.lst (ts.map dt) = D.lst (us.map dt) ↔ _
  rw [D.lst.injEq]
  exact ⟨fun e => List.map_inj_right (fun x y => dt_inj.mp) |>.mp e, fun e => by rw [e]⟩
theorem ne_texts {ts us : List (List Nat)} {S : Store} : cmA .ne (.lst (ts.map dt)) (.lst (us.map dt)) S = .ok (.bl (!decide (ts = us))) S := by
  have e := eq_texts (ts := ts) (us := us) (S := S)
  unfold cmA at e ⊢
  show (match (eqD (.lst (ts.map dt)) (.lst (us.map dt)) S).map (!·) with | some c => R.ok (D.bl c) S | none => .bad) = _
  have e : (match eqD (.lst (ts.map dt)) (.lst (us.map dt)) S with | some c => R.ok (D.bl c) S | none => .bad) = _ := e
  cases q : eqD (.lst (ts.map dt)) (.lst (us.map dt)) S with
  | none =>
    rw [q] at e
    cases e
  | some c =>
    rw [q] at e
    injection e with e
    injection e with e
    rw [e]
    rfl
theorem i_eq {i j : Int} {S : Store} : cmA .eq (.int i) (.int j) S = .ok (.bl (decide (i = j))) S := by
  classical
  rw [q_eq (show Ok 30 ((D.int i).rd S) from ok_int) (show Ok 30 ((D.int j).rd S) from ok_int)]
  congr 2
  rw [decide_eq_decide]
  show D.int i = D.int j ↔ _
  rw [D.int.injEq]
theorem cut_to5 {α : Type} (l : List α) : cutL l none (some 5) = l.take 5 := cut_to l 5
theorem plain16 : Plain G 100000 60 23 := by
  intro ns hns
  refine plain_of G23 (by decide) rfl ?_
  simp only [c23]
  simp_arith
  refine w_draw (Z := []) (k := 0) 5 hns (by decide) (by decide) (by decide) fun r hr => ?_
  simp_arith
  refine w_like (Z := []) (k := 1) (low := 2) (M := 9) hns (by decide) (by decide) (by decide) (by decide) (by decide) (by decide) (by decide) fun a w k t1 a1 a2 w1 w2 hk => ?_
  simp_arith [i_eq]
  have tail : ∀ (b : List Nat) (v : Nat), Fit b v → Fit (if 2 * (v : Int) ≤ (b.length : Int) then b.take (b.length - v + 1) ++ b.take (v - 1) else b) v := fun b v h => by
    have := h.lo
    have := h.w1
    split
    · have el : (b.take (b.length - v + 1) ++ b.take (v - 1)).length = b.length := by
        rw [List.length_append, List.length_take, List.length_take]
        omega
      exact ⟨(h.t.take _).app (h.t.take _), by rw [el]; exact h.l, h.w1, h.w4, by omega, by rw [el]; exact h.hi⟩
    · exact h
  by_cases c : (r : Int) = 0
  · have e5 : (a.take 5).length = 5 := by rw [List.length_take]; omega
    have t5 := t1.take 5
    have s5 : cutL a none (some 5) = a.take 5 := cut_to5 a
    generalize a.take 5 = b at e5 t5 s5
    have hF : Fit b 1 := ⟨t5, by omega, by decide, by decide, by omega, by omega⟩
    obtain ⟨ts, -, -, -, e1, e2⟩ := same16 hF
    have d1 : run G 100000 59 17 [dt b, .int 1] [tw k] = _ := e1 100000 54 [tw k] (wf_tw k)
    have d2 : run G 100000 59 22 [dt b, .int 1] [tw k] = _ := e2 100000 57 [tw k] (wf_tw k)
    have b1 : b.take (b.length - 1 + 1) = b := List.take_of_length_le (by omega)
    have b2 : cutL b none (some (1 - 1)) = [] := cut_to b 0
    have b3 : (2 : Int) * 1 ≤ (b.length : Int) := by omega
    simp_arith [c, s5, b1, b2, b3, d1, d2, ne_texts, eq_texts, List.append_nil]
  · have hF : Fit a w := ⟨t1, by omega, by omega, w2, by omega, by omega⟩
    obtain ⟨ts, -, -, -, e1, e2⟩ := same16 hF
    have d1 := e1 100000 54 [tw k] (wf_tw k)
    have d2 := e2 100000 57 [tw k] (wf_tw k)
    obtain ⟨us, -, -, -, e3, e4⟩ := same16 (tail _ _ hF)
    have d3 := e3 100000 54 [tw k] (wf_tw k)
    have d4 := e4 100000 57 [tw k] (wf_tw k)
    by_cases cc : 2 * (w : Int) ≤ (a.length : Int)
    · rw [if_pos cc] at d3 d4
      simp_arith [c, cc, d1, d2, d3, d4, ne_texts, eq_texts]
    · simp_arith [c, cc, d1, d2, ne_texts, eq_texts]
end SV
namespace SV.k16
theorem plain : Plain G 100000 60 23 := plain16
end SV.k16
/-! the rows of law_k16_whole_exchanged (printed by gen.py) -/
namespace SV.k16
open PySem PySem.Spec PyProof.Rows L2
abbrev topS (i : Nat) : Stmt := PySem.Challenge.pw_slitview_k16_whole_exchanged.main.body.getD i (.Pass ⟨0, 0, 0, 0⟩)
def r__law_cell_at : Row := ⟨0, ("_law_cell_at" : Str), topS 24, ["_law_script", "_law_k"], ["_law_script", "_law_k"]⟩
def r__law_mixed : Row := ⟨1, ("_law_mixed" : Str), topS 25, ["_law_script", "_law_k", "_law_many"], ["_law_script", "_law_k", "_law_many", "_law_drawn"]⟩
def r__law_draw : Row := ⟨2, ("_law_draw" : Str), topS 26, ["_law_script", "_law_town", "_law_many"], ["_law_script", "_law_town", "_law_many"]⟩
def r__law_pick : Row := ⟨3, ("_law_pick" : Str), topS 27, ["_law_script", "_law_town", "_law_some"], ["_law_script", "_law_town", "_law_some"]⟩
def r__law_text : Row := ⟨4, ("_law_text" : Str), topS 28, ["_law_script", "_law_town", "_law_low", "_law_most"], ["_law_script", "_law_town", "_law_low", "_law_most", "_law_few", "_law_made", "_law_k"]⟩
def r__law_like : Row := ⟨5, ("_law_like" : Str), topS 29, ["_law_script", "_law_town", "_law_low", "_law_most"], ["_law_script", "_law_town", "_law_low", "_law_most", "_law_width", "_law_made"]⟩
def r_is_letters : Row := ⟨6, ("is_letters" : Str), topS 11, ["thing", "low", "most"], ["thing", "low", "most"]⟩
def r_need_text : Row := ⟨7, ("need_text" : Str), topS 12, ["thing"], ["thing"]⟩
def r_is_whole : Row := ⟨8, ("is_whole" : Str), topS 10, ["thing", "low", "most"], ["thing", "low", "most"]⟩
def r_need_width : Row := ⟨9, ("need_width" : Str), topS 13, ["thing"], ["thing"]⟩
def r_need_seen : Row := ⟨10, ("need_seen" : Str), topS 15, ["text", "width"], ["text", "width"]⟩
def r_windows_of : Row := ⟨11, ("windows_of" : Str), topS 14, ["text", "width"], ["text", "width", "at"]⟩
def r_view : Row := ⟨12, ("view" : Str), topS 16, ["text", "width"], ["text", "width"]⟩
def r_exchanges_at : Row := ⟨13, ("exchanges_at" : Str), topS 19, ["text", "row", "i", "k"], ["text", "row", "i", "k", "made", "j", "l"]⟩
def r_exchanges_of : Row := ⟨14, ("exchanges_of" : Str), topS 18, ["text", "width"], ["text", "width", "many", "row", "at", "made", "i", "k"]⟩
def r_turns_of : Row := ⟨15, ("turns_of" : Str), topS 20, ["text", "width"], ["text", "width", "many", "at"]⟩
def r_next_to : Row := ⟨16, ("next_to" : Str), topS 21, ["text", "width"], ["text", "width", "made", "other"]⟩
def r_exchanged : Row := ⟨17, ("exchanged" : Str), topS 22, ["text", "width"], ["text", "width"]⟩
def r__law_row : Row := ⟨20, ("_law_row" : Str), topS 31, ["_law_text_here", "_law_width"], ["_law_text_here", "_law_width", "_law_at"]⟩
def r__law_stretches : Row := ⟨21, ("_law_stretches" : Str), topS 33, ["_law_text_here", "_law_row_here", "_law_j", "_law_l"], ["_law_text_here", "_law_row_here", "_law_j", "_law_l", "_law_made", "_law_k", "_law_i", "_law_front"]⟩
def r__law_moved : Row := ⟨22, ("_law_moved" : Str), topS 32, ["_law_text_here", "_law_width"], ["_law_text_here", "_law_width", "_law_row_here", "_law_made", "_law_l", "_law_j", "_law_ring", "_law_at", "_law_other"]⟩
def r_law : Row := ⟨23, ("law" : Str), topS 34, ["_law_script"], ["_law_script", "_law_town", "_law_way", "_law_text_here", "_law_width", "_law_ring"]⟩
def rows : List Row := [r__law_cell_at, r__law_mixed, r__law_draw, r__law_pick, r__law_text, r__law_like, r_is_letters, r_need_text, r_is_whole, r_need_width, r_need_seen, r_windows_of, r_view, r_exchanges_at, r_exchanges_of, r_turns_of, r_next_to, r_exchanged, r__law_row, r__law_stretches, r__law_moved, r_law]
def csts : List (Str × D) := [(("LETTERS" : Str), (.str ("abc" : Str))), (("LONG" : Str), (.int 12)), (("WIDTH" : Str), (.int 4)), (("WINDOWS" : Str), (.int 9))]
theorem ok__law_cell_at : r__law_cell_at.ok G (tabOf G rows csts) = true := by decide +kernel
theorem ok__law_mixed : r__law_mixed.ok G (tabOf G rows csts) = true := by decide +kernel
theorem ok__law_draw : r__law_draw.ok G (tabOf G rows csts) = true := by decide +kernel
theorem ok__law_pick : r__law_pick.ok G (tabOf G rows csts) = true := by decide +kernel
theorem ok__law_text : r__law_text.ok G (tabOf G rows csts) = true := by decide +kernel
theorem ok__law_like : r__law_like.ok G (tabOf G rows csts) = true := by decide +kernel
theorem ok_is_letters : r_is_letters.ok G (tabOf G rows csts) = true := by decide +kernel
theorem ok_need_text : r_need_text.ok G (tabOf G rows csts) = true := by decide +kernel
theorem ok_is_whole : r_is_whole.ok G (tabOf G rows csts) = true := by decide +kernel
theorem ok_need_width : r_need_width.ok G (tabOf G rows csts) = true := by decide +kernel
theorem ok_need_seen : r_need_seen.ok G (tabOf G rows csts) = true := by decide +kernel
theorem ok_windows_of : r_windows_of.ok G (tabOf G rows csts) = true := by decide +kernel
theorem ok_view : r_view.ok G (tabOf G rows csts) = true := by decide +kernel
theorem ok_exchanges_at : r_exchanges_at.ok G (tabOf G rows csts) = true := by decide +kernel
theorem ok_exchanges_of : r_exchanges_of.ok G (tabOf G rows csts) = true := by decide +kernel
theorem ok_turns_of : r_turns_of.ok G (tabOf G rows csts) = true := by decide +kernel
theorem ok_next_to : r_next_to.ok G (tabOf G rows csts) = true := by decide +kernel
theorem ok_exchanged : r_exchanged.ok G (tabOf G rows csts) = true := by decide +kernel
theorem ok__law_row : r__law_row.ok G (tabOf G rows csts) = true := by decide +kernel
theorem ok__law_stretches : r__law_stretches.ok G (tabOf G rows csts) = true := by decide +kernel
theorem ok__law_moved : r__law_moved.ok G (tabOf G rows csts) = true := by decide +kernel
theorem ok_law : r_law.ok G (tabOf G rows csts) = true := by decide +kernel
theorem ok_all : ∀ r ∈ rows, r.ok G (tabOf G rows csts) = true := by
  intro r hr
  simp only [rows, List.mem_cons, List.not_mem_nil, or_false] at hr
  rcases hr with rfl | rfl | rfl | rfl | rfl | rfl | rfl | rfl | rfl | rfl | rfl | rfl | rfl | rfl | rfl | rfl | rfl | rfl | rfl | rfl | rfl | rfl
  · exact ok__law_cell_at
  · exact ok__law_mixed
  · exact ok__law_draw
  · exact ok__law_pick
  · exact ok__law_text
  · exact ok__law_like
  · exact ok_is_letters
  · exact ok_need_text
  · exact ok_is_whole
  · exact ok_need_width
  · exact ok_need_seen
  · exact ok_windows_of
  · exact ok_view
  · exact ok_exchanges_at
  · exact ok_exchanges_of
  · exact ok_turns_of
  · exact ok_next_to
  · exact ok_exchanged
  · exact ok__law_row
  · exact ok__law_stretches
  · exact ok__law_moved
  · exact ok_law
theorem b__law_cell_at : BindF r__law_cell_at := fun _ _ _ _ _ _ us hl => match us, hl with | [_, _], _ => rfl
theorem b__law_mixed : BindF r__law_mixed := fun _ _ _ _ _ _ us hl => match us, hl with | [_, _, _], _ => rfl
theorem b__law_draw : BindF r__law_draw := fun _ _ _ _ _ _ us hl => match us, hl with | [_, _, _], _ => rfl
theorem b__law_pick : BindF r__law_pick := fun _ _ _ _ _ _ us hl => match us, hl with | [_, _, _], _ => rfl
theorem b__law_text : BindF r__law_text := fun _ _ _ _ _ _ us hl => match us, hl with | [_, _, _, _], _ => rfl
theorem b__law_like : BindF r__law_like := fun _ _ _ _ _ _ us hl => match us, hl with | [_, _, _, _], _ => rfl
theorem b_is_letters : BindF r_is_letters := fun _ _ _ _ _ _ us hl => match us, hl with | [_, _, _], _ => rfl
theorem b_need_text : BindF r_need_text := fun _ _ _ _ _ _ us hl => match us, hl with | [_], _ => rfl
theorem b_is_whole : BindF r_is_whole := fun _ _ _ _ _ _ us hl => match us, hl with | [_, _, _], _ => rfl
theorem b_need_width : BindF r_need_width := fun _ _ _ _ _ _ us hl => match us, hl with | [_], _ => rfl
theorem b_need_seen : BindF r_need_seen := fun _ _ _ _ _ _ us hl => match us, hl with | [_, _], _ => rfl
theorem b_windows_of : BindF r_windows_of := fun _ _ _ _ _ _ us hl => match us, hl with | [_, _], _ => rfl
theorem b_view : BindF r_view := fun _ _ _ _ _ _ us hl => match us, hl with | [_, _], _ => rfl
theorem b_exchanges_at : BindF r_exchanges_at := fun _ _ _ _ _ _ us hl => match us, hl with | [_, _, _, _], _ => rfl
theorem b_exchanges_of : BindF r_exchanges_of := fun _ _ _ _ _ _ us hl => match us, hl with | [_, _], _ => rfl
theorem b_turns_of : BindF r_turns_of := fun _ _ _ _ _ _ us hl => match us, hl with | [_, _], _ => rfl
theorem b_next_to : BindF r_next_to := fun _ _ _ _ _ _ us hl => match us, hl with | [_, _], _ => rfl
theorem b_exchanged : BindF r_exchanged := fun _ _ _ _ _ _ us hl => match us, hl with | [_, _], _ => rfl
theorem b__law_row : BindF r__law_row := fun _ _ _ _ _ _ us hl => match us, hl with | [_, _], _ => rfl
theorem b__law_stretches : BindF r__law_stretches := fun _ _ _ _ _ _ us hl => match us, hl with | [_, _, _, _], _ => rfl
theorem b__law_moved : BindF r__law_moved := fun _ _ _ _ _ _ us hl => match us, hl with | [_, _], _ => rfl
theorem b_law : BindF r_law := fun _ _ _ _ _ _ us hl => match us, hl with | [_], _ => rfl
end SV.k16
/-! the law (printed by gen.py) -/
open PySem PySem.W PyProof.Rows SV in
set_option maxHeartbeats 0 in
theorem PySem.Challenge.cw_slitview_k16_whole_exchanged_holds : PySem.Challenge.rw_slitview_k16_whole_exchanged.Holds := by
  w_on; o_law; k_head; (case hw => w_witness2)
  k_fill
  refine L2.walk_of (l := PySem.Challenge.rw_slitview_k16_whole_exchanged) (n := 63) (k := 60) (x := "_law_script") (CX := fun w => L2.CX PySem.Challenge.rw_slitview_k16_whole_exchanged.prog w) (sp := fun w => SV.lawSp _) rfl (by decide) rfl ⟨rfl, by decide, by decide⟩ (fun w h Y => PySem.W.kIn_of Y) ?F (fun _ _ a ns hl _ hS => ⟨a, ns, rfl, hS, hl, fun _ => rfl⟩) (fun _ _ _ _ _ z => SV.cx_none _ _ _ _ z)
  case F =>
    intro w mg fa h KX Gm hmg
    refine SV.all_mk (fu := 100000) (cls := fun _ => "") (r := SV.k16.r_law) (rows := SV.k16.rows) (csts := SV.k16.csts) KX Gm hmg (by simp [SV.k16.rows]) rfl SV.k16.ok_all ?df ?cf ?bf SV.k16.plain
    case df =>
      clear hmg
      intro r hr
      simp only [SV.k16.rows, List.mem_cons, List.not_mem_nil, or_false] at hr
      rcases hr with rfl | rfl | rfl | rfl | rfl | rfl | rfl | rfl | rfl | rfl | rfl | rfl | rfl | rfl | rfl | rfl | rfl | rfl | rfl | rfl | rfl | rfl
      · refine ⟨?_, SV.k16.b__law_cell_at⟩
        show SV.DefF _ ("_law_cell_at" : Str) (SV.k16.topS 24)
        refine' SV.defF_mk ?a0 ?l0 ?c0 ?k0
        (case a0 => k_is); (case l0 => k_is); (case c0 => k_is); (case k0 => k_is)
      · refine ⟨?_, SV.k16.b__law_mixed⟩
        show SV.DefF _ ("_law_mixed" : Str) (SV.k16.topS 25)
        refine' SV.defF_mk ?a1 ?l1 ?c1 ?k1
        (case a1 => k_is); (case l1 => k_is); (case c1 => k_is); (case k1 => k_is)
      · refine ⟨?_, SV.k16.b__law_draw⟩
        show SV.DefF _ ("_law_draw" : Str) (SV.k16.topS 26)
        refine' SV.defF_mk ?a2 ?l2 ?c2 ?k2
        (case a2 => k_is); (case l2 => k_is); (case c2 => k_is); (case k2 => k_is)
      · refine ⟨?_, SV.k16.b__law_pick⟩
        show SV.DefF _ ("_law_pick" : Str) (SV.k16.topS 27)
        refine' SV.defF_mk ?a3 ?l3 ?c3 ?k3
        (case a3 => k_is); (case l3 => k_is); (case c3 => k_is); (case k3 => k_is)
      · refine ⟨?_, SV.k16.b__law_text⟩
        show SV.DefF _ ("_law_text" : Str) (SV.k16.topS 28)
        refine' SV.defF_mk ?a4 ?l4 ?c4 ?k4
        (case a4 => k_is); (case l4 => k_is); (case c4 => k_is); (case k4 => k_is)
      · refine ⟨?_, SV.k16.b__law_like⟩
        show SV.DefF _ ("_law_like" : Str) (SV.k16.topS 29)
        refine' SV.defF_mk ?a5 ?l5 ?c5 ?k5
        (case a5 => k_is); (case l5 => k_is); (case c5 => k_is); (case k5 => k_is)
      · refine ⟨?_, SV.k16.b_is_letters⟩
        show SV.DefF _ ("is_letters" : Str) (SV.k16.topS 11)
        refine' SV.defF_mk ?a6 ?l6 ?c6 ?k6
        (case a6 => k_is); (case l6 => k_is); (case c6 => k_is); (case k6 => k_is)
      · refine ⟨?_, SV.k16.b_need_text⟩
        show SV.DefF _ ("need_text" : Str) (SV.k16.topS 12)
        refine' SV.defF_mk ?a7 ?l7 ?c7 ?k7
        (case a7 => k_is); (case l7 => k_is); (case c7 => k_is); (case k7 => k_is)
      · refine ⟨?_, SV.k16.b_is_whole⟩
        show SV.DefF _ ("is_whole" : Str) (SV.k16.topS 10)
        refine' SV.defF_mk ?a8 ?l8 ?c8 ?k8
        (case a8 => k_is); (case l8 => k_is); (case c8 => k_is); (case k8 => k_is)
      · refine ⟨?_, SV.k16.b_need_width⟩
        show SV.DefF _ ("need_width" : Str) (SV.k16.topS 13)
        refine' SV.defF_mk ?a9 ?l9 ?c9 ?k9
        (case a9 => k_is); (case l9 => k_is); (case c9 => k_is); (case k9 => k_is)
      · refine ⟨?_, SV.k16.b_need_seen⟩
        show SV.DefF _ ("need_seen" : Str) (SV.k16.topS 15)
        refine' SV.defF_mk ?a10 ?l10 ?c10 ?k10
        (case a10 => k_is); (case l10 => k_is); (case c10 => k_is); (case k10 => k_is)
      · refine ⟨?_, SV.k16.b_windows_of⟩
        show SV.DefF _ ("windows_of" : Str) (SV.k16.topS 14)
        refine' SV.defF_mk ?a11 ?l11 ?c11 ?k11
        (case a11 => k_is); (case l11 => k_is); (case c11 => k_is); (case k11 => k_is)
      · refine ⟨?_, SV.k16.b_view⟩
        show SV.DefF _ ("view" : Str) (SV.k16.topS 16)
        refine' SV.defF_mk ?a12 ?l12 ?c12 ?k12
        (case a12 => k_is); (case l12 => k_is); (case c12 => k_is); (case k12 => k_is)
      · refine ⟨?_, SV.k16.b_exchanges_at⟩
        show SV.DefF _ ("exchanges_at" : Str) (SV.k16.topS 19)
        refine' SV.defF_mk ?a13 ?l13 ?c13 ?k13
        (case a13 => k_is); (case l13 => k_is); (case c13 => k_is); (case k13 => k_is)
      · refine ⟨?_, SV.k16.b_exchanges_of⟩
        show SV.DefF _ ("exchanges_of" : Str) (SV.k16.topS 18)
        refine' SV.defF_mk ?a14 ?l14 ?c14 ?k14
        (case a14 => k_is); (case l14 => k_is); (case c14 => k_is); (case k14 => k_is)
      · refine ⟨?_, SV.k16.b_turns_of⟩
        show SV.DefF _ ("turns_of" : Str) (SV.k16.topS 20)
        refine' SV.defF_mk ?a15 ?l15 ?c15 ?k15
        (case a15 => k_is); (case l15 => k_is); (case c15 => k_is); (case k15 => k_is)
      · refine ⟨?_, SV.k16.b_next_to⟩
        show SV.DefF _ ("next_to" : Str) (SV.k16.topS 21)
        refine' SV.defF_mk ?a16 ?l16 ?c16 ?k16
        (case a16 => k_is); (case l16 => k_is); (case c16 => k_is); (case k16 => k_is)
      · refine ⟨?_, SV.k16.b_exchanged⟩
        show SV.DefF _ ("exchanged" : Str) (SV.k16.topS 22)
        refine' SV.defF_mk ?a17 ?l17 ?c17 ?k17
        (case a17 => k_is); (case l17 => k_is); (case c17 => k_is); (case k17 => k_is)
      · refine ⟨?_, SV.k16.b__law_row⟩
        show SV.DefF _ ("_law_row" : Str) (SV.k16.topS 31)
        refine' SV.defF_mk ?a18 ?l18 ?c18 ?k18
        (case a18 => k_is); (case l18 => k_is); (case c18 => k_is); (case k18 => k_is)
      · refine ⟨?_, SV.k16.b__law_stretches⟩
        show SV.DefF _ ("_law_stretches" : Str) (SV.k16.topS 33)
        refine' SV.defF_mk ?a19 ?l19 ?c19 ?k19
        (case a19 => k_is); (case l19 => k_is); (case c19 => k_is); (case k19 => k_is)
      · refine ⟨?_, SV.k16.b__law_moved⟩
        show SV.DefF _ ("_law_moved" : Str) (SV.k16.topS 32)
        refine' SV.defF_mk ?a20 ?l20 ?c20 ?k20
        (case a20 => k_is); (case l20 => k_is); (case c20 => k_is); (case k20 => k_is)
      · refine ⟨?_, SV.k16.b_law⟩
        show SV.DefF _ ("law" : Str) (SV.k16.topS 34)
        refine' SV.defF_mk ?a21 ?l21 ?c21 ?k21
        (case a21 => k_is); (case l21 => k_is); (case c21 => k_is); (case k21 => k_is)
    case cf =>
      clear hmg
      intro p hp
      simp only [SV.k16.csts, List.mem_cons, List.not_mem_nil, or_false] at hp
      rcases hp with rfl | rfl | rfl | rfl
      · refine' SV.cstS_mk ?z0
        (case z0 => k_is)
      · refine' SV.cstI_mk ?z1
        (case z1 => k_is)
      · refine' SV.cstI_mk ?z2
        (case z2 => k_is)
      · refine' SV.cstI_mk ?z3
        (case z3 => k_is)
    case bf =>
      clear hmg
      intro x hx
      simp only [SV.bltNames, List.mem_cons, List.not_mem_nil, or_false] at hx
      rcases hx with rfl | rfl | rfl | rfl | rfl | rfl | rfl | rfl | rfl | rfl | rfl | rfl | rfl | rfl | rfl
      · k_is
      · k_is
      · k_is
      · k_is
      · k_is
      · k_is
      · k_is
      · k_is
      · k_is
      · k_is
      · k_is
      · k_is
      · k_is
      · k_is
      · k_is
