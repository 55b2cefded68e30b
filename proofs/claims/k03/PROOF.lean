import PyProof.Rows.All
import HandS.ForMost
import HandS.ForExc
import KE.SortData
import KE.DataIsa
import KE.DataMinMax
import KE.DataFind
import KE.DataAny
import KE.DataCmp
import KE.DataEq
import KE.DatumIndex
import KE.KDictKeyed
import HandS.TupAny
import HandS.TupMul
import HandS.StrMore
import HandS.Strs
import HandS.SuiteRaise
import KE.KeyNested
import HandS.Exc
import PyProof.TupleOfSeq
import PyProof.ListStr
import HandS.Conv
import HandS.Replace
import HandS.Set
import HandS.SetFor
import PyProof.Rows.SetFrom
import HandS.Iter
import HandS.Text
import PySem.Challenge.RW_slitview_k03_whole_rings
set_option Elab.async false
set_option linter.all false
set_option maxRecDepth 100000
set_option autoImplicit false
/-! SvA: pure data, the small code language, its evaluator. -/
namespace SV
open PySem

/-! ### data -/
inductive D where
  | non
  | bl (b : Bool)
  | int (i : Int)
  | str (s : Str)
  | tup (l : List D)
  | lst (l : List D)
  | scr (l : List Int)
  | loc (n : Nat)
  | fn (g : Str)
  | dctv (ks : List L2.Key) (vs : List D)
  | exn (c : Nat)

inductive Cell where
  | lst (l : List D)
  | dct (l : List (D × D))
  | obj (c : Nat) (l : List (Str × D))
  | dead
abbrev Store := List Cell
abbrev Env := List (Option D)

mutual
def D.py : D → PyData
  | .non => .none
  | .bl b => .bool b
  | .int i => .int i
  | .str s => .str s
  | .tup l => .tuple (D.pys l)
  | .lst l => .list (D.pys l)
  | .scr l => .list (l.map .int)
  | .loc _ => .none
  | .fn _ => .none
  | .dctv _ _ => .none
  | .exn _ => .none
def D.pys : List D → List PyData
  | [] => []
  | d :: l => D.py d :: D.pys l
end
mutual
/-- no cell, no def within -/
def D.pure : D → Bool
  | .tup l => D.pures l
  | .lst l => D.pures l
  | .scr _ => false
  | .loc _ => false
  | .fn _ => false
  | .dctv _ _ => false
  | .exn _ => false
  | _ => true
def D.pures : List D → Bool
  | [] => true
  | d :: l => D.pure d && D.pures l
end
mutual
/-- all cells within are below n -/
def D.lo (n : Nat) : D → Bool
  | .tup l => D.los n l
  | .lst l => D.los n l
  | .loc m => decide (m < n)
  | .dctv _ vs => D.los n vs
  | _ => true
def D.los (n : Nat) : List D → Bool
  | [] => true
  | d :: l => D.lo n d && D.los n l
end
mutual
/-- may be a key of a dict -/
def D.isKey : D → Bool
  | .int _ => true
  | .str _ => true
  | .tup l => D.isKeys l
  | _ => false
def D.isKeys : List D → Bool
  | [] => true
  | d :: l => D.isKey d && D.isKeys l
end
def isTup : D → Bool
  | .tup _ => true
  | _ => false
def okKeyD (d : D) : Bool := d.isKey && decide (d.py.depth ≤ 8)
open Classical in
noncomputable def dGet (l : List (D × D)) (k : D) : Option D := (l.find? fun p => decide (p.1 = k)).map (·.2)
open Classical in
noncomputable def dPut (l : List (D × D)) (k v : D) : List (D × D) := if (l.any fun p => decide (p.1 = k)) = true then l.map (fun p => if p.1 = k then (p.1, v) else p) else l ++ [(k, v)]
/-- a key of the kind of those that are there -/
def okIn (l : List (D × D)) (k : D) : Bool := okKeyD k && l.all fun p => isTup p.1 == isTup k
def Cell.lo (n : Nat) : Cell → Bool
  | .lst l => D.los n l
  | .dct l => l.all fun p => D.lo n p.1 && D.lo n p.2
  | .obj _ l => l.all fun p => D.lo n p.2
  | .dead => true

/-! ### results -/
inductive R (α : Type) where
  | ok (a : α) (S : Store)
  | exc (c : Nat) (S : Store)
  | bad
def R.bind {α β : Type} (r : R α) (f : α → Store → R β) : R β := match r with
  | .ok a S => f a S
  | .exc c S => .exc c S
  | .bad => .bad
/-- no error within -/
def R.nox {α : Type} (r : R α) : R α := match r with
  | .exc _ _ => .bad
  | r => r
@[simp] theorem R.nox_ok {α : Type} (a : α) (S : Store) : (R.ok a S).nox = .ok a S := rfl
@[simp] theorem R.nox_bad {α : Type} : (R.bad : R α).nox = .bad := rfl
@[simp] theorem R.bind_ok {α β : Type} (a : α) (S : Store) (f : α → Store → R β) : (R.ok a S).bind f = f a S := rfl
@[simp] theorem R.bind_exc {α β : Type} (c : Nat) (S : Store) (f : α → Store → R β) : (R.exc c S : R α).bind f = .exc c S := rfl
@[simp] theorem R.bind_bad {α β : Type} (f : α → Store → R β) : (R.bad : R α).bind f = .bad := rfl

/-! ### operators by values -/
inductive Op2 where
  | add | sub | mul | mod | pow
  deriving DecidableEq

/-- below the model's longest line -/
def okLen (n : Nat) : Bool := decide (n ≤ 16000000)

def Op2.app : Op2 → D → D → Store → R D
  | .add, .int i, .int j, S => .ok (.int (i + j)) S
  | .add, .str s, .str t, S => if okLen (s.length + t.length) then .ok (.str (s ++ t)) S else .bad
  | .add, .lst l, .lst m, S => if okLen (l.length + m.length) then .ok (.lst (l ++ m)) S else .bad
  | .add, .tup l, .tup m, S => if okLen (l.length + m.length) then .ok (.tup (l ++ m)) S else .bad
  | .sub, .int i, .int j, S => .ok (.int (i - j)) S
  | .mul, .int i, .int j, S => if (decide (-(2 ^ 64) < i ∧ i < 2 ^ 64) || decide (-(2 ^ 64) < j ∧ j < 2 ^ 64)) = true then .ok (.int (i * j)) S else .bad
  | .mul, .str s, .int j, S => if 0 ≤ j ∧ j ≤ 1000 ∧ s.length ≤ 1000 then .ok (.str (Txt.mul s j)) S else .bad
  | .mod, .int i, .int j, S => if j = 0 then .bad else .ok (.int (i.fmod j)) S
  | .pow, .int i, .int j, S => if 0 ≤ j ∧ j ≤ 1000000 ∧ i.natAbs < 2 ^ 64 then .ok (.int (i ^ j.toNat)) S else .bad
  | _, _, _, _ => .bad

/-- what may be read as a sequence of data: a tuple, a list, a list in a cell -/
def D.items (d : D) (S : Store) : Option (List D) := match d with
  | .tup l => some l
  | .lst l => some l
  | .scr l => some (l.map .int)
  | .loc n => match S[n]? with
    | some (.lst l) => some l
    | _ => none
  | _ => none
/-- read through a cell: the pure data that it holds -/
def D.rd (d : D) (S : Store) : D := match d with
  | .scr l => .lst (l.map .int)
  | .loc n => match S[n]? with
    | some (.lst l) => .lst l
    | _ => d
  | _ => d

inductive Cm where
  | eq | ne | lt | le | gt | ge | isin | notin | is | isnot
  deriving DecidableEq

def isNon : D → Bool
  | .non => true
  | _ => false
def isBl (b : Bool) : D → Bool
  | .bl c => c == b
  | _ => false

/-- == of data (a list in a cell is read) -/
def eqD (x y : D) (S : Store) : Option Bool :=
  let x := x.rd S
  let y := y.rd S
  if (x.pure && y.pure && decide ((PyData.depth x.py) ≤ 30) && decide ((PyData.depth y.py) ≤ 30)) = true then some (PyData.eqv x.py y.py) else none
/-- the order of alike data -/
def ltD (x y : D) : Option Bool :=
  if (x.pure && y.pure && PySem.W.alike x.py y.py && decide ((PyData.depth x.py) ≤ 30) && !isNon x) = true then some (PySem.W.dataLt x.py y.py) else none

abbrev SKey := L2.Key
def kD : SKey → D
  | .inl i => .int i
  | .inr x => .str x
/-- a dict's pairs -/
def prs (ks : List L2.Key) (vs : List D) : List (D × D) := (ks.map kD).zip vs
/-- k in d -/
noncomputable def hasD (l : List (D × D)) (k : D) : Option Bool := if okIn l k then some (dGet l k).isSome else none
noncomputable def inD (x y : D) (S : Store) : Option Bool :=
  match y.items S with
  | some l => if (x.pure && D.pures l && decide ((PyData.depth x.py) ≤ 30) && decide (PyData.depthAll (D.pys l) ≤ 30)) = true then some ((D.pys l).any fun d => PyData.eqv d x.py) else none
  | none => match x, y with
    | .str s, .str t => some (!(Builtin.Str.occurrences t s 0 t.length 1).isEmpty)
    | x, .loc n => match S[n]? with
      | some (.dct l) => hasD l x
      | _ => none
    | x, .dctv ks vs => if isTup x then none else hasD (prs ks vs) x
    | _, _ => none

noncomputable def Cm.app : Cm → D → D → Store → Option Bool
  | .eq, x, y, S => eqD x y S
  | .ne, x, y, S => (eqD x y S).map (!·)
  | .lt, .int i, .int j, _ => some (decide (i < j))
  | .le, .int i, .int j, _ => some (decide (i ≤ j))
  | .gt, .int i, .int j, _ => some (decide (j < i))
  | .ge, .int i, .int j, _ => some (decide (j ≤ i))
  | .lt, x, y, _ => ltD x y
  | .gt, x, y, _ => ltD y x
  | .le, x, y, _ => (ltD y x).map (!·)
  | .ge, x, y, _ => (ltD x y).map (!·)
  | .isin, x, y, S => inD x y S
  | .notin, x, y, S => (inD x y S).map (!·)
  | .is, x, .non, _ => some (isNon x)
  | .isnot, x, .non, _ => some (!isNon x)
  | _, _, _, _ => none

/-! ### built-ins, methods of built-in types -/
inductive Bi where
  | len | sorted | list | tuple | min | max | sum | all | any | int | str
  | isInt | isBool | isStr | isTuple | isList
  deriving DecidableEq

def allAlike (l : List PyData) : Bool := l.all fun x => l.all fun y => PySem.W.alike x y
def sortable (l : List D) : Bool := (l.all fun d => match d with | .tup (_ :: _) => true | _ => false) || (l.all fun d => match d with | .tup _ => false | .non => false | _ => true)
def okSort (l : List D) : Bool := D.pures l && allAlike (D.pys l) && sortable l && decide (PyData.depthAll (D.pys l) ≤ 30) && okLen l.length
def sortD (l : List D) : List D := l.mergeSort (PySem.W.dataLe false D.py)
/-- the first of the least -/
def minD : D → List D → D
  | x, [] => x
  | x, y :: l => minD (if PySem.W.dataLt y.py x.py then y else x) l
def maxD : D → List D → D
  | x, [] => x
  | x, y :: l => maxD (if PySem.W.dataLt x.py y.py then y else x) l
def okMin (l : List D) : Bool := D.pures l && allAlike (D.pys l) && decide (PyData.depthAll (D.pys l) ≤ 30) && (l.all fun d => !isNon d)
def intsD : List D → Option (List Int)
  | [] => some []
  | .int i :: l => (intsD l).map (i :: ·)
  | _ => none
def boolsD : List D → Option (List Bool)
  | [] => some []
  | .bl b :: l => (boolsD l).map (b :: ·)
  | _ => none
def sign (c : Nat) : D := .str ⟨#[c]⟩
def signsD (s : Str) : List D := s.cps.toList.map sign

def Bi.app : Bi → List D → Store → R D
  | .len, [x], S => match x with
    | .str s => if okLen s.length then .ok (.int s.length) S else .bad
    | x => match x.items S with
      | some l => .ok (.int l.length) S
      | none => .bad
  | .sorted, [x], S => match x.items S with
    | some l => if okSort l then .ok (.lst (sortD l)) S else .bad
    | none => .bad
  | .list, [x], S => match x with
    | .str s => if okLen s.length then .ok (.lst (signsD s)) S else .bad
    | .loc n => match S[n]? with
      | some (.lst l) => .ok (.lst l) S
      | some (.dct l) => if (l.all fun p => !isTup p.1) = true then .ok (.lst (l.map (·.1))) S else .bad
      | _ => .bad
    | x => match x.items S with
      | some l => .ok (.lst l) S
      | none => .bad
  | .tuple, [x], S => match x.items S with
    | some l => .ok (.tup l) S
    | none => .bad
  | .min, [x], S => match x.items S with
    | some (y :: l) => if okMin (y :: l) then .ok (minD y l) S else .bad
    | _ => .bad
  | .max, [x], S => match x.items S with
    | some (y :: l) => if okMin (y :: l) then .ok (maxD y l) S else .bad
    | _ => .bad
  | .min, [.int i, .int j], S => .ok (.int (if j < i then j else i)) S
  | .max, [.int i, .int j], S => .ok (.int (if j > i then j else i)) S
  | .sum, [.lst l], S => match intsD l with
    | some l => .ok (.int l.sum) S
    | none => .bad
  | .all, [.lst l], S => match boolsD l with
    | some l => .ok (.bl (l.all id)) S
    | none => .bad
  | .any, [.lst l], S => match boolsD l with
    | some l => .ok (.bl (l.any id)) S
    | none => .bad
  | .int, [.str s], S => match PySem.intText? s with
    | some n => if s.length ≤ 640 then .ok (.int n) S else .bad
    | none => .bad
  | .str, [.int i], S => if i.natAbs.log2 < 1920 then .ok (.str (toString i)) S else .bad
  | .isInt, [x], S => if x.pure then .ok (.bl x.py.isInt) S else .bad
  | .isBool, [x], S => if x.pure then .ok (.bl x.py.isBool) S else .bad
  | .isStr, [x], S => if x.pure then .ok (.bl x.py.isStr) S else .bad
  | .isTuple, [x], S => if x.pure then .ok (.bl x.py.isTuple) S else .bad
  | .isList, [x], S => if x.pure then .ok (.bl x.py.isList) S else .bad
  | _, _, _ => .bad

/-! sets of texts, of whole numbers -/
instance memKey (k : SKey) (l : List SKey) : Decidable (k ∈ l) := decidable_of_iff (∃ x ∈ l, x = k) (by simp)
def keyD : D → Option SKey
  | .int i => some (.inl i)
  | .str x => some (.inr x)
  | _ => none
def keysD : List D → Option (List SKey)
  | [] => some []
  | d :: l => match keyD d, keysD l with
    | some k, some ks => some (k :: ks)
    | _, _ => none
/-- each once -/
def dd : List SKey → List SKey
  | [] => []
  | k :: l => if k ∈ l then dd l else k :: dd l
def okKeys (ks : List SKey) : Bool := ((ks.all fun k => match k with | .inl _ => true | _ => false) || (ks.all fun k => match k with | .inr _ => true | _ => false)) && decide (ks.length < 4000)
/-- sorted(set(l)), len(set(l)) -/
def ssetR (l : List D) (S : Store) : R D := match keysD l with
  | some ks => if okKeys ks then .ok (.lst (sortD ((dd ks).map kD))) S else .bad
  | none => .bad
def lsetR (l : List D) (S : Store) : R D := match keysD l with
  | some ks => if okKeys ks then .ok (.int (dd ks).length) S else .bad
  | none => .bad

inductive Mt where
  | strip | split | join | scount | find | sindex
  | lcount | tcount | tindex
  | append | extend | pop | popAt | remove | get | lindex
  deriving DecidableEq
def strsD : List D → Option (List Str)
  | [] => some []
  | .str s :: l => (strsD l).map (s :: ·)
  | _ => none
def joinLen (a : Str) (l : List Str) : Nat := (l.map (·.length)).sum + l.length * a.length
def idxS (l : List Str) (x : Str) : Option Nat := l.findIdx? fun y => decide (y = x)
def cntD (l : List D) (x : D) : Option Nat :=
  if (x.pure && D.pures l && decide ((PyData.depth x.py) ≤ 30) && decide (PyData.depthAll (D.pys l) ≤ 30)) = true then some ((D.pys l).countP fun y => PyData.eqv y x.py) else none
def cntR (l : List D) (y : D) (S : Store) : R D := match cntD l y with
  | some k => .ok (.int (k : Int)) S
  | none => .bad
def plcD (l : List D) (x : D) : Option Nat :=
  if (x.pure && D.pures l && decide ((PyData.depth x.py) ≤ 30) && decide (PyData.depthAll (D.pys l) ≤ 30) && okLen l.length) = true then (D.pys l).findIdx? fun y => PyData.eqv y x.py else none
/-- what the method is of -/
def Mt.recv : Mt → D → Store → Bool
  | .strip, .str _, _ => true
  | .split, .str _, _ => true
  | .join, .str _, _ => true
  | .scount, .str _, _ => true
  | .find, .str _, _ => true
  | .sindex, .str _, _ => true
  | .lcount, .lst _, _ => true
  | .lcount, .loc n, S => match S[n]? with
    | some (.lst _) => true
    | _ => false
  | .tcount, .tup _, _ => true
  | .tindex, .tup _, _ => true
  | .append, .loc n, S => match S[n]? with
    | some (.lst _) => true
    | _ => false
  | .extend, .loc n, S => match S[n]? with
    | some (.lst _) => true
    | _ => false
  | .pop, .loc n, S => match S[n]? with
    | some (.lst _) => true
    | _ => false
  | .popAt, .loc n, S => match S[n]? with
    | some (.lst _) => true
    | _ => false
  | .remove, .loc n, S => match S[n]? with
    | some (.lst _) => true
    | _ => false
  | .get, .loc n, S => match S[n]? with
    | some (.dct _) => true
    | _ => false
  | .lindex, .lst _, _ => true
  | .lindex, .loc n, S => match S[n]? with
    | some (.lst _) => true
    | _ => false
  | _, _, _ => false
/-- the place of a truth value -/
def plcR (l : List D) (y : D) (S : Store) : R D := match boolsD l, y with
  | some bs, .bl b => match bs.findIdx? fun z => z == b with
    | some k => .ok (.int (k : Int)) S
    | none => .bad
  | _, _ => .bad
noncomputable def Mt.app : Mt → D → List D → Store → R D
  | .strip, .str a, [.str b], S => if okLen a.length then .ok (.str (Txt.stripChars a b)) S else .bad
  | .split, .str a, [.str b], S => if okLen (a.length + 2) && !(b.length == 0) then .ok (.lst ((Txt.split a b).map D.str)) S else .bad
  | .join, .str a, [x], S => match (x.items S).bind strsD with
    | some l => if okLen (joinLen a l) then .ok (.str (Txt.join a l)) S else .bad
    | none => .bad
  | .scount, .str a, [.str b], S => .ok (.int (Txt.count a b)) S
  | .find, .str a, [.str b], S => .ok (.int (Txt.find a b)) S
  | .lcount, .lst l, [y], S => cntR l y S
  | .lcount, .loc n, [y], S => match S[n]? with
    | some (.lst l) => cntR l y S
    | _ => .bad
  | .tcount, .tup l, [y], S => cntR l y S
  | .tindex, .tup l, [.str z], S => match (strsD l).bind (idxS · z) with
    | some k => .ok (.int (k : Int)) S
    | none => .bad
  | .append, .loc n, [x], S => match S[n]? with
    | some (.lst l) => if okLen l.length then .ok .non (S.set n (.lst (l ++ [x]))) else .bad
    | _ => .bad
  | .extend, .loc n, [.lst m], S => match S[n]? with
    | some (.lst l) => if okLen (l.length + m.length) then .ok .non (S.set n (.lst (l ++ m))) else .bad
    | _ => .bad
  | .pop, .loc n, [], S => match S[n]? with
    | some (.lst l) => match l.getLast? with
      | some x => .ok x (S.set n (.lst l.dropLast))
      | none => .bad
    | _ => .bad
  | .popAt, .loc n, [.int i], S => match S[n]? with
    | some (.lst (x :: m)) => if i = 0 then .ok x (S.set n (.lst m)) else .bad
    | _ => .bad
  | .remove, .loc n, [y], S => match S[n]? with
    | some (.lst l) => match plcD l y with
      | some k => .ok .non (S.set n (.lst (l.eraseIdx k)))
      | none => .bad
    | _ => .bad
  | .get, .loc n, [k], S => match S[n]? with
    | some (.dct l) => if okIn l k then .ok ((dGet l k).getD .non) S else .bad
    | _ => .bad
  | .sindex, .str a, [.str b], S => match Builtin.Str.occurrences a b 0 a.length 1 with
    | i :: _ => .ok (.int (i : Int)) S
    | [] => .bad
  | .lindex, .lst l, [y], S => plcR l y S
  | .lindex, .loc n, [y], S => match S[n]? with
    | some (.lst l) => plcR l y S
    | _ => .bad
  | _, _, _, _ => .bad

/-! ### expressions -/
inductive Tg where
  | one (i : Nat)
  | two (i j : Nat)
mutual
inductive E where
  | var (i : Nat)
  | cst (d : D)
  | glb (x : Str) (d : D)
  | op (o : Op2) (a b : E)
  | neg (a : E)
  | cmp (o : Cm) (a b : E)
  | chn (o o' : Cm) (a b c : E)
  | not (a : E)
  | and (a b : E)
  | or (a b : E)
  | ite (c a b : E)
  | tup (es : Es)
  | lst (es : Es)
  | idx (a b : E)
  | sl (a : E) (lo hi : Eo)
  | rev (a : E)
  | dict (es : Es)
  | call (f : Nat) (es : Es)
  | bi (f : Bi) (es : Es)
  | mth (m : Mt) (o : E) (es : Es)
  | lc (elt : E) (tg : Tg) (it : It) (cond : Eo)
  | cell (e : E)
  | snap (i : Nat)
  | sset (e : E)
  | lset (e : E)
inductive Es where
  | nil
  | cons (e : E) (es : Es)
inductive Eo where
  | none
  | some (e : E)
inductive It where
  | e (x : E)
  | rng1 (a : E)
  | rng2 (a b : E)
  | rng3 (a b c : E)
  | zip (a b : E)
  | enum (a : E)
end

def cutI (n : Nat) (d : Nat) (o : Option Int) : Nat := HT.sIx n d o
def cutL {α : Type} (xs : List α) (lo hi : Option Int) : List α := (xs.drop (HT.sIx xs.length 0 lo)).take (HT.sIx xs.length xs.length hi - HT.sIx xs.length 0 lo)
def cutD (d : D) (lo hi : Option Int) (S : Store) : R D := match d with
  | .str s => if okLen s.length then .ok (.str ⟨(cutL s.cps.toList lo hi).toArray⟩) S else .bad
  | .tup l => .ok (.tup (cutL l lo hi)) S
  | .lst l => .ok (.lst (cutL l lo hi)) S
  | .loc n => match S[n]? with
    | some (.lst l) => .ok (.lst (cutL l lo hi)) S
    | _ => .bad
  | _ => .bad
def seqAt (x y : D) (S : Store) : R D := match y with
  | .int i => match x with
    | .str s => if okLen s.length then (match L2.atI s.cps.toList i with
      | some c => .ok (sign c) S
      | none => .bad) else .bad
    | _ => match x.items S with
      | some l => match L2.atI l i with
        | some d => .ok d S
        | none => .bad
      | none => .bad
  | _ => .bad

/-- d[k] -/
noncomputable def dctAt (l : List (D × D)) (y : D) (S : Store) : R D := if okIn l y then (match dGet l y with
  | some d => .ok d S
  | none => .bad) else .bad
noncomputable def atD (x y : D) (S : Store) : R D := match x with
  | .loc n => match S[n]? with
    | some (.dct l) => dctAt l y S
    | _ => seqAt x y S
  | .dctv ks vs => if isTup y then .bad else dctAt (prs ks vs) y S
  | _ => seqAt x y S
/-- x[y] = z -/
noncomputable def putD (x y z : D) (S : Store) : R Unit := match x with
  | .loc n => match S[n]? with
    | some (.lst l) => match y with
      | .int i => match L2.ixN l.length i with
        | some j => .ok () (S.set n (.lst (l.set j z)))
        | none => .bad
      | _ => .bad
    | some (.dct l) => if okIn l y && decide (l.length < 16000000) then .ok () (S.set n (.dct (dPut l y z))) else .bad
    | _ => .bad
  | _ => .bad
/-- a display's pairs -/
def pairsD : List D → Option (List (D × D))
  | [] => some []
  | k :: v :: l => if okKeyD k && !isTup k then (pairsD l).map ((k, v) :: ·) else none
  | _ => none
noncomputable def dispR (l : List D) (S : Store) : R D := match pairsD l with
  | some ps => if ps.length ≤ 15 then .ok (.loc S.length) (S ++ [.dct (ps.foldl (fun acc p => dPut acc p.1 p.2) [])]) else .bad
  | none => .bad
/-- from behind -/
def revD (d : D) (S : Store) : R D := match d with
  | .str s => if okLen s.length then .ok (.str ⟨s.cps.toList.reverse.toArray⟩) S else .bad
  | .tup l => .ok (.tup l.reverse) S
  | .lst l => .ok (.lst l.reverse) S
  | .loc n => match S[n]? with
    | some (.lst l) => .ok (.lst l.reverse) S
    | _ => .bad
  | _ => .bad
/-- what a loop walks: its items; the cell that it walks, with what stands there all the while -/
structure Src where
  items : List D
  guard : Option (Nat × Cell)
/-- the walked cell is as it was -/
def Good (g : Option (Nat × Cell)) (S : Store) : Prop := match g with
  | none => True
  | some (n, c) => S[n]? = some c
@[simp] theorem good_none (S : Store) : Good none S := trivial
def srcD (d : D) (S : Store) : Option Src := match d with
  | .str s => if okLen s.length then some ⟨signsD s, none⟩ else none
  | .tup l => some ⟨l, none⟩
  | .lst l => some ⟨l, none⟩
  | .loc n => match S[n]? with
    | some (.lst l) => some ⟨l, some (n, .lst l)⟩
    | _ => none
  | .dctv ks vs => some ⟨ks.map kD, none⟩
  | _ => none
def Tg.set (t : Tg) (d : D) (env : Env) : Option Env := match t with
  | .one i => some (env.set i (some d))
  | .two i j => match d with
    | .tup [a, b] => some ((env.set i (some a)).set j (some b))
    | _ => none

open Classical in
/-- a comprehension's loop -/
noncomputable def lcLoop (g : Option (Nat × Cell)) (st : D → Option Env) (fc : Env → Store → R D) (fe : Env → Store → R D) : List D → Store → R (List D)
  | [], S => if Good g S then .ok [] S else .bad
  | x :: xs, S => if Good g S then (match st x with
    | none => .bad
    | some env => (fc env S).nox.bind fun c S => match c with
      | .bl true => (fe env S).nox.bind fun y S => (lcLoop g st fc fe xs S).bind fun ys S => .ok (y :: ys) S
      | .bl false => lcLoop g st fc fe xs S
      | _ => .bad) else .bad
def rngD (lo : Int) (n : Nat) : List D := (List.range n).map fun (i : Nat) => .int (lo + (i : Int))
/-- a dict's keys, where they are plain -/
def plainKs : List (D × D) → Option (List L2.Key)
  | [] => some []
  | (.int i, _) :: l => (plainKs l).map (.inl i :: ·)
  | (.str x, _) :: l => (plainKs l).map (.inr x :: ·)
  | _ => none
/-- a dict let go -/
def snapD (l : List (D × D)) (n : Nat) (S : Store) : R D := match plainKs l with
  | some ks => .ok (.dctv ks (l.map (·.2))) (S.set n .dead)
  | none => .bad
def okI (i : Int) : Bool := decide (-(2 ^ 62) ≤ i ∧ i < 2 ^ 62)

section
variable (Γ : Nat → List D → Store → R D)
mutual
noncomputable def ev : E → Env → Store → R D
  | .var i, env, S => match env.getD i none with
    | some d => .ok d S
    | none => .bad
  | .cst d, _, S => .ok d S
  | .glb _ d, _, S => .ok d S
  | .op o a b, env, S => (ev a env S).bind fun x S => (ev b env S).bind fun y S => o.app x y S
  | .neg a, env, S => (ev a env S).bind fun x S => match x with
    | .int i => .ok (.int (-i)) S
    | _ => .bad
  | .cmp o a b, env, S => (ev a env S).bind fun x S => (ev b env S).bind fun y S => match o.app x y S with
    | some c => .ok (.bl c) S
    | none => .bad
  | .chn o o' a b c, env, S => (ev a env S).bind fun x S => (ev b env S).bind fun y S => match o.app x y S with
    | some true => (ev c env S).bind fun z S => match o'.app y z S with
      | some k => .ok (.bl k) S
      | none => .bad
    | some false => .ok (.bl false) S
    | none => .bad
  | .not a, env, S => (ev a env S).bind fun x S => match x with
    | .bl c => .ok (.bl (!c)) S
    | _ => .bad
  | .and a b, env, S => (ev a env S).bind fun x S => match x with
    | .bl true => ev b env S
    | .bl false => .ok (.bl false) S
    | _ => .bad
  | .or a b, env, S => (ev a env S).bind fun x S => match x with
    | .bl true => .ok (.bl true) S
    | .bl false => ev b env S
    | _ => .bad
  | .ite c a b, env, S => (ev c env S).bind fun x S => match x with
    | .bl true => ev a env S
    | .bl false => ev b env S
    | _ => .bad
  | .tup es, env, S => (evs es env S).bind fun l S => if okLen l.length then .ok (.tup l) S else .bad
  | .lst es, env, S => (evs es env S).bind fun l S => if okLen l.length then .ok (.lst l) S else .bad
  | .idx a b, env, S => (ev a env S).bind fun x S => (ev b env S).bind fun y S => atD x y S
  | .sl a lo hi, env, S => (ev a env S).bind fun x S => (evo lo env S).bind fun l S => (evo hi env S).bind fun h S => cutD x l h S
  | .rev a, env, S => (ev a env S).bind fun x S => revD x S
  | .dict es, env, S => (evs es env S).bind fun l S => dispR l S
  | .call f es, env, S => (evs es env S).bind fun l S => Γ f l S
  | .bi f es, env, S => (evs es env S).bind fun l S => f.app l S
  | .mth m o es, env, S => (ev o env S).bind fun x S => if m.recv x S then (evs es env S).bind fun l S => m.app x l S else .bad
  | .lc elt tg it cond, env, S => (evi it env S).bind fun src S => if okLen src.items.length then (lcLoop src.guard (fun d => tg.set d env) (fun env S => evc cond env S) (fun env S => ev elt env S) src.items S).nox.bind fun l S => .ok (.lst l) S else .bad
  | .cell a, env, S => (ev a env S).bind fun x S => match x with
    | .lst l => .ok (.loc S.length) (S ++ [.lst l])
    | _ => .bad
  | .snap i, env, S => match env.getD i none with
    | some (.loc n) => match S[n]? with
      | some (.lst l) => .ok (.lst l) (S.set n .dead)
      | some (.dct l) => snapD l n S
      | _ => .bad
    | _ => .bad
  | .sset a, env, S => (ev a env S).bind fun x S => match x.items S with
    | some l => ssetR l S
    | none => .bad
  | .lset a, env, S => (ev a env S).bind fun x S => match x.items S with
    | some l => lsetR l S
    | none => .bad
noncomputable def evs : Es → Env → Store → R (List D)
  | .nil, _, S => .ok [] S
  | .cons e es, env, S => (ev e env S).bind fun x S => (evs es env S).bind fun l S => .ok (x :: l) S
noncomputable def evo : Eo → Env → Store → R (Option Int)
  | .none, _, S => .ok none S
  | .some e, env, S => (ev e env S).bind fun x S => match x with
    | .int i => .ok (some i) S
    | _ => .bad
/-- a comprehension's test -/
noncomputable def evc : Eo → Env → Store → R D
  | .none, _, S => .ok (.bl true) S
  | .some e, env, S => ev e env S
noncomputable def evi : It → Env → Store → R Src
  | .e a, env, S => (ev a env S).bind fun x S => match srcD x S with
    | some s => .ok s S
    | none => .bad
  | .rng1 a, env, S => (ev a env S).bind fun x S => match x with
    | .int j => if okI j then .ok ⟨rngD 0 j.toNat, none⟩ S else .bad
    | _ => .bad
  | .rng2 a b, env, S => (ev a env S).bind fun x S => (ev b env S).bind fun y S => match x, y with
    | .int i, .int j => if okI i && okI j then .ok ⟨rngD i (j - i).toNat, none⟩ S else .bad
    | _, _ => .bad
  | .rng3 _ _ _, _, _ => .bad
  | .zip a b, env, S => (ev a env S).bind fun x S => (ev b env S).bind fun y S => match srcD x S, srcD y S with
    | some s, some t => .ok ⟨(s.items.zip t.items).map fun p => .tup [p.1, p.2], none⟩ S
    | _, _ => .bad
  | .enum a, env, S => (ev a env S).bind fun x S => match srcD x S with
    | some s => .ok ⟨(s.items.zipIdx).map fun p => .tup [.int (p.2 : Int), p.1], none⟩ S
    | none => .bad
end
end
end SV
/-! SvB: what the data stand for in a heap; the state's relation. -/
namespace SV
open PySem PySem.Spec PyProof.Rows L2

/-- a program's fixed part -/
structure Pg where
  K : PySem.W.Frag
  mg : Str → Option Value
  /-- the own classes by number -/
  cls : Nat → Str
  /-- what runs -/
  prog : Program
  w : World
  /-- things that are being made: no one else holds them -/
  pv : List (Addr × HO)

/-- an exception of one's own class that was caught -/
def EX (mg : Str → Option Value) (cls : Nat → Str) (c : Nat) (a : Addr) : HO := .ext fun h => ∃ (oe : Obj) (C : Addr) (vs : Array Value), h.get? a = some oe ∧ mg (cls c) = some (.ref C) ∧ Zc (.ref C) none oe ∧ oe.data = .fields vs
mutual
inductive Rep (P : Pg) (ms : List Addr) (F : Hp) : V → D → Prop
  | non : Rep P ms F .non .non
  | bl (b : Bool) : Rep P ms F (.bl b) (.bl b)
  | int (i : Int) : Rep P ms F (.int i) (.int i)
  | str (s : Str) : Rep P ms F (.str s) (.str s)
  | tup {a : Addr} {o : Obj} {xs : List V} {l : List D} : F a = some (.frz o (.tup xs)) → o.dict = none → RepL P ms F xs l → Rep P ms F (.ref a) (.tup l)
  | lst {a : Addr} {xs : List V} {l : List D} : F a = some (.lst xs) → RepL P ms F xs l → Rep P ms F (.ref a) (.lst l)
  | scr {a : Addr} {l : List Int} : SqL P.K F a (l.map V.int) → Rep P ms F (.ref a) (.scr l)
  | loc {a : Addr} {n : Nat} : ms[n]? = some a → Rep P ms F (.ref a) (.loc n)
  | fn {a : Addr} {g : Str} : P.mg g = some (.ref a) → Rep P ms F (.ref a) (.fn g)
  | dctv {a : Addr} {o : Obj} {kvs : List (Key × V)} {ks : List Key} {vs : List D} : F a = some (.frz o (.dK kvs)) → kvs.map (·.1) = ks → RepL P ms F (kvs.map (·.2)) vs → Rep P ms F (.ref a) (.dctv ks vs)
  | exn {a : Addr} {c : Nat} : F a = some (EX P.mg P.cls c a) → Rep P ms F (.ref a) (.exn c)
inductive RepL (P : Pg) (ms : List Addr) (F : Hp) : List V → List D → Prop
  | nil : RepL P ms F [] []
  | cons {v : V} {vs : List V} {d : D} {ds : List D} : Rep P ms F v d → RepL P ms F vs ds → RepL P ms F (v :: vs) (d :: ds)
end

/-- later on -/
structure Nx (ms : List Addr) (F : Hp) (ms' : List Addr) (F' : Hp) : Prop where
  pre : ∀ (n : Nat) (a : Addr), ms[n]? = some a → ms'[n]? = some a
  sub : Same F F'
theorem Nx.refl (ms : List Addr) (F : Hp) : Nx ms F ms F := ⟨fun _ _ h => h, Same.refl F⟩
theorem Nx.trans {ms ms1 ms2 : List Addr} {F F1 F2 : Hp} (a : Nx ms F ms1 F1) (b : Nx ms1 F1 ms2 F2) : Nx ms F ms2 F2 :=
  ⟨fun n x h => b.pre n x (a.pre n x h), a.sub.trans b.sub⟩
variable {P : Pg} {ms ms' : List Addr} {F F' H H' : Hp}
mutual
theorem Rep.mono (x : Nx ms F ms' F') : ∀ {v : V} {d : D}, Rep P ms F v d → Rep P ms' F' v d
  | _, _, .non => .non
  | _, _, .bl b => .bl b
  | _, _, .int i => .int i
  | _, _, .str s => .str s
  | _, _, .tup h e r => .tup (x.sub _ _ h) e (RepL.mono x r)
  | _, _, .lst h r => .lst (x.sub _ _ h) (RepL.mono x r)
  | _, _, .scr h => .scr (x.sub.seq h)
  | _, _, .loc h => .loc (x.pre _ _ h)
  | _, _, .fn h => .fn h
  | _, _, .dctv h e r => .dctv (x.sub _ _ h) e (RepL.mono x r)
  | _, _, .exn h => .exn (x.sub _ _ h)
theorem RepL.mono (x : Nx ms F ms' F') : ∀ {vs : List V} {ds : List D}, RepL P ms F vs ds → RepL P ms' F' vs ds
  | _, _, .nil => .nil
  | _, _, .cons h t => .cons (Rep.mono x h) (RepL.mono x t)
end
theorem RepL.length : ∀ {vs : List V} {ds : List D}, RepL P ms F vs ds → vs.length = ds.length
  | _, _, .nil => rfl
  | _, _, .cons _ t => congrArg (· + 1) (RepL.length t)
theorem RepL.get : ∀ {vs : List V} {ds : List D} {i : Nat} {d : D}, RepL P ms F vs ds → ds[i]? = some d → ∃ v, vs[i]? = some v ∧ Rep P ms F v d
  | _, _, _, _, .nil, e => by simp at e
  | _, _, 0, _, .cons r _, e => by simp at e; subst e; exact ⟨_, rfl, r⟩
  | _, _, i + 1, _, .cons _ t, e => by
    obtain ⟨v, h1, h2⟩ := RepL.get (i := i) t (by simpa using e)
    exact ⟨v, by simpa using h1, h2⟩
theorem RepL.getV : ∀ {vs : List V} {ds : List D} {i : Nat} {v : V}, RepL P ms F vs ds → vs[i]? = some v → ∃ d, ds[i]? = some d ∧ Rep P ms F v d
  | _, _, _, _, .nil, e => by simp at e
  | _, _, 0, _, .cons r _, e => by simp at e; subst e; exact ⟨_, rfl, r⟩
  | _, _, i + 1, _, .cons _ t, e => by
    obtain ⟨v, h1, h2⟩ := RepL.getV (i := i) t (by simpa using e)
    exact ⟨v, by simpa using h1, h2⟩
theorem RepL.append : ∀ {vs us : List V} {ds es : List D}, RepL P ms F vs ds → RepL P ms F us es → RepL P ms F (vs ++ us) (ds ++ es)
  | _, _, _, _, .nil, s => s
  | _, _, _, _, .cons r t, s => .cons r (RepL.append t s)
theorem RepL.take : ∀ {vs : List V} {ds : List D} (n : Nat), RepL P ms F vs ds → RepL P ms F (vs.take n) (ds.take n)
  | _, _, 0, _ => .nil
  | _, _, _ + 1, .nil => .nil
  | _, _, n + 1, .cons r t => .cons r (RepL.take n t)
theorem RepL.drop : ∀ {vs : List V} {ds : List D} (n : Nat), RepL P ms F vs ds → RepL P ms F (vs.drop n) (ds.drop n)
  | _, _, 0, r => r
  | _, _, _ + 1, .nil => .nil
  | _, _, n + 1, .cons _ t => RepL.drop n t
theorem RepL.set {v : V} {d : D} (r : Rep P ms F v d) : ∀ {vs : List V} {ds : List D} (n : Nat), RepL P ms F vs ds → RepL P ms F (vs.set n v) (ds.set n d)
  | _, _, _, .nil => .nil
  | _, _, 0, .cons _ t => .cons r t
  | _, _, n + 1, .cons q t => .cons q (RepL.set r n t)
theorem RepL.snoc {vs : List V} {ds : List D} {v : V} {d : D} (h : RepL P ms F vs ds) (r : Rep P ms F v d) : RepL P ms F (vs ++ [v]) (ds ++ [d]) := h.append (.cons r .nil)
theorem RepL.ints : ∀ {l : List Int}, RepL P ms F (l.map V.int) (l.map D.int)
  | [] => .nil
  | i :: l => .cons (.int i) RepL.ints
theorem RepL.strs : ∀ {vs : List V} {l : List Str}, RepL P ms F vs (l.map D.str) → vs = l.map V.str
  | _, [], .nil => rfl
  | _, s :: l, .cons r t => by
    cases r
    rw [RepL.strs t] <;> rfl
theorem RepL.dropLast {vs : List V} {ds : List D} (h : RepL P ms F vs ds) : RepL P ms F vs.dropLast ds.dropLast := by
  rw [List.dropLast_eq_take, List.dropLast_eq_take, h.length]
  exact h.take _

/-! ### dicts -/
mutual
/-- a key, as the library's nested keys -/
def nkD : D → NestedKey
  | .int i => .num i
  | .str s => .text s
  | .tup l => .tup (nkDs l)
  | _ => .none
def nkDs : List D → List NestedKey
  | [] => []
  | d :: l => nkD d :: nkDs l
end
/-- a dict of such keys stands at a -/
def DN (prog : Program) (w : World) (a : Addr) (kvs : List (NestedKey × Addr × V)) (h : Heap) : Prop :=
  ∃ xs : List (NestedKey × Addr × Value), Paired (fun p q => p.1 = q.1 ∧ p.2.1 = q.2.1 ∧ RelV p.2.2 q.2.2) kvs xs ∧ ∃ o es ep, h.get? a = some o ∧ o.ExactDict ∧ o.data = .dict es ep ∧ es.toList = xs.map (entryOfKey (nestedKind prog w)) ∧ (xs.map (·.1)).Nodup
def PK (P : Pg) (ms : List Addr) (F : Hp) (q : Key × V) (p : D × D) : Prop := p.1 = kD q.1 ∧ Rep P ms F q.2 p.2
def PN (P : Pg) (ms : List Addr) (F : Hp) (q : NestedKey × Addr × V) (p : D × D) : Prop := Rep P ms F (.ref q.2.1) p.1 ∧ nkD p.1 = q.1 ∧ p.1.isKey = true ∧ p.1.py.depth ≤ 8 ∧ Rep P ms F q.2.2 p.2
/-- a dict with these pairs stands at a -/
def DctOk (P : Pg) (H : Hp) (ms : List Addr) (F : Hp) (a : Addr) (l : List (D × D)) : Prop :=
  l.length ≤ 16000000 ∧ ((∃ kvs : List (Key × V), H a = some (.dK kvs) ∧ Paired (PK P ms F) kvs l) ∨
    (((a == sysModules) = false ∧ l ≠ []) ∧ ∃ kvs : List (NestedKey × Addr × V), H a = some (.ext (DN P.prog P.w a kvs)) ∧ Paired (PN P ms F) kvs l))
theorem PK.mono (x : Nx ms F ms' F') {q : Key × V} {p : D × D} (h : PK P ms F q p) : PK P ms' F' q p := ⟨h.1, h.2.mono x⟩
theorem PN.mono (x : Nx ms F ms' F') {q : NestedKey × Addr × V} {p : D × D} (h : PN P ms F q p) : PN P ms' F' q p := ⟨h.1.mono x, h.2.1, h.2.2.1, h.2.2.2.1, h.2.2.2.2.mono x⟩
theorem DctOk.mono {a : Addr} {l : List (D × D)} (x : Nx ms F ms' F') (hH : H' a = H a) (h : DctOk P H ms F a l) : DctOk P H' ms' F' a l := by
  obtain ⟨hl, ⟨kvs, h1, h2⟩ | ⟨hs, kvs, h1, h2⟩⟩ := h
  · exact ⟨hl, .inl ⟨kvs, by rw [hH]; exact h1, Paired.mapP h2 fun _ _ z => z.mono x⟩⟩
  · exact ⟨hl, .inr ⟨hs, kvs, by rw [hH]; exact h1, Paired.mapP h2 fun _ _ z => z.mono x⟩⟩
/-- what stands at a cell's address -/
def CellOk (P : Pg) (H : Hp) (ms : List Addr) (F : Hp) (a : Addr) : Cell → Prop
  | .lst l => F a = none ∧ ∃ xs, H a = some (.lst xs) ∧ RepL P ms F xs l
  | .dct l => F a = none ∧ DctOk P H ms F a l
  | .obj _ _ => False
  | .dead => True
/-- the store in the heap -/
structure Sto (P : Pg) (H : Hp) (ms : List Addr) (F : Hp) (S : Store) : Prop where
  sub : Same F H
  len : ms.length = S.length
  has : ∀ (n : Nat) (a : Addr), ms[n]? = some a → H a ≠ none
  inj : ∀ (n m : Nat) (a : Addr), ms[n]? = some a → ms[m]? = some a → n = m ∨ S[n]? = some .dead ∨ S[m]? = some .dead
  cell : ∀ (n : Nat) (a : Addr) (c : Cell), ms[n]? = some a → S[n]? = some c → CellOk P H ms F a c
  prv : ∀ p ∈ P.pv, H p.1 = some p.2 ∧ F p.1 = none ∧ ∀ (n : Nat), ms[n]? = some p.1 → S[n]? = some .dead
/-- the frame's slots -/
def Slots (P : Pg) (ms : List Addr) (F : Hp) (σ : L2.St) (env : Env) : Prop :=
  env.length = σ.length ∧ ∀ (i : Nat) (d : D), env[i]? = some (some d) → ∃ v, σ[i]? = some (some v) ∧ Rep P ms F v d
theorem Slots.mono {σ : L2.St} {env : Env} (x : Nx ms F ms' F') (h : Slots P ms F σ env) : Slots P ms' F' σ env :=
  ⟨h.1, fun i d e => let ⟨v, h1, h2⟩ := h.2 i d e; ⟨v, h1, h2.mono x⟩⟩
theorem Slots.set {σ : L2.St} {env : Env} {i : Nat} {v : V} {d : D} (h : Slots P ms F σ env) (r : Rep P ms F v d) : Slots P ms F (σ.set i (some v)) (env.set i (some d)) := by
  refine ⟨by simp [h.1], fun j e q => ?_⟩
  by_cases hj : i = j
  · subst hj
    by_cases hl : i < env.length
    · rw [List.getElem?_set_self hl] at q
      cases q
      exact ⟨v, List.getElem?_set_self (h.1 ▸ hl), r⟩
    · rw [List.getElem?_eq_none (by simp; omega)] at q
      cases q
  · rw [List.getElem?_set_ne hj] at q
    obtain ⟨w, h1, h2⟩ := h.2 j e q
    exact ⟨w, by rw [List.getElem?_set_ne hj]; exact h1, h2⟩
theorem CellOk.mono {a : Addr} {c : Cell} (x : Nx ms F ms' F') (hH : H' a = H a) (hF : F a = none → F' a = none) (h : CellOk P H ms F a c) : CellOk P H' ms' F' a c := by
  cases c with
  | lst l =>
    obtain ⟨h1, xs, h2, h3⟩ := h
    exact ⟨hF h1, xs, by rw [hH]; exact h2, h3.mono x⟩
  | dct l => exact ⟨hF h.1, h.2.mono x hH⟩
  | obj c l => exact h
  | dead => trivial
/-- a new object that stays -/
theorem Sto.laid {S : Store} {p : Addr} {o : HO} (h : Sto P H ms F S) (hp : H p = none) : Sto P (upd H p o) ms (upd F p o) S ∧ Nx ms F ms (upd F p o) := by
  have hF : F p = none := by
    cases q : F p with
    | none => rfl
    | some u =>
      have := h.sub _ _ q
      rw [hp] at this
      cases this
  have nx : Nx ms F ms (upd F p o) := ⟨fun _ _ e => e, fun b u e => by rw [upd_ne (ne_of_none e hF)]; exact e⟩
  have ne : ∀ (n : Nat) (a : Addr), ms[n]? = some a → a ≠ p := fun n a e z => by subst z; exact h.has n a e hp
  refine ⟨⟨fun b u e => ?_, h.len, fun n a e => ?_, h.inj, fun n a c e1 e2 => ?_, fun q hq => ?_⟩, nx⟩
  · by_cases hb : b = p
    · subst hb
      rw [upd_same] at e ⊢
      exact e
    · rw [upd_ne hb] at e ⊢
      exact h.sub _ _ e
  · rw [upd_ne (ne n a e)]
    exact h.has n a e
  · exact (h.cell n a c e1 e2).mono nx (upd_ne (ne n a e1)) fun q => by rw [upd_ne (ne n a e1)]; exact q
  · obtain ⟨q1, q2, q3⟩ := h.prv q hq
    have hn : q.1 ≠ p := ne_of_none q1 hp
    exact ⟨by rw [upd_ne hn]; exact q1, by rw [upd_ne hn]; exact q2, q3⟩
/-- a new object that nothing is known of later -/
theorem Sto.free {S : Store} {p : Addr} {o : HO} (h : Sto P H ms F S) (hp : H p = none) : Sto P (upd H p o) ms F S := by
  have ne : ∀ (n : Nat) (a : Addr), ms[n]? = some a → a ≠ p := fun n a e z => by subst z; exact h.has n a e hp
  refine ⟨fun b u e => ?_, h.len, fun n a e => ?_, h.inj, fun n a c e1 e2 => ?_, fun q hq => ?_⟩
  · rw [upd_ne (ne_of_none (h.sub _ _ e) hp)]
    exact h.sub _ _ e
  · rw [upd_ne (ne n a e)]
    exact h.has n a e
  · exact (h.cell n a c e1 e2).mono (Nx.refl _ _) (upd_ne (ne n a e1)) fun q => q
  · obtain ⟨q1, q2, q3⟩ := h.prv q hq
    exact ⟨by rw [upd_ne (ne_of_none q1 hp)]; exact q1, q2, q3⟩
theorem pre_snoc {ms : List Addr} {p : Addr} : ∀ (n : Nat) (a : Addr), ms[n]? = some a → (ms ++ [p])[n]? = some a := fun n a e => by
  have hl := (List.getElem?_eq_some_iff.mp e).1
  rw [List.getElem?_append_left hl]
  exact e
/-- a list that no one holds: not known to stay, no living cell -/
structure Fresh (P : Pg) (H : Hp) (ms : List Addr) (F : Hp) (S : Store) (p : Addr) (l : List D) : Prop where
  free : F p = none
  dead : ∀ (n : Nat), ms[n]? = some p → S[n]? = some .dead
  obj : ∃ xs, H p = some (.lst xs) ∧ RepL P ms F xs l
  priv : ∀ q ∈ P.pv, q.1 ≠ p
theorem Sto.nof {S : Store} {p : Addr} (h : Sto P H ms F S) (hp : H p = none) : F p = none := by
  cases q : F p with
  | none => rfl
  | some u =>
    have := h.sub _ _ q
    rw [hp] at this
    cases this
theorem Sto.fresh {S : Store} {p : Addr} {xs : List V} {l : List D} (h : Sto P H ms F S) (hp : H p = none) (r : RepL P ms F xs l) :
    Sto P (upd H p (.lst xs)) ms F S ∧ Fresh P (upd H p (.lst xs)) ms F S p l :=
  ⟨h.free hp, h.nof hp, fun n e => absurd hp (h.has n p e), ⟨xs, upd_same, r⟩, fun q hq => ne_of_none (h.prv q hq).1 hp⟩
/-- it becomes a cell -/
theorem Sto.adopt {S : Store} {p : Addr} {l : List D} (h : Sto P H ms F S) (f : Fresh P H ms F S p l) :
    Sto P H (ms ++ [p]) F (S ++ [.lst l]) ∧ Nx ms F (ms ++ [p]) F := by
  obtain ⟨hF, hd, ⟨xs, hH, r⟩, hpv⟩ := f
  have nx : Nx ms F (ms ++ [p]) F := ⟨pre_snoc, Same.refl F⟩
  have last : ∀ (n : Nat) (a : Addr), (ms ++ [p])[n]? = some a → (ms[n]? = some a) ∨ (n = ms.length ∧ a = p) := fun n a e => by
    by_cases hl : n < ms.length
    · rw [List.getElem?_append_left hl] at e
      exact .inl e
    · rw [List.getElem?_append_right (by omega)] at e
      have : n - ms.length = 0 := by
        cases q : n - ms.length with
        | zero => rfl
        | succ m => rw [q] at e; simp at e
      rw [this] at e
      simp at e
      exact .inr ⟨by omega, e.symm⟩
  have old : ∀ (n : Nat) (a : Addr), ms[n]? = some a → (S ++ [Cell.lst l])[n]? = S[n]? := fun n a e => by
    have hl := (List.getElem?_eq_some_iff.mp e).1
    rw [h.len] at hl
    exact List.getElem?_append_left hl
  refine ⟨⟨h.sub, by simp [h.len], fun n a e => ?_, fun n m a e1 e2 => ?_, fun n a c e1 e2 => ?_, fun q hq => ?_⟩, nx⟩
  · rcases last n a e with e | ⟨_, rfl⟩
    · exact h.has n a e
    · rw [hH]
      exact fun z => nomatch z
  · rcases last n a e1 with e1 | ⟨h1, rfl⟩ <;> rcases last m a e2 with e2 | ⟨h2, z⟩
    · rw [old n a e1, old m a e2]
      exact h.inj n m a e1 e2
    · rw [old n a e1]
      exact .inr (.inl (hd n (z ▸ e1)))
    · rw [old m _ e2]
      exact .inr (.inr (hd m e2))
    · exact .inl (by omega)
  · rcases last n a e1 with e1 | ⟨h1, rfl⟩
    · rw [old n a e1] at e2
      exact (h.cell n a c e1 e2).mono nx rfl fun q => q
    · rw [h1, h.len, List.getElem?_append_right (Nat.le_refl _), Nat.sub_self] at e2
      simp at e2
      subst e2
      exact ⟨hF, xs, hH, r.mono nx⟩
  · obtain ⟨q1, q2, q3⟩ := h.prv q hq
    refine ⟨q1, q2, fun n e => ?_⟩
    rcases last n _ e with e | ⟨_, z⟩
    · rw [old n _ e]
      exact q3 n e
    · exact absurd z (hpv q hq)
/-- it stays as it is -/
theorem Sto.freeze {S : Store} {p : Addr} {l : List D} (h : Sto P H ms F S) (f : Fresh P H ms F S p l) :
    ∃ F', Nx ms F ms F' ∧ Sto P H ms F' S ∧ Rep P ms F' (.ref p) (.lst l) := by
  obtain ⟨hF, hd, ⟨xs, hH, r⟩, hpv⟩ := f
  have nx : Nx ms F ms (upd F p (.lst xs)) := ⟨fun _ _ e => e, fun b u e => by rw [upd_ne (ne_of_none e hF)]; exact e⟩
  refine ⟨upd F p (.lst xs), nx, ⟨fun b u e => ?_, h.len, h.has, h.inj, fun m b c e1 e2 => ?_, fun q hq => ?_⟩, .lst upd_same (r.mono nx)⟩
  · by_cases hb : b = p
    · subst hb
      rw [upd_same] at e
      rw [← e]
      exact hH
    · rw [upd_ne hb] at e
      exact h.sub _ _ e
  · by_cases hb : b = p
    · subst hb
      have := hd m e1
      rw [e2] at this
      cases this
      trivial
    · exact (h.cell m b c e1 e2).mono nx rfl fun q => by rw [upd_ne hb]; exact q
  · obtain ⟨q1, q2, q3⟩ := h.prv q hq
    exact ⟨q1, by rw [upd_ne (hpv q hq)]; exact q2, q3⟩
/-- a cell's list written -/
theorem Sto.write {S : Store} {n : Nat} {a : Addr} {l l' : List D} {xs : List V} (h : Sto P H ms F S) (ha : ms[n]? = some a) (hc : S[n]? = some (.lst l)) (r : RepL P ms F xs l') :
    Sto P (upd H a (.lst xs)) ms F (S.set n (.lst l')) := by
  obtain ⟨hF, _⟩ := h.cell n a _ ha hc
  have hl := (List.getElem?_eq_some_iff.mp hc).1
  have dd : ∀ (i : Nat), S[i]? = some .dead → (S.set n (.lst l'))[i]? = some Cell.dead := fun i e => by
    by_cases hi : n = i
    · subst hi
      rw [hc] at e
      cases e
    · rw [List.getElem?_set_ne hi]
      exact e
  refine ⟨fun b u e => ?_, by simp [h.len], fun m b e => ?_, fun k m b e1 e2 => ?_, fun m b c e1 e2 => ?_, fun q hq => ?_⟩
  · rw [upd_ne (ne_of_none e hF)]
    exact h.sub _ _ e
  · by_cases hb : b = a
    · subst hb
      rw [upd_same]
      exact fun z => nomatch z
    · rw [upd_ne hb]
      exact h.has m b e
  · rcases h.inj k m b e1 e2 with z | z | z
    · exact .inl z
    · exact .inr (.inl (dd _ z))
    · exact .inr (.inr (dd _ z))
  · by_cases hm : n = m
    · subst hm
      rw [ha] at e1
      cases e1
      rw [List.getElem?_set_self hl] at e2
      cases e2
      exact ⟨hF, xs, upd_same, r⟩
    · rw [List.getElem?_set_ne hm] at e2
      by_cases hb : b = a
      · subst hb
        rcases h.inj n m b ha e1 with z | z | z
        · exact absurd z hm
        · rw [hc] at z
          cases z
        · rw [e2] at z
          cases z
          trivial
      · exact (h.cell m b c e1 e2).mono (Nx.refl _ _) (upd_ne hb) fun q => q
  · obtain ⟨q1, q2, q3⟩ := h.prv q hq
    have hn : q.1 ≠ a := fun z => by
      have := q3 n (z ▸ ha)
      rw [hc] at this
      cases this
    exact ⟨by rw [upd_ne hn]; exact q1, q2, fun m e => dd m (q3 m e)⟩
/-- a cell's list is let go -/
theorem Sto.snap {S : Store} {n : Nat} {a : Addr} {l : List D} (h : Sto P H ms F S) (ha : ms[n]? = some a) (hc : S[n]? = some (.lst l)) :
    Sto P H ms F (S.set n .dead) ∧ Fresh P H ms F (S.set n .dead) a l := by
  obtain ⟨hF, xs, hH, r⟩ := h.cell n a _ ha hc
  have hl := (List.getElem?_eq_some_iff.mp hc).1
  have dd : ∀ (i : Nat), S[i]? = some .dead → (S.set n .dead)[i]? = some Cell.dead := fun i e => by
    by_cases hi : n = i
    · subst hi
      exact List.getElem?_set_self hl
    · rw [List.getElem?_set_ne hi]
      exact e
  refine ⟨⟨h.sub, by simp [h.len], h.has, fun k m b e1 e2 => ?_, fun m b c e1 e2 => ?_, fun q hq => ?_⟩, hF, fun m e => ?_, ⟨xs, hH, r⟩, fun q hq z => ?_⟩
  · rcases h.inj k m b e1 e2 with z | z | z
    · exact .inl z
    · exact .inr (.inl (dd _ z))
    · exact .inr (.inr (dd _ z))
  · by_cases hm : n = m
    · subst hm
      rw [List.getElem?_set_self hl] at e2
      cases e2
      trivial
    · rw [List.getElem?_set_ne hm] at e2
      exact h.cell m b c e1 e2
  · obtain ⟨q1, q2, q3⟩ := h.prv q hq
    exact ⟨q1, q2, fun m e => dd m (q3 m e)⟩
  · rcases h.inj n m a ha e with z | z | z
    · subst z
      exact List.getElem?_set_self hl
    · rw [hc] at z
      cases z
    · exact dd _ z
  · have := (h.prv q hq).2.2 n (z ▸ ha)
    rw [hc] at this
    cases this

/-- a new dict becomes a cell -/
theorem Sto.adoptD {S : Store} {p : Addr} {l : List (D × D)} (h : Sto P H ms F S) (hF : F p = none) (hd : ∀ (n : Nat), ms[n]? = some p → S[n]? = some .dead) (hpv : ∀ q ∈ P.pv, q.1 ≠ p) (hH : H p ≠ none) (ok : DctOk P H ms F p l) :
    Sto P H (ms ++ [p]) F (S ++ [.dct l]) ∧ Nx ms F (ms ++ [p]) F := by
  have nx : Nx ms F (ms ++ [p]) F := ⟨pre_snoc, Same.refl F⟩
  have last : ∀ (n : Nat) (a : Addr), (ms ++ [p])[n]? = some a → (ms[n]? = some a) ∨ (n = ms.length ∧ a = p) := fun n a e => by
    by_cases hl : n < ms.length
    · rw [List.getElem?_append_left hl] at e
      exact .inl e
    · rw [List.getElem?_append_right (by omega)] at e
      have : n - ms.length = 0 := by
        cases q : n - ms.length with
        | zero => rfl
        | succ m => rw [q] at e; simp at e
      rw [this] at e
      simp at e
      exact .inr ⟨by omega, e.symm⟩
  have old : ∀ (n : Nat) (a : Addr), ms[n]? = some a → (S ++ [Cell.dct l])[n]? = S[n]? := fun n a e => by
    have hl := (List.getElem?_eq_some_iff.mp e).1
    rw [h.len] at hl
    exact List.getElem?_append_left hl
  refine ⟨⟨h.sub, by simp [h.len], fun n a e => ?_, fun n m a e1 e2 => ?_, fun n a c e1 e2 => ?_, fun q hq => ?_⟩, nx⟩
  · rcases last n a e with e | ⟨_, rfl⟩
    · exact h.has n a e
    · exact hH
  · rcases last n a e1 with e1 | ⟨h1, rfl⟩ <;> rcases last m a e2 with e2 | ⟨h2, z⟩
    · rw [old n a e1, old m a e2]
      exact h.inj n m a e1 e2
    · rw [old n a e1]
      exact .inr (.inl (hd n (z ▸ e1)))
    · rw [old m _ e2]
      exact .inr (.inr (hd m e2))
    · exact .inl (by omega)
  · rcases last n a e1 with e1 | ⟨h1, rfl⟩
    · rw [old n a e1] at e2
      exact (h.cell n a c e1 e2).mono nx rfl fun q => q
    · rw [h1, h.len, List.getElem?_append_right (Nat.le_refl _), Nat.sub_self] at e2
      simp at e2
      subst e2
      exact ⟨hF, ok.mono nx rfl⟩
  · obtain ⟨q1, q2, q3⟩ := h.prv q hq
    refine ⟨q1, q2, fun n e => ?_⟩
    rcases last n _ e with e | ⟨_, z⟩
    · rw [old n _ e]
      exact q3 n e
    · exact absurd z (hpv q hq)
/-- a living cell's object written -/
theorem Sto.writeC {S : Store} {n : Nat} {a : Addr} {c c' : Cell} {o : HO} (h : Sto P H ms F S) (ha : ms[n]? = some a) (hc : S[n]? = some c) (hn : c ≠ .dead) (hF : F a = none) (ok : CellOk P (upd H a o) ms F a c') :
    Sto P (upd H a o) ms F (S.set n c') := by
  have hl := (List.getElem?_eq_some_iff.mp hc).1
  have dd : ∀ (i : Nat), S[i]? = some .dead → (S.set n c')[i]? = some Cell.dead := fun i e => by
    by_cases hi : n = i
    · subst hi
      rw [hc] at e
      cases e
      exact absurd rfl hn
    · rw [List.getElem?_set_ne hi]
      exact e
  refine ⟨fun b u e => ?_, by simp [h.len], fun m b e => ?_, fun k m b e1 e2 => ?_, fun m b c2 e1 e2 => ?_, fun q hq => ?_⟩
  · rw [upd_ne (ne_of_none e hF)]
    exact h.sub _ _ e
  · by_cases hb : b = a
    · subst hb
      rw [upd_same]
      exact fun z => nomatch z
    · rw [upd_ne hb]
      exact h.has m b e
  · rcases h.inj k m b e1 e2 with z | z | z
    · exact .inl z
    · exact .inr (.inl (dd _ z))
    · exact .inr (.inr (dd _ z))
  · by_cases hm : n = m
    · subst hm
      rw [ha] at e1
      cases e1
      rw [List.getElem?_set_self hl] at e2
      cases e2
      exact ok
    · rw [List.getElem?_set_ne hm] at e2
      by_cases hb : b = a
      · subst hb
        rcases h.inj n m b ha e1 with z | z | z
        · exact absurd z hm
        · rw [hc] at z
          cases z
          exact absurd rfl hn
        · rw [e2] at z
          cases z
          trivial
      · exact (h.cell m b c2 e1 e2).mono (Nx.refl _ _) (upd_ne hb) fun q => q
  · obtain ⟨q1, q2, q3⟩ := h.prv q hq
    have hn2 : q.1 ≠ a := fun z => by
      have := q3 n (z ▸ ha)
      rw [hc] at this
      cases this
      exact hn rfl
    exact ⟨by rw [upd_ne hn2]; exact q1, q2, fun m e => dd m (q3 m e)⟩

/-! ### another list is being made -/
def Pg.wp (P : Pg) (pv : List (Addr × HO)) : Pg := { P with pv := pv }
mutual
theorem Rep.wp {pv : List (Addr × HO)} : ∀ {v : V} {d : D}, Rep P ms F v d → Rep (P.wp pv) ms F v d
  | _, _, .non => .non
  | _, _, .bl b => .bl b
  | _, _, .int i => .int i
  | _, _, .str s => .str s
  | _, _, .tup h e r => .tup h e (RepL.wp r)
  | _, _, .lst h r => .lst h (RepL.wp r)
  | _, _, .scr h => .scr h
  | _, _, .loc h => .loc h
  | _, _, .fn h => .fn h
  | _, _, .dctv h e r => .dctv h e (RepL.wp r)
  | _, _, .exn h => .exn h
theorem RepL.wp {pv : List (Addr × HO)} : ∀ {v : List V} {d : List D}, RepL P ms F v d → RepL (P.wp pv) ms F v d
  | _, _, .nil => .nil
  | _, _, .cons h t => .cons (Rep.wp h) (RepL.wp t)
end
theorem wp_self (P : Pg) (pv : List (Addr × HO)) : (P.wp pv).wp P.pv = P := rfl
theorem Rep.un {pv : List (Addr × HO)} {v : V} {d : D} (h : Rep (P.wp pv) ms F v d) : Rep P ms F v d := by
  have := Rep.wp (pv := P.pv) h
  exact this
theorem RepL.un {pv : List (Addr × HO)} {v : List V} {d : List D} (h : RepL (P.wp pv) ms F v d) : RepL P ms F v d := by
  have := RepL.wp (pv := P.pv) h
  exact this
theorem CellOk.wp {pv : List (Addr × HO)} {a : Addr} {c : Cell} (h : CellOk P H ms F a c) : CellOk (P.wp pv) H ms F a c := by
  cases c with
  | lst l =>
    obtain ⟨h1, xs, h2, h3⟩ := h
    exact ⟨h1, xs, h2, h3.wp⟩
  | dct l =>
    obtain ⟨hf, hl, ⟨kvs, h1, h2⟩ | ⟨hs, kvs, h1, h2⟩⟩ := h
    · exact ⟨hf, hl, .inl ⟨kvs, h1, Paired.mapP h2 fun _ _ z => ⟨z.1, z.2.wp⟩⟩⟩
    · exact ⟨hf, hl, .inr ⟨hs, kvs, h1, Paired.mapP h2 fun _ _ z => ⟨z.1.wp, z.2.1, z.2.2.1, z.2.2.2.1, z.2.2.2.2.wp⟩⟩⟩
  | obj c l => exact h
  | dead => trivial
/-- a list that no one holds is being made -/
theorem Sto.hold {S : Store} {p : Addr} {l : List D} (h : Sto P H ms F S) (f : Fresh P H ms F S p l) : ∃ xs, RepL P ms F xs l ∧ H p = some (.lst xs) ∧ Sto (P.wp ((p, HO.lst xs) :: P.pv)) H ms F S := by
  obtain ⟨hF, hd, ⟨xs, hH, r⟩, hpv⟩ := f
  refine ⟨xs, r, hH, h.sub, h.len, h.has, h.inj, fun n a c e1 e2 => (h.cell n a c e1 e2).wp, fun q hq => ?_⟩
  rcases List.mem_cons.mp hq with rfl | hq
  · exact ⟨hH, hF, hd⟩
  · exact h.prv q hq
/-- it has been made -/
theorem Sto.give {S : Store} {p : Addr} {xs : List V} {l : List D} (hn : ∀ q ∈ P.pv, q.1 ≠ p) (h : Sto (P.wp ((p, HO.lst xs) :: P.pv)) H ms F S) (r : RepL P ms F xs l) : Sto P H ms F S ∧ Fresh P H ms F S p l := by
  obtain ⟨q1, q2, q3⟩ := h.prv (p, HO.lst xs) List.mem_cons_self
  refine ⟨⟨h.sub, h.len, h.has, h.inj, fun n a c e1 e2 => ?_, fun q hq => h.prv q (List.mem_cons_of_mem _ hq)⟩, q2, q3, ⟨xs, q1, r⟩, hn⟩
  have := CellOk.wp (pv := P.pv) (h.cell n a c e1 e2)
  exact this
/-- it grows -/
theorem Sto.grow {S : Store} {p : Addr} {xs ys : List V} (hn : ∀ q ∈ P.pv, q.1 ≠ p) (h : Sto (P.wp ((p, HO.lst xs) :: P.pv)) H ms F S) : Sto (P.wp ((p, HO.lst ys) :: P.pv)) (upd H p (.lst ys)) ms F S := by
  obtain ⟨q1, q2, q3⟩ := h.prv (p, HO.lst xs) List.mem_cons_self
  refine ⟨fun b u e => ?_, h.len, fun n a e => ?_, h.inj, fun n a c e1 e2 => ?_, fun q hq => ?_⟩
  · rw [upd_ne (ne_of_none e q2)]
    exact h.sub _ _ e
  · by_cases ha : a = p
    · subst ha
      rw [upd_same]
      exact fun z => nomatch z
    · rw [upd_ne ha]
      exact h.has n a e
  · by_cases ha : a = p
    · subst ha
      have := q3 n e1
      rw [e2] at this
      cases this
      trivial
    · have k := (h.cell n a c e1 e2).mono (H' := upd H p (.lst ys)) (Nx.refl _ _) (upd_ne ha) fun q => q
      exact CellOk.wp (P := P.wp ((p, HO.lst xs) :: P.pv)) (pv := (p, HO.lst ys) :: P.pv) k
  · rcases List.mem_cons.mp hq with rfl | hq
    · exact ⟨upd_same, q2, q3⟩
    · obtain ⟨z1, z2, z3⟩ := h.prv q (List.mem_cons_of_mem _ hq)
      exact ⟨by rw [upd_ne (hn q hq)]; exact z1, z2, z3⟩

/-! ### as data of the library -/
mutual
theorem Rep.dp (s : Same F H) : ∀ {d : D} {v : V}, d.pure = true → Rep P ms F v d → Dp P.K H v d.py
  | .non, _, _, h => by cases h; exact .non
  | .bl b, _, _, h => by cases h; exact .bl b
  | .int i, _, _, h => by cases h; exact .int i
  | .str x, _, _, h => by cases h; exact .str x
  | .tup l, _, p, h => by
    cases h with
    | tup h1 h2 h3 =>
      rw [D.py]
      exact .tup (.inl (.inr ⟨_, s _ _ h1⟩)) (RepL.dp s (by simpa [D.pure] using p) h3)
  | .lst l, _, p, h => by
    cases h with
    | lst h1 h3 =>
      rw [D.py]
      exact .lst (.inl (.inl (s _ _ h1))) (RepL.dp s (by simpa [D.pure] using p) h3)
  | .scr l, _, p, _ => by simp [D.pure] at p
  | .loc _, _, p, _ => by simp [D.pure] at p
  | .fn _, _, p, _ => by simp [D.pure] at p
  | .dctv _ _, _, p, _ => by simp [D.pure] at p
  | .exn _, _, p, _ => by simp [D.pure] at p
theorem RepL.dp (s : Same F H) : ∀ {ds : List D} {vs : List V}, D.pures ds = true → RepL P ms F vs ds → DpAll P.K H vs (D.pys ds)
  | [], _, _, h => by cases h; exact .nil
  | d :: ds, _, p, h => by
    cases h with
    | cons h1 h2 =>
      simp only [D.pures, Bool.and_eq_true] at p
      exact .cons (Rep.dp s p.1 h1) (RepL.dp s p.2 h2)
end
end SV
/-! SvC: what a reading asks; operators by values. -/
namespace SV
open PySem PySem.Spec PyProof.Rows L2

/-! ### what is wanted of a result -/
/-- a value of this data -/
def Ord (P : Pg) (ms : List Addr) (F : Hp) (Q : VK) (d : D) (S : Store) : Prop :=
  ∀ v H' ms' F', Nx ms F ms' F' → Sto P H' ms' F' S → Rep P ms' F' v d → Q v H'
/-- a new list -/
def New (P : Pg) (ms : List Addr) (F : Hp) (Q : VK) (l : List D) (S : Store) : Prop :=
  ∀ p H' ms' F', Nx ms F ms' F' → Sto P H' ms' F' S → Fresh P H' ms' F' S p l → Q (.ref p) H'
def Val (P : Pg) (ms : List Addr) (F : Hp) (fr : Bool) (Q : VK) (d : D) (S : Store) : Prop := match fr, d with
  | true, .lst l => New P ms F Q l S
  | _, d => Ord P ms F Q d S
abbrev XQ := Nat → Hp → Prop
def Post (P : Pg) (ms : List Addr) (F : Hp) (fr : Bool) (Q : VK) (Ex : XQ) : R D → Prop
  | .ok d S => Val P ms F fr Q d S
  | .exc c S => ∀ H' ms' F', Nx ms F ms' F' → Sto P H' ms' F' S → Ex c H'
  | .bad => False
variable {P : Pg} {ms ms' : List Addr} {F F' : Hp}
theorem Ord.new {Q : VK} {l : List D} {S : Store} (h : Ord P ms F Q (.lst l) S) : New P ms F Q l S := fun p H' ms' F' nx st f =>
  let ⟨F2, nx2, st2, r⟩ := st.freeze f
  h _ _ _ _ (nx.trans nx2) st2 r
theorem Ord.val {fr : Bool} {Q : VK} {d : D} {S : Store} (h : Ord P ms F Q d S) : Val P ms F fr Q d S := by
  unfold Val
  split
  · exact h.new
  · exact h
theorem Ord.of_val {Q : VK} {d : D} {S : Store} (h : Val P ms F false Q d S) : Ord P ms F Q d S := by
  unfold Val at h
  exact h
theorem Ord.nx {Q : VK} {d : D} {S : Store} (x : Nx ms F ms' F') (h : Ord P ms F Q d S) : Ord P ms' F' Q d S := fun v H2 ms2 F2 nx st r => h v H2 ms2 F2 (x.trans nx) st r
theorem New.nx {Q : VK} {d : List D} {S : Store} (x : Nx ms F ms' F') (h : New P ms F Q d S) : New P ms' F' Q d S := fun v H2 ms2 F2 nx st r => h v H2 ms2 F2 (x.trans nx) st r
theorem Val.nx {fr : Bool} {Q : VK} {d : D} {S : Store} (x : Nx ms F ms' F') (h : Val P ms F fr Q d S) : Val P ms' F' fr Q d S := by
  unfold Val at h ⊢
  split
  · exact New.nx x h
  · next q => split at h
              · exact absurd rfl (q _ rfl)
              · exact Ord.nx x h
theorem Post.nx {fr : Bool} {Q : VK} {Ex : XQ} {r : R D} (x : Nx ms F ms' F') (h : Post P ms F fr Q Ex r) : Post P ms' F' fr Q Ex r := match r, h with
  | .ok d S, h => Val.nx x h
  | .exc c S, h => fun H2 ms2 F2 nx st => h H2 ms2 F2 (x.trans nx) st
  | .bad, h => h
/-- a plain wish is one of new lists too -/
theorem Post.weak {fr : Bool} {Q : VK} {Ex : XQ} {r : R D} (h : Post P ms F false Q Ex r) : Post P ms F fr Q Ex r := match r, h with
  | .ok d S, h => (Ord.of_val h).val
  | .exc c S, h => h
  | .bad, h => h
/-- one after the other -/
theorem Post.bind {fr : Bool} {Q Q' : VK} {Ex : XQ} {r : R D} {g : D → Store → R D} (h : Post P ms F fr Q Ex (r.bind g))
    (k : ∀ d S v H' ms' F', Nx ms F ms' F' → Sto P H' ms' F' S → Rep P ms' F' v d → Post P ms' F' fr Q Ex (g d S) → Q' v H') : Post P ms F false Q' Ex r := match r, h with
  | .ok d S, h => fun v H' ms' F' nx st rv => k d S v H' ms' F' nx st rv (Post.nx nx h)
  | .exc c S, h => h
  | .bad, h => h

/-! ### readings -/
/-- what the evaluator answers, as an expression's reading; W: what is wanted of an error -/
def tE (P : Pg) (W : WX) (fr : Bool) (f : Env → Store → R D) : TE := fun σ H Q => ∃ env ms F S, Slots P ms F σ env ∧ Sto P H ms F S ∧
  Post P ms F fr Q (fun c H' => ∀ C, P.mg (P.cls c) = some (.ref C) → W (.ref C) none σ H') (f env S)
section
variable {X : Cx} {W : WX}
theorem _root_.L2.PE.imp {e : Expr} {t t' : TE} (h : PE X e t) (k : ∀ σ H Q, t' σ H Q → t σ H Q) : PE X e t' := ⟨fun pins s σ H Q I q => h.run pins s σ H Q I (k σ H Q q)⟩
theorem _root_.L2.PT.imp {e : Expr} {t t' : TT} (h : PT X e t) (k : ∀ σ H Q, t' σ H Q → t σ H Q) : PT X e t' := ⟨fun pins s σ H Q I q => h.run pins s σ H Q I (k σ H Q q)⟩
theorem _root_.L2.PA.imp {e : List Expr} {t t' : TA} (h : PA X e t) (k : ∀ σ H Q, t' σ H Q → t σ H Q) : PA X e t' := ⟨fun pos pins s σ H Q I q => h.run pos pins s σ H Q I (k σ H Q q)⟩
theorem _root_.L2.PI.imp {e tg : Expr} {t t' : TI} (h : PI X tg e t) (k : ∀ σ H Q, t' σ H Q → t σ H Q) : PI X tg e t' := ⟨fun pins s σ H Q I q => h.run pins s σ H Q I (k σ H Q q)⟩
theorem _root_.L2.PSs.imp {e : List Stmt} {t t' : TS} (h : PSs X e t) (k : ∀ D σ H, t' D σ H → t D σ H) : PSs X e t' := ⟨fun pins s σ H D I q => h.run pins s σ H D I (k D σ H q)⟩
theorem _root_.L2.PS.imp {e : Stmt} {t t' : TS} (h : PS X e t) (k : ∀ D σ H, t' D σ H → t D σ H) : PS X e t' := ⟨fun pins s σ H D I q => h.run pins s σ H D I (k D σ H q)⟩
/-- any wish by a stronger rule -/
theorem _root_.L2.PE.ord {e : Expr} {fr : Bool} {f : Env → Store → R D} (h : PE X e (tE P W fr f)) : PE X e (tE P W false f) :=
  h.imp fun _ _ _ ⟨env, ms, F, S, hs, st, q⟩ => ⟨env, ms, F, S, hs, st, q.weak⟩

/-! ### names, constants -/
theorem s_var {i : Nat} {x : Str} {pos : Pos} (hN : X.N[i]? = some x) (hv : Vis X.env.scope x) (hd : (x == ("__debug__" : Str)) = false) (hcd : (x == ("__classdict__" : Str)) = false) :
    PE X (.Name x pos) (tE P W false fun env S => match env.getD i none with | some d => .ok d S | none => .bad) := (pe_var hN hv hd hcd).imp fun σ H Q ⟨env, ms, F, S, hs, st, h⟩ => by
  dsimp only at h
  cases q : env.getD i none with
  | none =>
    rw [q] at h
    exact h.elim
  | some d =>
    rw [q] at h
    have e : env[i]? = some (some d) := by
      rw [List.getD_eq_getElem?_getD] at q
      cases z : env[i]? with
      | none => rw [z] at q; cases q
      | some o => rw [z] at q; exact congrArg some q
    obtain ⟨v, h1, h2⟩ := hs.2 i d e
    exact ⟨v, h1, h v H ms F (Nx.refl _ _) st h2⟩
/-- flat data that a constant may be -/
def flatOf : D → Option V
  | .non => some .non
  | .bl b => some (.bl b)
  | .int i => some (.int i)
  | .str s => some (.str s)
  | _ => none
theorem flat_rep {d : D} {v : V} (h : flatOf d = some v) : Rep P ms F v d := by
  cases d <;> simp [flatOf] at h <;> subst h <;> constructor
theorem s_cst {e : Expr} {v : V} {d : D} (h : PE X e (tC v)) (r : ∀ ms F, Rep P ms F v d) : PE X e (tE P W false fun _ S => .ok d S) :=
  h.imp fun σ H Q ⟨env, ms, F, S, hs, st, q⟩ => q v H ms F (Nx.refl _ _) st (r _ _)

/-! ### two places -/
/-- by values -/
def rv2 (P : Pg) (fr : Bool) (app : D → D → Store → R D) : R2 := fun x y H Q => ∃ ms F S dx dy Ex, Sto P H ms F S ∧ Rep P ms F x dx ∧ Rep P ms F y dy ∧ Post P ms F fr Q Ex (app dx dy S)
variable {a b c : Expr} {fa fb fc : Env → Store → R D} {pos : Pos}
/-- two expressions, then an operation -/
def bin2 (fa fb : Env → Store → R D) (app : D → D → Store → R D) : Env → Store → R D := fun env S => (fa env S).bind fun x S => (fb env S).bind fun y S => app x y S
theorem t_bin {fr : Bool} {app : D → D → Store → R D} {σ : L2.St} {H : Hp} {Q : VK} (h : tE P W fr (bin2 fa fb app) σ H Q) : tOp (rv2 P fr app) (tE P W false fa) (tE P W false fb) σ H Q := by
  obtain ⟨env, ms, F, S, hs, st, h⟩ := h
  exact ⟨env, ms, F, S, hs, st, h.bind fun x S1 v H1 ms1 F1 nx st1 rx h1 => ⟨env, ms1, F1, S1, hs.mono nx, st1, h1.bind fun y S2 u H2 ms2 F2 nx2 st2 ry h2 => ⟨ms2, F2, S2, x, y, _, st2, rx.mono nx2, ry, h2⟩⟩⟩
theorem s_op {op : Operator} {fr : Bool} {app : D → D → Store → R D} (ho : OpR X (binaryOp op) (rv2 P fr app)) (ha : PE X a (tE P W false fa)) (hb : PE X b (tE P W false fb)) : PE X (.BinOp a op b pos) (tE P W fr (bin2 fa fb app)) :=
  (pe_op ho ha hb).imp fun _ _ _ h => t_bin h
noncomputable def cmA (o : Cm) : D → D → Store → R D := fun x y S => match o.app x y S with
  | some c => .ok (.bl c) S
  | none => .bad
theorem s_cmp {op : CmpOp} {o : Cm} (ho : OpR X (compareOp op) (rv2 P false (cmA o))) (ha : PE X a (tE P W false fa)) (hb : PE X b (tE P W false fb)) (hm : behindInMarks op b = false) : PE X (.Compare a [op] [b] pos) (tE P W false (bin2 fa fb (cmA o))) :=
  (pe_cmpR ho ha hb hm).imp fun _ _ _ h => t_bin h
/-- tests -/
def tT (P : Pg) (W : WX) (f : Env → Store → R D) : TT := fun σ H Q => tE P W false f σ H fun v H' => ∃ c, v = .bl c ∧ Q c H'
theorem t_cm {o : Cm} {x y : V} {H : Hp} {Q : VK} (h : rv2 P false (cmA o) x y H Q) : rv2 P false (cmA o) x y H fun v H' => Q v H' := h
theorem s_cmpT {op : CmpOp} {o : Cm} (ho : OpR X (compareOp op) (rv2 P false (cmA o))) (ha : PE X a (tE P W false fa)) (hb : PE X b (tE P W false fb)) (hm : behindInMarks op b = false) : PT X (.Compare a [op] [b] pos) (tT P W (bin2 fa fb (cmA o))) :=
  (pt_cmpR ho ha hb hm).imp fun _ _ _ h => t_bin h
/-- a op b op' c -/
noncomputable def chnF (fa fb fc : Env → Store → R D) (o o' : Cm) : Env → Store → R D := fun env S => (fa env S).bind fun x S => (fb env S).bind fun y S => match o.app x y S with
    | some true => (fc env S).bind fun z S => cmA o' y z S
    | some false => .ok (.bl false) S
    | none => .bad
theorem t_chn {o o' : Cm} {σ : L2.St} {H : Hp} {Q : VK} (h : tE P W false (chnF fa fb fc o o') σ H Q) :
    tChain (rv2 P false (cmA o)) (rv2 P false (cmA o')) (tE P W false fa) (tE P W false fb) (tE P W false fc) σ H Q := by
  obtain ⟨env, ms, F, S, hs, st, h⟩ := h
  refine ⟨env, ms, F, S, hs, st, h.bind fun x S1 v H1 ms1 F1 nx st1 rx h1 => ⟨env, ms1, F1, S1, hs.mono nx, st1, h1.bind fun y S2 u H2 ms2 F2 nx2 st2 ry h2 => ⟨ms2, F2, S2, x, y, fun _ _ => True, st2, rx.mono nx2, ry, ?_⟩⟩⟩
  unfold cmA
  cases q : o.app x y S2 with
  | none =>
    rw [q] at h2
    exact h2.elim
  | some k =>
    rw [q] at h2
    refine fun w H3 ms3 F3 nx3 st3 rw => ?_
    cases rw
    refine ⟨k, rfl, ?_⟩
    cases k with
    | false => exact iteF (h2 _ _ _ _ nx3 st3 (.bl false))
    | true =>
      have h3 : Post P ms2 F2 false Q _ ((fc env S2).bind fun z S => cmA o' y z S) := h2
      exact iteT ⟨env, ms3, F3, S2, (hs.mono nx).mono (nx2.trans nx3), st3, (Post.nx nx3 h3).bind fun z S4 w4 H4 ms4 F4 nx4 st4 rz h4 => ⟨ms4, F4, S4, y, z, _, st4, ry.mono (nx3.trans nx4), rz, h4⟩⟩
theorem s_chn {op op' : CmpOp} {o o' : Cm} (ho : OpR X (compareOp op) (rv2 P false (cmA o))) (ho' : OpR X (compareOp op') (rv2 P false (cmA o'))) (ha : PE X a (tE P W false fa)) (hb : PE X b (tE P W false fb)) (hc : PE X c (tE P W false fc))
    (hm : lastMarks [op, op'] [b, c] = false) : PE X (.Compare a [op, op'] [b, c] pos) (tE P W false (chnF fa fb fc o o')) :=
  (pe_chain ho ho' ha hb hc hm).imp fun _ _ _ h => t_chn h
theorem s_chnT {op op' : CmpOp} {o o' : Cm} (ho : OpR X (compareOp op) (rv2 P false (cmA o))) (ho' : OpR X (compareOp op') (rv2 P false (cmA o'))) (ha : PE X a (tE P W false fa)) (hb : PE X b (tE P W false fb)) (hc : PE X c (tE P W false fc))
    (hm : lastMarks [op, op'] [b, c] = false) : PT X (.Compare a [op, op'] [b, c] pos) (tT P W (chnF fa fb fc o o')) :=
  (pt_chain ho ho' ha hb hc hm).imp fun _ _ _ h => t_chn h

/-! ### not, and, or, if -/
def notF (fa : Env → Store → R D) : Env → Store → R D := fun env S => (fa env S).bind fun x S => match x with
    | .bl c => .ok (.bl (!c)) S
    | _ => .bad
def andF (fa fb : Env → Store → R D) : Env → Store → R D := fun env S => (fa env S).bind fun x S => match x with
    | .bl true => fb env S
    | .bl false => .ok (.bl false) S
    | _ => .bad
def orF (fa fb : Env → Store → R D) : Env → Store → R D := fun env S => (fa env S).bind fun x S => match x with
    | .bl true => .ok (.bl true) S
    | .bl false => fb env S
    | _ => .bad
def iteG (fc fa fb : Env → Store → R D) : Env → Store → R D := fun env S => (fc env S).bind fun x S => match x with
    | .bl true => fa env S
    | .bl false => fb env S
    | _ => .bad
theorem s_not (ha : PE X a (tE P W false fa)) : PE X (.UnaryOp .Not a pos) (tE P W false (notF fa)) :=
  (pe_not ha).imp fun σ H Q ⟨env, ms, F, S, hs, st, h⟩ => ⟨env, ms, F, S, hs, st, h.bind fun x S1 v H1 ms1 F1 nx st1 rx h1 => by
    cases rx with
    | bl k => exact ⟨k, rfl, h1 _ _ _ _ (Nx.refl _ _) st1 (.bl _)⟩
    | _ => exact h1.elim⟩
theorem s_notT (ha : PT X a (tT P W fa)) : PT X (.UnaryOp .Not a pos) (tT P W (notF fa)) :=
  (pt_not ha).imp fun σ H Q ⟨env, ms, F, S, hs, st, h⟩ => ⟨env, ms, F, S, hs, st, h.bind fun x S1 v H1 ms1 F1 nx st1 rx h1 => by
    cases rx with
    | bl k =>
      obtain ⟨d, e, q⟩ := h1 _ _ _ _ (Nx.refl _ _) st1 (.bl _)
      cases e
      exact ⟨k, rfl, q⟩
    | _ => exact h1.elim⟩
theorem s_and {r : List Expr} {p2 : Pos} (ha : PE X a (tE P W false fa)) (hb : PE X (.BoolOp .And (b :: r) pos) (tE P W false fb)) : PE X (.BoolOp .And (a :: b :: r) pos) (tE P W false (andF fa fb)) :=
  (pe_and ha hb).imp fun σ H Q ⟨env, ms, F, S, hs, st, h⟩ => ⟨env, ms, F, S, hs, st, h.bind fun x S1 v H1 ms1 F1 nx st1 rx h1 => by
    cases rx with
    | bl k =>
      refine ⟨k, rfl, ?_⟩
      cases k with
      | true => exact iteT ⟨env, ms1, F1, S1, hs.mono nx, st1, h1⟩
      | false => exact iteF (h1 _ _ _ _ (Nx.refl _ _) st1 (.bl _))
    | _ => exact h1.elim⟩
theorem s_or {r : List Expr} {p2 : Pos} (ha : PE X a (tE P W false fa)) (hb : PE X (.BoolOp .Or (b :: r) pos) (tE P W false fb)) : PE X (.BoolOp .Or (a :: b :: r) pos) (tE P W false (orF fa fb)) :=
  (pe_or ha hb).imp fun σ H Q ⟨env, ms, F, S, hs, st, h⟩ => ⟨env, ms, F, S, hs, st, h.bind fun x S1 v H1 ms1 F1 nx st1 rx h1 => by
    cases rx with
    | bl k =>
      refine ⟨k, rfl, ?_⟩
      cases k with
      | true => exact iteT (h1 _ _ _ _ (Nx.refl _ _) st1 (.bl _))
      | false => exact iteF ⟨env, ms1, F1, S1, hs.mono nx, st1, h1⟩
    | _ => exact h1.elim⟩
theorem s_andT {r : List Expr} (ha : PT X a (tT P W fa)) (hb : PW X (.BoolOp .And (b :: r) pos) (tT P W fb)) : PW X (.BoolOp .And (a :: b :: r) pos) (tT P W (andF fa fb)) :=
  ⟨fun wh pins s σ H Q I q => (pw_and ha hb).run wh pins s σ H Q I (by
    obtain ⟨env, ms, F, S, hs, st, h⟩ := q
    exact ⟨env, ms, F, S, hs, st, h.bind fun x S1 v H1 ms1 F1 nx st1 rx h1 => by
      cases rx with
      | bl k =>
        refine ⟨k, rfl, ?_⟩
        cases k with
        | true => exact iteT ⟨env, ms1, F1, S1, hs.mono nx, st1, h1⟩
        | false =>
          obtain ⟨d, e, q⟩ := h1 _ _ _ _ (Nx.refl _ _) st1 (.bl _)
          cases e
          exact iteF q
      | _ => exact h1.elim⟩)⟩
theorem s_orT {r : List Expr} (ha : PT X a (tT P W fa)) (hb : PW X (.BoolOp .Or (b :: r) pos) (tT P W fb)) : PW X (.BoolOp .Or (a :: b :: r) pos) (tT P W (orF fa fb)) :=
  ⟨fun wh pins s σ H Q I q => (pw_or ha hb).run wh pins s σ H Q I (by
    obtain ⟨env, ms, F, S, hs, st, h⟩ := q
    exact ⟨env, ms, F, S, hs, st, h.bind fun x S1 v H1 ms1 F1 nx st1 rx h1 => by
      cases rx with
      | bl k =>
        refine ⟨k, rfl, ?_⟩
        cases k with
        | true =>
          obtain ⟨d, e, q⟩ := h1 _ _ _ _ (Nx.refl _ _) st1 (.bl _)
          cases e
          exact iteT q
        | false => exact iteF ⟨env, ms1, F1, S1, hs.mono nx, st1, h1⟩
      | _ => exact h1.elim⟩)⟩
theorem s_ite {fr : Bool} (hc : PT X c (tT P W fc)) (ha : PE X a (tE P W fr fa)) (hb : PE X b (tE P W fr fb)) : PE X (.IfExp c a b pos) (tE P W fr (iteG fc fa fb)) :=
  (pe_ifExp hc ha hb).imp fun σ H Q ⟨env, ms, F, S, hs, st, h⟩ => ⟨env, ms, F, S, hs, st, h.bind fun x S1 v H1 ms1 F1 nx st1 rx h1 => by
    cases rx with
    | bl k =>
      refine ⟨k, rfl, ?_⟩
      cases k with
      | true => exact iteT ⟨env, ms1, F1, S1, hs.mono nx, st1, h1⟩
      | false => exact iteF ⟨env, ms1, F1, S1, hs.mono nx, st1, h1⟩
    | _ => exact h1.elim⟩
/-- a value as a test -/
theorem s_valT (ha : PE X a (tE P W false fa)) (he : ∀ whole, isTrue a X.env whole = (do let v ← whole; standAt a.pos; holding [v] (truthy v))) : PT X a (tT P W fa) :=
  (pt_val ha he).imp fun _ _ _ h => h
theorem s_neg (ha : PE X a (tE P W false fa)) : PE X (.UnaryOp .USub a pos) (tE P W false fun env S => (fa env S).bind fun x S => match x with | .int i => .ok (.int (-i)) S | _ => .bad) :=
  (pe_un un_neg ha).imp fun σ H Q ⟨env, ms, F, S, hs, st, h⟩ => ⟨env, ms, F, S, hs, st, h.bind fun x S1 v H1 ms1 F1 nx st1 rx h1 => by
    cases rx with
    | int i => exact ⟨i, rfl, h1 _ _ _ _ (Nx.refl _ _) st1 (.int _)⟩
    | _ => exact h1.elim⟩

/-! ### rows of expressions -/
def PostL (P : Pg) (ms : List Addr) (F : Hp) (Q : List V → Hp → Prop) (Ex : XQ) : R (List D) → Prop
  | .ok l S => ∀ vs H' ms' F', Nx ms F ms' F' → Sto P H' ms' F' S → RepL P ms' F' vs l → Q vs H'
  | .exc c S => ∀ H' ms' F', Nx ms F ms' F' → Sto P H' ms' F' S → Ex c H'
  | .bad => False
theorem PostL.nx {Q : List V → Hp → Prop} {Ex : XQ} {r : R (List D)} (x : Nx ms F ms' F') (h : PostL P ms F Q Ex r) : PostL P ms' F' Q Ex r := match r, h with
  | .ok l S, h => fun vs H2 ms2 F2 nx st => h vs H2 ms2 F2 (x.trans nx) st
  | .exc c S, h => fun H2 ms2 F2 nx st => h H2 ms2 F2 (x.trans nx) st
  | .bad, h => h
abbrev ExW (P : Pg) (W : WX) (σ : L2.St) : XQ := fun c H' => ∀ C, P.mg (P.cls c) = some (.ref C) → W (.ref C) none σ H'
def tA (P : Pg) (W : WX) (f : Env → Store → R (List D)) : TA := fun σ H Q => ∃ env ms F S, Slots P ms F σ env ∧ Sto P H ms F S ∧ PostL P ms F Q (ExW P W σ) (f env S)
theorem s_nil : PA X [] (tA P W fun _ S => .ok [] S) := pa_nil.imp fun σ H Q ⟨env, ms, F, S, hs, st, h⟩ => h [] H ms F (Nx.refl _ _) st .nil
theorem PostL.step {Q : List V → Hp → Prop} {Q' : VK} {Ex : XQ} {r : R D} {g : D → Store → R (List D)} (h : PostL P ms F Q Ex (r.bind g))
    (k : ∀ d S v H' ms' F', Nx ms F ms' F' → Sto P H' ms' F' S → Rep P ms' F' v d → PostL P ms' F' Q Ex (g d S) → Q' v H') : Post P ms F false Q' Ex r := match r, h with
  | .ok d S, h => fun v H' ms' F' nx st rv => k d S v H' ms' F' nx st rv (PostL.nx nx h)
  | .exc c S, h => h
  | .bad, h => h
theorem PostL.more {Q Q' : List V → Hp → Prop} {Ex : XQ} {r : R (List D)} {g : List D → Store → R (List D)} (h : PostL P ms F Q Ex (r.bind g))
    (k : ∀ d S v H' ms' F', Nx ms F ms' F' → Sto P H' ms' F' S → RepL P ms' F' v d → PostL P ms' F' Q Ex (g d S) → Q' v H') : PostL P ms F Q' Ex r := match r, h with
  | .ok d S, h => fun v H' ms' F' nx st rv => k d S v H' ms' F' nx st rv (PostL.nx nx h)
  | .exc c S, h => h
  | .bad, h => h
theorem Post.row {fr : Bool} {Q : VK} {Q' : List V → Hp → Prop} {Ex : XQ} {r : R (List D)} {g : List D → Store → R D} (h : Post P ms F fr Q Ex (r.bind g))
    (k : ∀ d S v H' ms' F', Nx ms F ms' F' → Sto P H' ms' F' S → RepL P ms' F' v d → Post P ms' F' fr Q Ex (g d S) → Q' v H') : PostL P ms F Q' Ex r := match r, h with
  | .ok d S, h => fun v H' ms' F' nx st rv => k d S v H' ms' F' nx st rv (Post.nx nx h)
  | .exc c S, h => h
  | .bad, h => h
theorem s_cons {es : List Expr} {fs : Env → Store → R (List D)} (ha : PE X a (tE P W false fa)) (hr : PA X es (tA P W fs)) (hs : starEach (a :: es) X.env = (false, eval a X.env) :: starEach es X.env) :
    PA X (a :: es) (tA P W fun env S => (fa env S).bind fun x S => (fs env S).bind fun l S => .ok (x :: l) S) :=
  (pa_cons ha hr hs).imp fun σ H Q ⟨env, ms, F, S, sl, st, h⟩ => ⟨env, ms, F, S, sl, st, h.step fun x S1 v H1 ms1 F1 nx st1 rx h1 =>
    ⟨env, ms1, F1, S1, sl.mono nx, st1, h1.more fun l S2 vs H2 ms2 F2 nx2 st2 rl h2 => h2 (v :: vs) H2 ms2 F2 (Nx.refl _ _) st2 (.cons (rx.mono nx2) rl)⟩⟩
/-- behind a row -/
def rowF (fs : Env → Store → R (List D)) (g : List D → Store → R D) : Env → Store → R D := fun env S => (fs env S).bind g
/-- by values, of a row -/
def rvN (P : Pg) (fr : Bool) (Ex : XQ) (app : List D → Store → R D) : List V → Hp → VK → Prop := fun vs H Q => ∃ ms F S l, Sto P H ms F S ∧ RepL P ms F vs l ∧ Post P ms F fr Q Ex (app l S)
theorem t_row {fs : Env → Store → R (List D)} {fr : Bool} {g : List D → Store → R D} {σ : L2.St} {H : Hp} {Q : VK} (h : tE P W fr (rowF fs g) σ H Q) :
    tA P W fs σ H fun vs H1 => rvN P fr (ExW P W σ) g vs H1 Q := by
  obtain ⟨env, ms, F, S, hs, st, h⟩ := h
  exact ⟨env, ms, F, S, hs, st, h.row fun l S1 vs H1 ms1 F1 nx st1 rl h1 => ⟨ms1, F1, S1, l, st1, rl, h1⟩⟩
theorem s_lst {es : List Expr} {fs : Env → Store → R (List D)} (h : PA X es (tA P W fs)) : PE X (.List es pos) (tE P W true (rowF fs fun l S => if okLen l.length then .ok (.lst l) S else .bad)) :=
  (pe_lst h).imp fun σ H Q ⟨env, ms, F, S, hs, st, h⟩ => ⟨env, ms, F, S, hs, st, h.row fun l S1 vs H1 ms1 F1 nx st1 rl h1 => by
    by_cases hz : okLen l.length = true
    · rw [if_pos hz] at h1
      refine ⟨?_, fun p hp => ?_⟩
      · rw [rl.length]
        exact Nat.le_trans (of_decide_eq_true hz) (by decide)
      · obtain ⟨s1, f⟩ := st1.fresh hp rl
        exact h1 p _ _ _ (Nx.refl _ _) s1 f
    · rw [if_neg hz] at h1
      exact h1.elim⟩
end
end SV
/-! SvD: operators, subscripts, slices, built-ins by values. -/
namespace SV
open PySem PySem.Spec PyProof.Rows L2
theorem okLen_le {n : Nat} (h : okLen n = true) : n ≤ sizeLine := Nat.le_trans (of_decide_eq_true h) (by decide)
theorem okLen_lt {n : Nat} (h : okLen n = true) : n < sizeLine := Nat.lt_of_le_of_lt (of_decide_eq_true h) (by decide)
/-- a tuple as the model makes it -/
abbrev tupO (us : List Value) : Obj := { cls := .type "tuple", data := .seq us.toArray }
variable {X : Cx} {pins : List (Addr × Obj)} {σ : L2.St} {H : Hp} {s : Shared} {P : Pg} {ms : List Addr} {F : Hp} {S : Store}
theorem inv_tup {xs : List V} {us : List Value} {t' : Nat} (I : Inv X pins σ H s) (r : Vals xs us) (hz : xs.length ≤ sizeLine) :
    Inv X pins σ (upd H s.heap.objs.size (.frz (tupO us) (.tup xs))) { s with heap := s.heap.push (tupO us), toks := t' } :=
  I.laid (fun b u e => Heap.get?_push_of_some _ e) (Nat.le_refl _) ⟨Heap.get?_push_size _ rfl, hz, us, r, IsTup.new _ _⟩
theorem rep_tup {p : Addr} {xs : List V} {us : List Value} {l : List D} (st : Sto P H ms F S) (hp : H p = none) (rl : RepL P ms F xs l) :
    ∃ F', Nx ms F ms F' ∧ Sto P (upd H p (.frz (tupO us) (.tup xs))) ms F' S ∧ Rep P ms F' (.ref p) (.tup l) := by
  obtain ⟨s1, nx⟩ := st.laid (o := .frz (tupO us) (.tup xs)) hp
  exact ⟨_, nx, s1, .tup upd_same rfl (rl.mono nx)⟩
/-- a new tuple is what is wanted -/
theorem ep_tup {xs : List V} {us : List Value} {t' : Nat} {l : List D} {fr : Bool} {Q : VK} (I : Inv X pins σ H s) (r : Vals xs us) (st : Sto P H ms F S) (rl : RepL P ms F xs l) (hz : l.length ≤ sizeLine)
    (h : Val P ms F fr Q (.tup l) S) : EP X pins σ Q (.ref s.heap.objs.size) { s with heap := s.heap.push (tupO us), toks := t' } := by
  have hn : H s.heap.objs.size = none := I.hok.fresh (Nat.le_refl _)
  obtain ⟨F', nx, s1, rp⟩ := rep_tup (us := us) st hn rl
  have h' : Ord P ms F Q (.tup l) S := by
    unfold Val at h
    split at h
    · next e => cases e
    · exact h
  exact ⟨.ref s.heap.objs.size, _, inv_tup I r (by rw [rl.length]; exact hz), rfl, h' _ _ _ _ nx s1 rp⟩
theorem sq_tup {a : Addr} {o : Obj} {xs : List V} (st : Sto P H ms F S) (e : F a = some (.frz o (.tup xs))) : SqT P.K H a xs := .inl (.inr ⟨o, st.sub _ _ e⟩)
section
variable {es : List Expr} {pos : Pos} {fs : Env → Store → R (List D)} {W : WX}
theorem s_tup {x1} (h : PA X es (tA P W fs)) : PE X (.Tuple es x1 pos) (tE P W false (rowF fs fun l S => if okLen l.length then .ok (.tup l) S else .bad)) := by
  refine ⟨fun pins s σ H Q I hq => ?_⟩
  have hq := t_row hq
  refine wpAny_Tuple_spliced (thn (h.run pos pins s σ H _ I hq) fun us s1 ⟨xs, H1, I1, r, ms, F, S, l, st, rl, q⟩ => ?_)
  dsimp only at q
  by_cases hz : okLen l.length = true
  · rw [if_pos hz] at q
    exact ⟨by rw [← r.length, rl.length]; exact okLen_le hz, ep_tup (fr := false) I1 r st rl (okLen_le hz) q⟩
  · rw [if_neg hz] at q
    exact q.elim
end

/-! ### operators -/
theorem o_add : OpR X (binaryOp .Add) (rv2 P true Op2.add.app) := by
  intro pins s σ H x y v u Q I rx ry h
  obtain ⟨ms, F, S, dx, dy, Ex, st, hx, hy, h⟩ := h
  cases hx with
  | int i =>
    cases hy with
    | int j => exact op_add pins s σ H _ _ v u Q I rx ry ⟨i, j, rfl, rfl, h _ _ _ _ (Nx.refl _ _) st (.int _)⟩
    | _ => exact h.elim
  | str i =>
    cases hy with
    | str j =>
      have h : Post P ms F true Q Ex (if okLen (i.length + j.length) then .ok (.str (i ++ j)) S else .bad) := h
      by_cases hz : okLen (i.length + j.length) = true
      · rw [if_pos hz] at h
        exact op_add_str pins s σ H _ _ v u Q I rx ry ⟨i, j, rfl, rfl, okLen_le hz, h _ _ _ _ (Nx.refl _ _) st (.str _)⟩
      · rw [if_neg hz] at h
        exact h.elim
    | _ => exact h.elim
  | @lst a xs l e1 r1 =>
    cases hy with
    | @lst b zs m e2 r2 =>
      have h : Post P ms F true Q Ex (if okLen (l.length + m.length) then .ok (.lst (l ++ m)) S else .bad) := h
      by_cases hz : okLen (l.length + m.length) = true
      · rw [if_pos hz] at h
        refine op_cat pins s σ H _ _ v u Q I rx ry ⟨a, b, xs, zs, rfl, rfl, st.sub _ _ e1, st.sub _ _ e2, by rw [r1.length, r2.length]; exact okLen_le hz, fun p hp => ?_⟩
        obtain ⟨s1, f⟩ := st.fresh hp (r1.append r2)
        exact h p _ _ _ (Nx.refl _ _) s1 f
      · rw [if_neg hz] at h
        exact h.elim
    | _ => exact h.elim
  | @tup a o xs l e1 d1 r1 =>
    cases hy with
    | @tup b o2 zs m e2 d2 r2 =>
      have h : Post P ms F true Q Ex (if okLen (l.length + m.length) then .ok (.tup (l ++ m)) S else .bad) := h
      by_cases hz : okLen (l.length + m.length) = true
      · rw [if_pos hz] at h
        cases rx
        cases ry
        obtain ⟨its, v1, p1, _⟩ := I.tuple (X := X) (a := a) (xs := xs) (.inl (.inr ⟨o, st.sub _ _ e1⟩))
        obtain ⟨its2, v2, p2, _⟩ := I.tuple (X := X) (a := b) (xs := zs) (.inl (.inr ⟨o2, st.sub _ _ e2⟩))
        by_cases h0 : its = []
        · subst h0
          cases v1
          cases r1
          exact cat_tup0 p1 p2 ⟨.ref b, H, I, rfl, h _ _ _ _ (Nx.refl _ _) st (.tup e2 d2 r2)⟩
        · have hlen : its.length + its2.length ≤ sizeLine := by
            rw [← v1.length, ← v2.length, r1.length, r2.length]
            exact okLen_le hz
          refine HT.cat_tup p1 p2 h0 (fun z => ?_) (fun z => ?_) hlen
          · subst z
            cases v2
            cases r2
            rw [List.append_nil] at h
            exact ⟨.ref a, H, I, rfl, h _ _ _ _ (Nx.refl _ _) st (.tup e1 d1 r1)⟩
          · exact ep_tup (fr := true) (t' := s.toks) I (v1.append v2) st (r1.append r2) (by rw [List.length_append]; exact okLen_le hz) h
      · rw [if_neg hz] at h
        exact h.elim
    | _ => exact h.elim
  | _ => cases hy <;> exact h.elim
theorem o_sub : OpR X (binaryOp .Sub) (rv2 P true Op2.sub.app) := by
  intro pins s σ H x y v u Q I rx ry h
  obtain ⟨ms, F, S, dx, dy, Ex, st, hx, hy, h⟩ := h
  cases hx with
  | int i =>
    cases hy with
    | int j => exact op_sub pins s σ H _ _ v u Q I rx ry ⟨i, j, rfl, rfl, h _ _ _ _ (Nx.refl _ _) st (.int _)⟩
    | _ => exact h.elim
  | _ => cases hy <;> exact h.elim
theorem mul_okS {z : Str} {j : Int} (h1 : 0 ≤ j) (h2 : j ≤ 1000) (h3 : z.length ≤ 1000) : MulOk z j := by
  refine ⟨by rw [Bool.or_eq_false_iff, decide_eq_false_iff_not, decide_eq_false_iff_not]; constructor <;> omega, fun h4 _ h5 => ?_, fun h4 _ => ?_⟩
  · have e : ((z.length : Nat) : Int) * j ≤ 2 ^ 63 - 1 := by
      have := Int.mul_le_mul (show ((z.length : Nat) : Int) ≤ 1000 by omega) h2 h1 (by decide)
      exact Int.le_trans this (by decide)
    have := (Int.le_ediv_iff_mul_le (show 0 < j by omega)).mpr e
    omega
  · have e : z.length * j.toNat ≤ 1000 * 1000 := Nat.mul_le_mul h3 (by omega)
    unfold Builtin.Str.tooLong
    refine decide_eq_false fun q => ?_
    have : (1000 * 1000 : Nat) < 16000000 := by decide
    rw [sizeLine_eq] at q
    omega
theorem o_mul : OpR X (binaryOp .Mult) (rv2 P true Op2.mul.app) := by
  intro pins s σ H x y v u Q I rx ry h
  obtain ⟨ms, F, S, dx, dy, Ex, st, hx, hy, h⟩ := h
  cases hx with
  | int i =>
    cases hy with
    | int j =>
      have h : Post P ms F true Q Ex (if (decide (-(2 ^ 64) < i ∧ i < 2 ^ 64) || decide (-(2 ^ 64) < j ∧ j < 2 ^ 64)) = true then .ok (.int (i * j)) S else .bad) := h
      by_cases hz : (decide (-(2 ^ 64) < i ∧ i < 2 ^ 64) || decide (-(2 ^ 64) < j ∧ j < 2 ^ 64)) = true
      · rw [if_pos hz] at h
        refine op_mul pins s σ H _ _ v u Q I rx ry ⟨i, j, rfl, rfl, ?_, h _ _ _ _ (Nx.refl _ _) st (.int _)⟩
        rcases Bool.or_eq_true _ _ |>.mp hz with z | z
        · exact .inl (of_decide_eq_true z)
        · exact .inr (of_decide_eq_true z)
      · rw [if_neg hz] at h
        exact h.elim
    | _ => exact h.elim
  | str z =>
    cases hy with
    | int j =>
      have h : Post P ms F true Q Ex (if 0 ≤ j ∧ j ≤ 1000 ∧ z.length ≤ 1000 then .ok (.str (Txt.mul z j)) S else .bad) := h
      by_cases hz : 0 ≤ j ∧ j ≤ 1000 ∧ z.length ≤ 1000
      · rw [if_pos hz] at h
        obtain ⟨t, rfl⟩ := rx
        obtain ⟨t', rfl⟩ := ry
        have h2 : Ord P ms F Q (.str (Txt.mul z j)) S := h
        refine SB.mul (mul_okS hz.1 hz.2.1 hz.2.2) fun t2 k => ⟨.str _, H, I.tok _, ⟨_, rfl⟩, h2 _ _ _ _ (Nx.refl _ _) st (.str _)⟩
      · rw [if_neg hz] at h
        exact h.elim
    | _ => exact h.elim
  | _ => cases hy <;> exact h.elim
theorem o_mod : OpR X (binaryOp .Mod) (rv2 P true Op2.mod.app) := by
  intro pins s σ H x y v u Q I rx ry h
  obtain ⟨ms, F, S, dx, dy, Ex, st, hx, hy, h⟩ := h
  cases hx with
  | int i =>
    cases hy with
    | int j =>
      have h : Post P ms F true Q Ex (if j = 0 then .bad else .ok (.int (i.fmod j)) S) := h
      by_cases hz : j = 0
      · rw [if_pos hz] at h
        exact h.elim
      · rw [if_neg hz] at h
        exact op_modN pins s σ H _ _ v u Q I rx ry ⟨i, j, rfl, rfl, hz, h _ _ _ _ (Nx.refl _ _) st (.int _)⟩
    | _ => exact h.elim
  | _ => cases hy <;> exact h.elim
theorem o_pow : OpR X (binaryOp .Pow) (rv2 P true Op2.pow.app) := by
  intro pins s σ H x y v u Q I rx ry h
  obtain ⟨ms, F, S, dx, dy, Ex, st, hx, hy, h⟩ := h
  cases hx with
  | int i =>
    cases hy with
    | int j =>
      have h : Post P ms F true Q Ex (if 0 ≤ j ∧ j ≤ 1000000 ∧ i.natAbs < 2 ^ 64 then .ok (.int (i ^ j.toNat)) S else .bad) := h
      by_cases hz : 0 ≤ j ∧ j ≤ 1000000 ∧ i.natAbs < 2 ^ 64
      · rw [if_pos hz] at h
        exact op_pow pins s σ H _ _ v u Q I rx ry ⟨i, j, rfl, rfl, hz, h _ _ _ _ (Nx.refl _ _) st (.int _)⟩
      · rw [if_neg hz] at h
        exact h.elim
    | _ => exact h.elim
  | _ => cases hy <;> exact h.elim
end SV
/-! SvD2: dicts by values. -/
namespace SV
open PySem PySem.Spec PyProof.Rows L2
variable {X : Cx} {pins : List (Addr × Obj)} {σ : L2.St} {H : Hp} {s : Shared} {P : Pg} {ms : List Addr} {F : Hp} {S : Store}

/-! ### keys -/
mutual
theorem nkD_inj : ∀ {a b : D}, a.isKey = true → b.isKey = true → nkD a = nkD b → a = b
  | .int i, b, _, h, e => by cases b <;> first | (cases h; done) | (simp [nkD] at e; done) | skip
                             simp only [nkD, NestedKey.num.injEq] at e; rw [e]
  | .str i, b, _, h, e => by cases b <;> first | (cases h; done) | (simp [nkD] at e; done) | skip
                             simp only [nkD, NestedKey.text.injEq] at e; rw [e]
  | .tup l, b, k, h, e => by
    cases b with
    | tup m =>
      simp only [nkD, NestedKey.tup.injEq] at e
      unfold D.isKey at k h
      rw [nkDs_inj k h e]
    | int _ => simp [nkD] at e
    | str _ => simp [nkD] at e
    | _ => cases h
  | .non, _, k, _, _ => by cases k
  | .bl _, _, k, _, _ => by cases k
  | .lst _, _, k, _, _ => by cases k
  | .scr _, _, k, _, _ => by cases k
  | .loc _, _, k, _, _ => by cases k
  | .fn _, _, k, _, _ => by cases k
  | .dctv _ _, _, k, _, _ => by cases k
  | .exn _, _, k, _, _ => by cases k
theorem nkDs_inj : ∀ {a b : List D}, D.isKeys a = true → D.isKeys b = true → nkDs a = nkDs b → a = b
  | [], [], _, _, _ => rfl
  | [], _ :: _, _, _, e => by simp [nkDs] at e
  | _ :: _, [], _, _, e => by simp [nkDs] at e
  | x :: a, y :: b, k, h, e => by
    unfold D.isKeys at k h
    rw [Bool.and_eq_true] at k h
    simp only [nkDs, List.cons.injEq] at e
    rw [nkD_inj k.1 h.1 e.1, nkDs_inj k.2 h.2 e.2]
end
mutual
theorem nk_depth : ∀ d : D, (nkD d).depth ≤ d.py.depth
  | .int i => Nat.zero_le _
  | .str i => Nat.zero_le _
  | .tup l => by
    have := nks_depth l
    simp only [nkD, NestedKey.depth, D.py, PyData.depth]
    omega
  | .non => Nat.zero_le _
  | .bl _ => Nat.zero_le _
  | .lst _ => Nat.zero_le _
  | .scr _ => Nat.zero_le _
  | .loc _ => Nat.zero_le _
  | .fn _ => Nat.zero_le _
  | .dctv _ _ => Nat.zero_le _
  | .exn _ => Nat.zero_le _
theorem nks_depth : ∀ l : List D, NestedKey.depthAll (nkDs l) ≤ PyData.depthAll (D.pys l)
  | [] => Nat.zero_le _
  | d :: l => by
    have h1 := nk_depth d
    have h2 := nks_depth l
    simp only [nkDs, NestedKey.depthAll, D.pys, PyData.depthAll]
    omega
end
mutual
/-- such a value is this key -/
theorem rep_nested (I : Inv X pins σ H s) (st : Same F H) : ∀ {d : D} {v : V} {u : Value}, d.isKey = true → Rep P ms F v d → RelV v u → NestedIs s.heap (nkD d) u
  | .int i, _, _, _, r, ru => by
    cases r
    obtain ⟨t, rfl⟩ := (show ∃ t, _ = Value.int i t from ru)
    exact .int _ _
  | .str i, _, _, _, r, ru => by
    cases r
    obtain ⟨t, rfl⟩ := (show ∃ t, _ = Value.str i t from ru)
    exact .text _ _
  | .tup l, _, _, k, r, ru => by
    cases r with
    | @tup a o xs _ h1 h2 h3 =>
      cases (show _ = Value.ref a from ru)
      obtain ⟨q1, _, its, rv, o2, q2, q3, n, q4⟩ := I.hok a _ (st _ _ h1)
      rw [q1] at q2
      cases q2
      exact .tup q1 q3 q4 (by simpa using reps_nested I st (by unfold D.isKey at k; exact k) h3 rv)
  | .non, _, _, k, _, _ => by cases k
  | .bl _, _, _, k, _, _ => by cases k
  | .lst _, _, _, k, _, _ => by cases k
  | .scr _, _, _, k, _, _ => by cases k
  | .loc _, _, _, k, _, _ => by cases k
  | .fn _, _, _, k, _, _ => by cases k
  | .dctv _ _, _, _, k, _, _ => by cases k
  | .exn _, _, _, k, _, _ => by cases k
theorem reps_nested (I : Inv X pins σ H s) (st : Same F H) : ∀ {l : List D} {vs : List V} {us : List Value}, D.isKeys l = true → RepL P ms F vs l → Vals vs us → NestedAll s.heap (nkDs l) us
  | [], _, _, _, r, ru => by
    cases r
    cases ru
    exact .nil
  | d :: l, _, _, k, r, ru => by
    unfold D.isKeys at k
    rw [Bool.and_eq_true] at k
    cases r with
    | cons h t =>
      cases ru with
      | cons h2 t2 => exact .cons (rep_nested I st k.1 h h2) (reps_nested I st k.2 t t2)
end
theorem okKey_ok {k : D} (h : okKeyD k = true) : k.isKey = true ∧ k.py.depth ≤ 8 := by
  unfold okKeyD at h
  rw [Bool.and_eq_true] at h
  exact ⟨h.1, of_decide_eq_true h.2⟩
theorem okIn_ok {l : List (D × D)} {k : D} (h : okIn l k = true) : k.isKey = true ∧ k.py.depth ≤ 8 ∧ ∀ p ∈ l, isTup p.1 = isTup k := by
  unfold okIn at h
  rw [Bool.and_eq_true, List.all_eq_true] at h
  obtain ⟨h1, h2⟩ := okKey_ok h.1
  exact ⟨h1, h2, fun p hp => by simpa using h.2 p hp⟩
/-- a plain key -/
theorem plainKey {k : D} (h : k.isKey = true) (h2 : isTup k = false) : ∃ q : Key, k = kD q := by
  cases k <;> first | (cases h; done) | (cases h2; done) | skip
  · exact ⟨.inl _, rfl⟩
  · exact ⟨.inr _, rfl⟩
theorem kD_inj2 {a b : Key} (h : kD a = kD b) : a = b := by
  cases a <;> cases b <;> simp [kD] at h <;> rw [h]
theorem kD_tup (q : Key) : isTup (kD q) = false := by cases q <;> rfl
theorem kD_key (q : Key) : (kD q).isKey = true := by cases q <;> rfl
theorem rep_kV {v : V} {q : Key} (r : Rep P ms F v (kD q)) : v = kV q := by
  cases q <;> cases r <;> rfl
theorem tupKey {v : V} {k : D} (h : isTup k = true) (r : Rep P ms F v k) : ∃ a, v = .ref a := by
  cases r with
  | tup => exact ⟨_, rfl⟩
  | _ => cases h

/-! ### plain keys -/
open Classical in
theorem dGet_cons {p : D × D} {l : List (D × D)} {k : D} : dGet (p :: l) k = if p.1 = k then some p.2 else dGet l k := by
  classical
  unfold dGet
  rw [List.find?_cons]
  by_cases h : p.1 = k
  · rw [decide_eq_true h, if_pos h]
    rfl
  · rw [decide_eq_false h, if_neg h]
theorem dGet_nil {k : D} : dGet [] k = none := rfl
theorem pk_val {kvs : List (Key × V)} {l : List (D × D)} (h : Paired (PK P ms F) kvs l) (q : Key) : (∃ v d, valV kvs q = some v ∧ dGet l (kD q) = some d ∧ Rep P ms F v d) ∨ (valV kvs q = none ∧ dGet l (kD q) = none) := by
  induction h with
  | nil => exact .inr ⟨rfl, rfl⟩
  | @cons a b as bs h t ih =>
    obtain ⟨h1, h2⟩ := h
    rw [dGet_cons, h1]
    by_cases e : a.1 = q
    · rw [valV_pos e, if_pos (by rw [e])]
      exact .inl ⟨_, _, rfl, rfl, h2⟩
    · rw [valV_neg e, if_neg fun z => e (kD_inj2 z)]
      exact ih
theorem any_get (l : List (D × D)) (k : D) : (open Classical in l.any fun p => decide (p.1 = k)) = (dGet l k).isSome := by
  classical
  induction l with
  | nil => rfl
  | cons p l ih =>
    rw [List.any_cons, dGet_cons]
    by_cases e : p.1 = k
    · simp [e]
    · rw [if_neg e, ← ih]
      simp [e]
theorem dPut_new {l : List (D × D)} {k v : D} (h : dGet l k = none) : dPut l k v = l ++ [(k, v)] := by
  classical
  unfold dPut
  rw [any_get, h]
  rfl
theorem dPut_old {l : List (D × D)} {k v : D} (h : (dGet l k).isSome = true) : dPut l k v = (open Classical in l.map (fun p => if p.1 = k then (p.1, v) else p)) := by
  classical
  unfold dPut
  rw [any_get, h]
  rfl
theorem dPut_len {l : List (D × D)} {k v : D} : (dPut l k v).length ≤ l.length + 1 := by
  classical
  cases q : dGet l k with
  | none => rw [dPut_new q]; simp
  | some x => rw [dPut_old (by rw [q]; rfl)]; simp
theorem pk_put {kvs : List (Key × V)} {l : List (D × D)} (h : Paired (PK P ms F) kvs l) (q : Key) {v : V} {d : D} (r : Rep P ms F v d) : Paired (PK P ms F) (putK kvs q v) (dPut l (kD q) d) := by
  classical
  rcases pk_val h q with ⟨v0, d0, e1, e2, _⟩ | ⟨e1, e2⟩
  · rw [dPut_old (by rw [e2]; rfl)]
    unfold putK
    rw [valV_any, e1, if_pos (show (some v0).isSome = true from rfl)]
    · have key : ∀ {as : List (Key × V)} {bs : List (D × D)}, Paired (PK P ms F) as bs → Paired (PK P ms F) (as.map fun kv => if kv.1 = q then (kv.1, v) else kv) (bs.map fun p => if p.1 = kD q then (p.1, d) else p) := fun h => by
        induction h with
        | nil => exact .nil
        | @cons a b as bs h t ih =>
          rw [List.map_cons, List.map_cons]
          refine .cons ?_ ih
          by_cases e : a.1 = q
          · rw [if_pos e, if_pos (by rw [h.1, e])]
            exact ⟨h.1, r⟩
          · rw [if_neg e, if_neg fun z => e (kD_inj2 (h.1.symm.trans z))]
            exact h
      exact key h
  · rw [dPut_new e2, putK_new v e1]
    exact Paired.snoc h ⟨rfl, r⟩

/-! ### keys that are tuples -/
/-- a dict of the model against the data -/
def PV (P : Pg) (ms : List Addr) (F : Hp) (q : NestedKey × Addr × Value) (p : D × D) : Prop := q.1 = nkD p.1 ∧ p.1.isKey = true ∧ ∃ v, RelV v q.2.2 ∧ Rep P ms F v p.2
theorem pv_val {xs : List (NestedKey × Addr × Value)} {l : List (D × D)} (h : Paired (PV P ms F) xs l) {k : D} (hk : k.isKey = true) : (∃ q v d, atKey xs (nkD k) = some q ∧ dGet l k = some d ∧ RelV v q.2 ∧ Rep P ms F v d) ∨ (atKey xs (nkD k) = none ∧ dGet l k = none) := by
  induction h with
  | nil => exact .inr ⟨rfl, rfl⟩
  | @cons a b as bs h t ih =>
    obtain ⟨h1, h2, v, h3, h4⟩ := h
    rw [dGet_cons]
    have e0 : atKey (a :: as) (nkD k) = if a.1 = nkD k then some a.2 else atKey as (nkD k) := by
      unfold atKey
      rw [List.find?_cons]
      by_cases e : a.1 = nkD k
      · rw [decide_eq_true e, if_pos e]
        rfl
      · rw [decide_eq_false e, if_neg e]
    rw [e0]
    by_cases e : b.1 = k
    · rw [if_pos (by rw [h1, e]), if_pos e]
      exact .inl ⟨_, _, _, rfl, rfl, h3, h4⟩
    · rw [if_neg fun z => e (nkD_inj h2 hk (h1.symm.trans z)), if_neg e]
      exact ih
theorem pn_pv {kvs : List (NestedKey × Addr × V)} {l : List (D × D)} (h : Paired (PN P ms F) kvs l) : ∀ {xs : List (NestedKey × Addr × Value)}, Paired (fun p q => p.1 = q.1 ∧ p.2.1 = q.2.1 ∧ RelV p.2.2 q.2.2) kvs xs → Paired (PV P ms F) xs l := by
  induction h with
  | nil => intro xs q; cases q; exact .nil
  | cons h t ih =>
    intro xs q
    cases q with
    | cons q1 q2 => exact .cons ⟨q1.1.symm.trans h.2.1.symm, h.2.2.1, _, q1.2.2, h.2.2.2.2⟩ (ih q2)
theorem pn_is (I : Inv X pins σ H s) (st : Same F H) {kvs : List (NestedKey × Addr × V)} {l : List (D × D)} (h : Paired (PN P ms F) kvs l) : ∀ {xs : List (NestedKey × Addr × Value)}, Paired (fun p q => p.1 = q.1 ∧ p.2.1 = q.2.1 ∧ RelV p.2.2 q.2.2) kvs xs → ∀ x ∈ xs, (nestedKind X.prog X.w).is s.heap x.1 x.2.1 := by
  induction h with
  | nil => intro xs q; cases q; exact fun x hx => nomatch hx
  | @cons a b as bs h t ih =>
    intro xs q
    cases q with
    | cons q1 q2 =>
      intro x hx
      rcases List.mem_cons.mp hx with e | hx
      · subst e
        rw [← q1.1, ← q1.2.1, ← h.2.1]
        exact ⟨rep_nested I st h.2.2.1 h.1 rfl, Nat.le_trans (nk_depth _) h.2.2.2.1⟩
      · exact ih q2 x hx
/-- the dict, as the library reads it -/
theorem dn_of (hp : P.prog = X.prog) (hw : P.w = X.w) (I : Inv X pins σ H s) (st : Same F H) {a : Addr} {kvs : List (NestedKey × Addr × V)} {l : List (D × D)} (e : H a = some (.ext (DN P.prog P.w a kvs))) (h : Paired (PN P ms F) kvs l) :
    ∃ xs, Paired (fun p q => p.1 = q.1 ∧ p.2.1 = q.2.1 ∧ RelV p.2.2 q.2.2) kvs xs ∧ s.heap.DictOfH (nestedKind X.prog X.w) a xs ∧ Paired (PV P ms F) xs l := by
  obtain ⟨⟨xs, r, o, es, ep, h1, h2, h3, h4, h5⟩, _, _⟩ := I.hok a _ e
  rw [hp, hw] at h4
  exact ⟨xs, r, ⟨o, es, ep, h1, h2, h3, h4, pn_is I st h r, h5⟩, pn_pv h r⟩
def putN (kvs : List (NestedKey × Addr × V)) (k : NestedKey) (b : Addr) (v : V) : List (NestedKey × Addr × V) :=
  if (kvs.any fun x => decide (x.1 = k)) = true then kvs.map (fun x => if x.1 = k then (x.1, x.2.1, v) else x) else kvs ++ [(k, b, v)]
theorem any_atKey {kvs : List (NestedKey × Addr × V)} {xs : List (NestedKey × Addr × Value)} (h : Paired (fun p q => p.1 = q.1 ∧ p.2.1 = q.2.1 ∧ RelV p.2.2 q.2.2) kvs xs) (k : NestedKey) : (kvs.any fun x => decide (x.1 = k)) = (atKey xs k).isSome := by
  induction h with
  | nil => rfl
  | @cons a b as bs h t ih =>
    rw [List.any_cons]
    have e0 : atKey (b :: bs) k = if b.1 = k then some b.2 else atKey bs k := by
      unfold atKey
      rw [List.find?_cons]
      by_cases e : b.1 = k
      · rw [decide_eq_true e, if_pos e]
        rfl
      · rw [decide_eq_false e, if_neg e]
    rw [e0, h.1]
    by_cases e : b.1 = k
    · rw [decide_eq_true e, if_pos e]
      rfl
    · rw [decide_eq_false e, if_neg e, Bool.false_or]
      exact ih
theorem putN_rel {kvs : List (NestedKey × Addr × V)} {xs : List (NestedKey × Addr × Value)} (h : Paired (fun p q => p.1 = q.1 ∧ p.2.1 = q.2.1 ∧ RelV p.2.2 q.2.2) kvs xs) (k : NestedKey) (b : Addr) {v : V} {u : Value} (r : RelV v u) :
    Paired (fun p q => p.1 = q.1 ∧ p.2.1 = q.2.1 ∧ RelV p.2.2 q.2.2) (putN kvs k b v) (storedH xs k b u) := by
  have key : ∀ {kvs : List (NestedKey × Addr × V)} {xs : List (NestedKey × Addr × Value)}, Paired (fun p q => p.1 = q.1 ∧ p.2.1 = q.2.1 ∧ RelV p.2.2 q.2.2) kvs xs → Paired (fun p q => p.1 = q.1 ∧ p.2.1 = q.2.1 ∧ RelV p.2.2 q.2.2) (kvs.map fun x => if x.1 = k then (x.1, x.2.1, v) else x) (xs.map (putAt k u)) := fun h => by
    induction h with
    | nil => exact .nil
    | @cons a c as bs h t ih =>
      rw [List.map_cons, List.map_cons]
      refine .cons ?_ ih
      unfold putAt
      rw [h.1]
      by_cases e : c.1 = k
      · rw [if_pos e, if_pos e]
        exact ⟨rfl, h.2.1, r⟩
      · rw [if_neg e, if_neg e]
        exact h
  unfold putN storedH
  rw [any_atKey h]
  split
  · exact key h
  · exact Paired.snoc h ⟨rfl, rfl, r⟩
theorem putN_pn {kvs : List (NestedKey × Addr × V)} {l : List (D × D)} (h : Paired (PN P ms F) kvs l) {k d : D} {b : Addr} {v : V} (hk : k.isKey = true) (hd : k.py.depth ≤ 8) (rk : Rep P ms F (.ref b) k) (r : Rep P ms F v d) : Paired (PN P ms F) (putN kvs (nkD k) b v) (dPut l k d) := by
  classical
  have ea : (kvs.any fun x => decide (x.1 = nkD k)) = (dGet l k).isSome := by
    induction h with
    | nil => rfl
    | @cons a c as bs h t ih =>
      rw [List.any_cons, dGet_cons]
      by_cases e : c.1 = k
      · rw [if_pos e, ← h.2.1, e]
        simp
      · rw [if_neg e, decide_eq_false fun z => e (nkD_inj h.2.2.1 hk (h.2.1.trans z)), Bool.false_or]
        exact ih
  have key : ∀ {kvs : List (NestedKey × Addr × V)} {l : List (D × D)}, Paired (PN P ms F) kvs l → Paired (PN P ms F) (kvs.map fun x => if x.1 = nkD k then (x.1, x.2.1, v) else x) (l.map fun p => if p.1 = k then (p.1, d) else p) := fun h => by
    induction h with
    | nil => exact .nil
    | @cons a c as bs h t ih =>
      rw [List.map_cons, List.map_cons]
      refine .cons ?_ ih
      by_cases e : c.1 = k
      · rw [if_pos e, if_pos (by rw [← h.2.1, e])]
        exact ⟨h.1, h.2.1, h.2.2.1, h.2.2.2.1, r⟩
      · rw [if_neg e, if_neg fun z => e (nkD_inj h.2.2.1 hk (h.2.1.trans z))]
        exact h
  unfold putN
  rw [ea]
  cases q : dGet l k with
  | none =>
    rw [dPut_new q]
    exact Paired.snoc h ⟨rk, rfl, hk, hd, r⟩
  | some x =>
    rw [dPut_old (by rw [q]; rfl)]
    show Paired _ (if true = true then _ else _) _
    rw [if_pos rfl]
    exact key h

/-! ### by values -/
/-- what a dict cell tells of a key -/
theorem dct_get {n : Nat} {a : Addr} {l : List (D × D)} {k : D} {y : V} {u : Value} (hp : P.prog = X.prog) (hw : P.w = X.w) (I : Inv X pins σ H s) (st : Sto P H ms F S) (ha : ms[n]? = some a) (hc : S[n]? = some (.dct l)) (ok : okIn l k = true) (ry : Rep P ms F y k) (ru : RelV y u) :
    (∃ q kvs o, k = kD q ∧ y = kV q ∧ H a = some (.dK kvs) ∧ DGet H a y o ∧ ((∃ v d, o = some v ∧ dGet l k = some d ∧ Rep P ms F v d) ∨ (o = none ∧ dGet l k = none))) ∨
    (∃ b xs, y = .ref b ∧ u = .ref b ∧ isTup k = true ∧ (a == sysModules) = false ∧ (nestedKind X.prog X.w).is s.heap (nkD k) b ∧ s.heap.DictOfH (nestedKind X.prog X.w) a xs ∧ Paired (PV P ms F) xs l ∧
      ((H a = some (.dK []) ∧ l = [] ∧ xs = []) ∨ ∃ kvs, H a = some (.ext (DN P.prog P.w a kvs)) ∧ Paired (fun p q => p.1 = q.1 ∧ p.2.1 = q.2.1 ∧ RelV p.2.2 q.2.2) kvs xs ∧ Paired (PN P ms F) kvs l)) := by
  obtain ⟨hk, hd, hall⟩ := okIn_ok ok
  obtain ⟨hF, hl, ⟨kvs, h1, h2⟩ | ⟨hs, kvs, h1, h2⟩⟩ := st.cell n a _ ha hc
  · by_cases ht : isTup k = true
    · -- an empty dict of plain keys
      have hn : kvs = [] := by
        cases h2 with
        | nil => rfl
        | @cons x p xs ps h t =>
          have := hall p List.mem_cons_self
          rw [h.1, kD_tup, ht] at this
          cases this
      subst hn
      cases h2
      obtain ⟨b, rfl⟩ := tupKey ht ry
      cases (show u = Value.ref b from ru)
      obtain ⟨z, hd2, vs, rel, dd⟩ := dk_of I.hok h1
      cases rel
      obtain ⟨o, es, ep, g1, g2, g3, g4, g5⟩ := dd
      have ge : es.toList = [] := by
        generalize es.toList = z at g5
        have g6 := g5.1
        cases z with
        | nil => rfl
        | cons x z => first | (cases g6; done) | exact g6.elim
      exact .inr ⟨b, [], rfl, rfl, ht, hd2, ⟨rep_nested I st.sub hk ry rfl, Nat.le_trans (nk_depth _) hd⟩, ⟨o, es, ep, g1, g2, g3, ge, (fun x hx => by cases hx), List.nodup_nil⟩, .nil, .inl ⟨h1, rfl, rfl⟩⟩
    · obtain ⟨q, rfl⟩ := plainKey hk (by simpa using ht)
      have e := rep_kV ry
      subst e
      refine .inl ⟨q, kvs, valV kvs q, rfl, rfl, h1, DGet.k h1, ?_⟩
      rcases pk_val h2 q with ⟨v, d, e1, e2, e3⟩ | ⟨e1, e2⟩
      · exact .inl ⟨v, d, e1, e2, e3⟩
      · exact .inr ⟨e1, e2⟩
  · obtain ⟨xs, r1, r2, r3⟩ := dn_of hp hw I st.sub h1 h2
    by_cases ht : isTup k = true
    · obtain ⟨b, rfl⟩ := tupKey ht ry
      cases (show u = Value.ref b from ru)
      exact .inr ⟨b, xs, rfl, rfl, ht, hs.1, ⟨rep_nested I st.sub hk ry rfl, Nat.le_trans (nk_depth _) hd⟩, r2, r3, .inr ⟨kvs, h1, r1, h2⟩⟩
    · -- no pair at all
      cases h2 with
      | nil => exact absurd rfl hs.2
      | @cons x p xs ps h t =>
        have e1 := hall p List.mem_cons_self
        have e2 : isTup p.1 = true := by
          have := h.1
          have h3 := h.2.2.1
          generalize p.1 = z at this h3 ⊢
          cases this with
          | tup => rfl
          | _ => cases h3
        rw [e2] at e1
        exact absurd e1.symm ht

section
variable {A : Around} {E : Value → Shared → Prop} {n : Nat} {a : Addr} {l : List (D × D)} {k d : D} {y v : V} {u r : Value}
theorem room_nk {A : Around} {X : Cx} (hu : A.units + 64 < cLine) : (nestedKind X.prog X.w).room A.in1 := by
  show A.in1.units + 8 < cLine
  have : A.in1.units = A.units + 1 := rfl
  omega
/-- d[k] -/
theorem dc_get {Q : Value → Shared → Prop} (hu : A.units + 64 < cLine) (hp : P.prog = X.prog) (hw : P.w = X.w) (I : Inv X pins σ H s) (st : Sto P H ms F S) (ha : ms[n]? = some a) (hc : S[n]? = some (.dct l)) (ok : okIn l k = true) (ry : Rep P ms F y k) (ru : RelV y u) (hg : dGet l k = some d)
    (h : ∀ v w' s', Inv X pins σ H s' → RelV v w' → Rep P ms F v d → Q w' s') : s.TypeIs (.ref a) "dict" ∧ wpAny (model X.prog X.w) A (getItem (.ref a) u) Q E s := by
  rcases dct_get hp hw I st ha hc ok ry ru with ⟨q, kvs, o, rfl, rfl, h1, g, z⟩ | ⟨b, xs, rfl, rfl, ht, hs, hi, hd, hv, hz⟩
  · rcases z with ⟨v, d', rfl, e2, e3⟩ | ⟨_, e2⟩
    · rw [hg] at e2
      cases e2
      exact ⟨dict_typeIs I g, d_getItem (by omega) I g ru fun w' s' I' r' => h v w' s' I' r' e3⟩
    · rw [hg] at e2
      cases e2
  · have hk := (okIn_ok ok).1
    rcases pv_val hv hk with ⟨q, v, d', e1, e2, e3, e4⟩ | ⟨_, e2⟩
    · rw [hg] at e2
      cases e2
      exact ⟨hd.typeIs, wpAny_getItem_heap (room_nk hu) hi hd e1 (h v _ _ (I.tok _) e3 e4)⟩
    · rw [hg] at e2
      cases e2
/-- k in d -/
theorem dc_in {Q : Value → Shared → Prop} (hu : A.units + 64 < cLine) (hp : P.prog = X.prog) (hw : P.w = X.w) (I : Inv X pins σ H s) (st : Sto P H ms F S) (ha : ms[n]? = some a) (hc : S[n]? = some (.dct l)) (ok : okIn l k = true) (ry : Rep P ms F y k) (ru : RelV y u)
    (h : ∀ s', Inv X pins σ H s' → Q (.bool (dGet l k).isSome) s') : wpAny (model X.prog X.w) A (compareOp .In u (.ref a)) Q E s := by
  rcases dct_get hp hw I st ha hc ok ry ru with ⟨q, kvs, o, rfl, rfl, h1, g, z⟩ | ⟨b, xs, rfl, rfl, ht, hs, hi, hd, hv, hz⟩
  · refine d_in (by omega) I g ru fun s' I' => ?_
    have e : o.isSome = (dGet l (kD q)).isSome := by
      rcases z with ⟨v, d', rfl, e2, e3⟩ | ⟨rfl, e2⟩ <;> rw [e2] <;> rfl
    rw [e]
    exact h s' I'
  · refine wpAny_in_heap (room_nk hu) hi hs hd ?_
    have e : (atKey xs (nkD k)).isSome = (dGet l k).isSome := by
      rcases pv_val hv (okIn_ok ok).1 with ⟨q, v, d', e1, e2, _⟩ | ⟨e1, e2⟩ <;> rw [e1, e2] <;> rfl
    rw [e]
    exact h _ (I.tok _)
theorem dc_notin {Q : Value → Shared → Prop} (hu : A.units + 64 < cLine) (hp : P.prog = X.prog) (hw : P.w = X.w) (I : Inv X pins σ H s) (st : Sto P H ms F S) (ha : ms[n]? = some a) (hc : S[n]? = some (.dct l)) (ok : okIn l k = true) (ry : Rep P ms F y k) (ru : RelV y u)
    (h : ∀ s', Inv X pins σ H s' → Q (.bool (!(dGet l k).isSome)) s') : wpAny (model X.prog X.w) A (compareOp .NotIn u (.ref a)) Q E s := by
  rcases dct_get hp hw I st ha hc ok ry ru with ⟨q, kvs, o, rfl, rfl, h1, g, z⟩ | ⟨b, xs, rfl, rfl, ht, hs, hi, hd, hv, hz⟩
  · refine d_notIn (by omega) I g ru fun s' I' => ?_
    have e : o.isSome = (dGet l (kD q)).isSome := by
      rcases z with ⟨v, d', rfl, e2, e3⟩ | ⟨rfl, e2⟩ <;> rw [e2] <;> rfl
    rw [e]
    exact h s' I'
  · refine wpAny_notIn_heap (room_nk hu) hi hs hd ?_
    have e : (atKey xs (nkD k)).isSome = (dGet l k).isSome := by
      rcases pv_val hv (okIn_ok ok).1 with ⟨q, v, d', e1, e2, _⟩ | ⟨e1, e2⟩ <;> rw [e1, e2] <;> rfl
    rw [e]
    exact h _ (I.tok _)
/-- d.get(k) -/
theorem dc_get1 {Q : Value → Shared → Prop} (hu : A.units + 64 < cLine) (hp : P.prog = X.prog) (hw : P.w = X.w) (I : Inv X pins σ H s) (st : Sto P H ms F S) (ha : ms[n]? = some a) (hc : S[n]? = some (.dct l)) (ok : okIn l k = true) (ry : Rep P ms F y k) (ru : RelV y u)
    (h : ∀ v w' s', Inv X pins σ H s' → RelV v w' → Rep P ms F v ((dGet l k).getD .non) → Q w' s') : wpAny (model X.prog X.w) A (call (.builtin "dict.get") [.ref a, u]) Q E s := by
  rcases dct_get hp hw I st ha hc ok ry ru with ⟨q, kvs, o, rfl, rfl, h1, g, z⟩ | ⟨b, xs, rfl, rfl, ht, hs, hi, hd, hv, hz⟩
  · refine d_get1 (by omega) I g ru fun w' s' I' r' => ?_
    rcases z with ⟨v, d', rfl, e2, e3⟩ | ⟨rfl, e2⟩
    · exact h v w' s' I' r' (by rw [e2]; exact e3)
    · exact h .non w' s' I' r' (by rw [e2]; exact .non)
  · refine call_meetsIn PySem.F.slot_dict_get hd.typeIs PySem.F.entry_dict_get (PySem.F.args_dict_get_2 _ _) (meetsH_dict_get (nestedKind X.prog X.w) a b hs) ⟨room_nk hu, _, xs, hi, hd, ?_⟩
    rcases pv_val hv (okIn_ok ok).1 with ⟨q, v, d', e1, e2, e3, e4⟩ | ⟨e1, e2⟩
    · rw [e1]
      exact h v _ _ (I.tok _) e3 (by rw [e2]; exact e4)
    · rw [e1]
      exact h .non _ _ (I.tok _) rfl (by rw [e2]; exact .non)
/-- d[k] = v -/
theorem dc_put {Q : Unit → Shared → Prop} (hu : A.units + 64 < cLine) (hp : P.prog = X.prog) (hw : P.w = X.w) (I : Inv X pins σ H s) (st : Sto P H ms F S) (ha : ms[n]? = some a) (hc : S[n]? = some (.dct l)) (ok : okIn l k = true) (hzl : l.length < 16000000) (ry : Rep P ms F y k) (ru : RelV y u) (rv : Rep P ms F v d) (rr : RelV v r)
    (h : ∀ H' s', Inv X pins σ H' s' → Sto P H' ms F (S.set n (.dct (dPut l k d))) → Q () s') : wpAny (model X.prog X.w) A (setItem (.ref a) u r) Q E s := by
  have big : (16000000 : Nat) ≤ sizeLine := by decide
  have cell := st.cell n a _ ha hc
  have hF := cell.1
  have hl' : (dPut l k d).length ≤ 16000000 := by
    have := dPut_len (l := l) (k := k) (v := d)
    omega
  obtain ⟨hk, hdp, hall⟩ := okIn_ok ok
  rcases dct_get hp hw I st ha hc ok ry ru with ⟨q, kvs, o, rfl, rfl, h1, g, z⟩ | ⟨b, xs, rfl, rfl, ht, hs, hi, hd, hv, hz⟩
  · obtain ⟨_, hl, ⟨kvs2, h2, h3⟩ | ⟨_, kvs2, h2, h3⟩⟩ := cell
    · rw [h1] at h2
      cases h2
      have len : kvs.length = l.length := Paired.length h3
      refine d_setItem (by omega) I (DPut.k h1 (by omega)) ru rr fun s' I' => h _ s' I' (st.writeC ha hc (fun z => nomatch z) hF ⟨hF, hl', .inl ⟨_, upd_same, pk_put h3 q rv⟩⟩)
    · rw [h1] at h2
      cases h2
  · have big2 : xs.length ≤ sizeLine := by
      have := Paired.length hv
      omega
    refine wpAny_setItem_heap (hsz := big2) (room_nk hu) hi hd fun h' dd' hsb => ?_
    obtain ⟨o, es, ep, g1, g2, g3, g4, _, g5⟩ := dd'
    -- what is there to be told of the new dict
    have fin : ∀ kvs : List (NestedKey × Addr × V), Mut (H a) → Paired (fun p q => p.1 = q.1 ∧ p.2.1 = q.2.1 ∧ RelV p.2.2 q.2.2) kvs xs → Paired (PN P ms F) kvs l → Q () { s with heap := h', toks := s.toks + (nestedKind X.prog X.w).draws (nkD k) } := fun kvs mu r1 r2 => by
      have rel := putN_rel r1 (nkD k) b rr
      have rel2 := putN_pn r2 hk hdp ry rv
      refine h (upd H a (.ext (DN P.prog P.w a (putN kvs (nkD k) b v)))) _ (d_write I mu hsb ⟨o, g1⟩ ?_) (st.writeC ha hc (fun z => nomatch z) hF ⟨hF, hl', .inr ⟨⟨hs, ?_⟩, _, upd_same, rel2⟩⟩)
      · refine ⟨⟨_, rel, o, es, ep, g1, g2, g3, by rw [hp, hw]; exact g4, g5⟩, ⟨o, g1⟩, fun k1 k2 ⟨xs', r', o', es', ep', e1, e2⟩ ke => ⟨xs', r', o', es', ep', ke _ e1, e2⟩⟩
      · intro z
        have := dPut_new (l := l) (k := k) (v := d)
        cases q : dGet l k with
        | none =>
          rw [this q] at z
          simp at z
        | some x =>
          rw [dPut_old (by rw [q]; rfl)] at z
          have : l = [] := by simpa using z
          subst this
          cases q
    rcases hz with ⟨h2, rfl, rfl⟩ | ⟨kvs, h2, r1, r2⟩
    · exact fin [] (by rw [h2]; exact True.intro) .nil .nil
    · exact fin kvs (by rw [h2]; exact True.intro) r1 r2
/-! ### a dict that stays -/
theorem prs_pk : ∀ {kvs : List (Key × V)} {vs : List D}, RepL P ms F (kvs.map (·.2)) vs → Paired (PK P ms F) kvs (prs (kvs.map (·.1)) vs)
  | [], _, .nil => .nil
  | kv :: kvs, _, .cons h t => .cons ⟨rfl, h⟩ (prs_pk t)
theorem dv_in {o : Obj} {kvs : List (Key × V)} {vs : List D} (I : Inv X pins σ H s) (st : Sto P H ms F S) (e : F a = some (.frz o (.dK kvs))) (r : RepL P ms F (kvs.map (·.2)) vs) (ok : okIn (prs (kvs.map (·.1)) vs) k = true) (ht : isTup k = false) (ry : Rep P ms F y k) :
    ∃ o', DGet H a y o' ∧ ((∃ v d, o' = some v ∧ dGet (prs (kvs.map (·.1)) vs) k = some d ∧ Rep P ms F v d) ∨ (o' = none ∧ dGet (prs (kvs.map (·.1)) vs) k = none)) := by
  obtain ⟨hk, hd, hall⟩ := okIn_ok ok
  obtain ⟨q, rfl⟩ := plainKey hk ht
  have ey := rep_kV ry
  subst ey
  refine ⟨valV kvs q, .inl ⟨kvs, q, .inr ⟨o, st.sub _ _ e⟩, rfl, rfl⟩, ?_⟩
  rcases pk_val (prs_pk r) q with ⟨v, d, e1, e2, e3⟩ | ⟨e1, e2⟩
  · exact .inl ⟨v, d, e1, e2, e3⟩
  · exact .inr ⟨e1, e2⟩
end
end SV
/-! SvE: comparisons, subscripts, slices, built-ins by values. -/
namespace SV
open PySem PySem.Spec PyProof.Rows L2
variable {X : Cx} {pins : List (Addr × Obj)} {σ : L2.St} {H : Hp} {s : Shared} {P : Pg} {ms : List Addr} {F : Hp} {S : Store}
theorem dp_ints {K : PySem.W.Frag} {H : Hp} : ∀ l : List Int, DpAll K H (l.map V.int) (l.map PyData.int)
  | [] => .nil
  | i :: l => .cons (.int i) (dp_ints l)
theorem pys_map : ∀ l : List D, D.pys l = l.map D.py
  | [] => rfl
  | d :: l => by rw [D.pys, pys_map l]; rfl
theorem pures_all : ∀ l : List D, D.pures l = l.all D.pure
  | [] => rfl
  | d :: l => by rw [D.pures, pures_all l]; rfl
mutual
theorem plain_py : ∀ d : D, d.py.plain = true
  | .non => rfl
  | .bl _ => rfl
  | .int _ => rfl
  | .str _ => rfl
  | .tup l => by rw [D.py, PyData.plain]; exact plain_pys l
  | .lst l => by rw [D.py, PyData.plain]; exact plain_pys l
  | .scr l => by rw [D.py, PyData.plain]; exact plain_ints l
  | .loc _ => rfl
  | .fn _ => rfl
  | .dctv _ _ => rfl
  | .exn _ => rfl
theorem plain_pys : ∀ l : List D, PyData.plainAll (D.pys l) = true
  | [] => rfl
  | d :: l => by rw [D.pys, PyData.plainAll, plain_py d, plain_pys l]; rfl
theorem plain_ints : ∀ l : List Int, PyData.plainAll (l.map PyData.int) = true
  | [] => rfl
  | d :: l => by rw [List.map_cons, PyData.plainAll, plain_ints l]; rfl
end
theorem rd_dp {v : V} {d : D} (st : Sto P H ms F S) (r : Rep P ms F v d) (p : (d.rd S).pure = true) : Dp P.K H v (d.rd S).py := by
  cases r with
  | @loc a n e =>
    cases q : S[n]? with
    | none =>
      simp only [D.rd, q] at p
      simp [D.pure] at p
    | some c =>
      cases c with
      | lst l =>
        simp only [D.rd, q] at p ⊢
        obtain ⟨_, xs, h1, h2⟩ := st.cell n a _ e q
        simp only [D.pure] at p
        rw [D.py]
        exact .lst (.inl (.inl h1)) (h2.dp st.sub p)
      | _ =>
        simp only [D.rd, q] at p
        simp [D.pure] at p
  | @scr a l h =>
    simp only [D.rd, D.py, pys_map, List.map_map]
    exact .lst (st.sub.seq h) (dp_ints l)
  | _ => exact Rep.dp (ms := ms) st.sub p (by constructor <;> assumption)
/-- what is read as a sequence -/
theorem items_sq {v : V} {d : D} {l : List D} (st : Sto P H ms F S) (r : Rep P ms F v d) (e : d.items S = some l) :
    ∃ a xs, v = .ref a ∧ (SqL P.K H a xs ∨ SqT P.K H a xs) ∧ RepL P ms F xs l := by
  cases r with
  | tup h1 h2 h3 =>
    cases e
    exact ⟨_, _, rfl, .inr (sq_tup st h1), h3⟩
  | lst h1 h3 =>
    cases e
    exact ⟨_, _, rfl, .inl (.inl (.inl (st.sub _ _ h1))), h3⟩
  | scr h1 =>
    cases e
    exact ⟨_, _, rfl, .inl (st.sub.seq h1), RepL.ints⟩
  | @loc a n h =>
    cases q : S[n]? with
    | none =>
      simp only [D.items, q] at e
      cases e
    | some c =>
      cases c with
      | lst m =>
        simp only [D.items, q] at e
        cases e
        obtain ⟨_, xs, h1, h2⟩ := st.cell n a _ h q
        exact ⟨a, xs, rfl, .inl (.inl (.inl h1)), h2⟩
      | _ =>
        simp only [D.items, q] at e
        cases e
  | _ => cases e

/-! ### == and the others -/
theorem min_dep {a b u : Nat} (ha : a ≤ 30) (hu : u + 64 < cLine) : u + 1 + min a b < cLine := by omega
theorem o_eq (hK : P.K = X.K) (hu : X.A.units + 64 < cLine) : OpR X (compareOp .Eq) (rv2 P false (cmA .eq)) := by
  intro pins s σ H x y v u Q I rx ry h
  obtain ⟨ms, F, S, dx, dy, Ex, st, hx, hy, h⟩ := h
  have h : Post P ms F false Q Ex (match eqD dx dy S with | some c => .ok (.bl c) S | none => .bad) := h
  unfold eqD at h
  dsimp only at h
  by_cases c : ((dx.rd S).pure && (dy.rd S).pure && decide ((PyData.depth (dx.rd S).py) ≤ 30) && decide ((PyData.depth (dy.rd S).py) ≤ 30)) = true
  · rw [if_pos c] at h
    simp only [Bool.and_eq_true, decide_eq_true_eq] at c
    obtain ⟨⟨⟨c1, c2⟩, c3⟩, c4⟩ := c
    obtain ⟨as, r1⟩ := Dp.reads I _ x v (hK ▸ rd_dp st hx c1) rx
    obtain ⟨bs, r2⟩ := Dp.reads I _ y u (hK ▸ rd_dp st hy c2) ry
    exact SeqAt.eq_plain r1 r2 (plain_py _) (plain_py _) (by omega) ⟨.bl _, H, I, rfl, h _ _ _ _ (Nx.refl _ _) st (.bl _)⟩
  · rw [if_neg c] at h
    exact h.elim
theorem o_ne (hK : P.K = X.K) (hu : X.A.units + 64 < cLine) : OpR X (compareOp .NotEq) (rv2 P false (cmA .ne)) := by
  intro pins s σ H x y v u Q I rx ry h
  obtain ⟨ms, F, S, dx, dy, Ex, st, hx, hy, h⟩ := h
  have h : Post P ms F false Q Ex (match (eqD dx dy S).map (!·) with | some c => .ok (.bl c) S | none => .bad) := h
  unfold eqD at h
  dsimp only at h
  by_cases c : ((dx.rd S).pure && (dy.rd S).pure && decide ((PyData.depth (dx.rd S).py) ≤ 30) && decide ((PyData.depth (dy.rd S).py) ≤ 30)) = true
  · rw [if_pos c] at h
    simp only [Bool.and_eq_true, decide_eq_true_eq] at c
    obtain ⟨⟨⟨c1, c2⟩, c3⟩, c4⟩ := c
    obtain ⟨as, r1⟩ := Dp.reads I _ x v (hK ▸ rd_dp st hx c1) rx
    obtain ⟨bs, r2⟩ := Dp.reads I _ y u (hK ▸ rd_dp st hy c2) ry
    exact SeqAt.ne_plain r1 r2 (plain_py _) (plain_py _) (by omega) ⟨.bl _, H, I, rfl, h _ _ _ _ (Nx.refl _ _) st (.bl _)⟩
  · rw [if_neg c] at h
    exact h.elim
/-- what an order asks -/
theorem ltD_some {x y : D} {b : Bool} (h : ltD x y = some b) : x.pure = true ∧ y.pure = true ∧ PySem.W.alike x.py y.py = true ∧ PyData.depth x.py ≤ 30 ∧ x.py ≠ .none ∧ b = PySem.W.dataLt x.py y.py := by
  unfold ltD at h
  by_cases c : (x.pure && y.pure && PySem.W.alike x.py y.py && decide ((PyData.depth x.py) ≤ 30) && !isNon x) = true
  · rw [if_pos c] at h
    simp only [Bool.and_eq_true, decide_eq_true_eq] at c
    obtain ⟨⟨⟨⟨c1, c2⟩, c3⟩, c4⟩, c5⟩ := c
    refine ⟨c1, c2, c3, c4, fun e => ?_, (Option.some.inj h).symm⟩
    cases x <;> simp_all [D.py, D.pure, isNon]
  · rw [if_neg c] at h
    cases h
theorem o_lt (hK : P.K = X.K) (hu : X.A.units + 64 < cLine) : OpR X (compareOp .Lt) (rv2 P false (cmA .lt)) := by
  intro pins s σ H x y v u Q I rx ry h
  obtain ⟨ms, F, S, dx, dy, Ex, st, hx, hy, h⟩ := h
  have gen : Post P ms F false Q Ex (match ltD dx dy with | some c => .ok (.bl c) S | none => .bad) → wpAny (model X.prog X.w) X.A (compareOp .Lt v u) (EP X pins σ Q) X.xe s := fun h => by
    cases c : ltD dx dy with
    | none =>
      rw [c] at h
      exact h.elim
    | some b =>
      rw [c] at h
      obtain ⟨c1, c2, c3, c4, c5, rfl⟩ := ltD_some c
      obtain ⟨as, r1⟩ := Dp.reads I _ x v (hK ▸ Rep.dp st.sub c1 hx) rx
      obtain ⟨bs, r2⟩ := Dp.reads I _ y u (hK ▸ Rep.dp st.sub c2 hy) ry
      exact PySem.W.lt_data r1 r2 c3 c5 (by omega) ⟨.bl _, H, I, rfl, h _ _ _ _ (Nx.refl _ _) st (.bl _)⟩
  cases dx with
  | int i =>
    cases dy with
    | int j =>
      cases hx
      cases hy
      exact op_lt pins s σ H _ _ v u Q I rx ry ⟨i, j, rfl, rfl, h _ _ _ _ (Nx.refl _ _) st (.bl _)⟩
    | _ => exact gen h
  | _ => exact gen h
theorem o_gt (hK : P.K = X.K) (hu : X.A.units + 64 < cLine) : OpR X (compareOp .Gt) (rv2 P false (cmA .gt)) := by
  intro pins s σ H x y v u Q I rx ry h
  obtain ⟨ms, F, S, dx, dy, Ex, st, hx, hy, h⟩ := h
  have gen : Post P ms F false Q Ex (match ltD dy dx with | some c => .ok (.bl c) S | none => .bad) → wpAny (model X.prog X.w) X.A (compareOp .Gt v u) (EP X pins σ Q) X.xe s := fun h => by
    cases c : ltD dy dx with
    | none =>
      rw [c] at h
      exact h.elim
    | some b =>
      rw [c] at h
      obtain ⟨c1, c2, c3, c4, c5, rfl⟩ := ltD_some c
      obtain ⟨as, r1⟩ := Dp.reads I _ x v (hK ▸ Rep.dp st.sub c2 hx) rx
      obtain ⟨bs, r2⟩ := Dp.reads I _ y u (hK ▸ Rep.dp st.sub c1 hy) ry
      exact PySem.W.gt_data r1 r2 (by rw [PySem.W.alike_comm]; exact c3) (PySem.W.ne_none_both c3 c5) (by omega) ⟨.bl _, H, I, rfl, h _ _ _ _ (Nx.refl _ _) st (.bl _)⟩
  cases dx with
  | int i =>
    cases dy with
    | int j =>
      cases hx
      cases hy
      exact op_gt pins s σ H _ _ v u Q I rx ry ⟨i, j, rfl, rfl, h _ _ _ _ (Nx.refl _ _) st (.bl _)⟩
    | _ => exact gen h
  | _ => exact gen h
theorem o_le (hK : P.K = X.K) (hu : X.A.units + 64 < cLine) : OpR X (compareOp .LtE) (rv2 P false (cmA .le)) := by
  intro pins s σ H x y v u Q I rx ry h
  obtain ⟨ms, F, S, dx, dy, Ex, st, hx, hy, h⟩ := h
  have gen : Post P ms F false Q Ex (match (ltD dy dx).map (!·) with | some c => .ok (.bl c) S | none => .bad) → wpAny (model X.prog X.w) X.A (compareOp .LtE v u) (EP X pins σ Q) X.xe s := fun h => by
    cases c : ltD dy dx with
    | none =>
      rw [c] at h
      exact h.elim
    | some b =>
      rw [c] at h
      obtain ⟨c1, c2, c3, c4, c5, rfl⟩ := ltD_some c
      obtain ⟨as, r1⟩ := Dp.reads I _ x v (hK ▸ Rep.dp st.sub c2 hx) rx
      obtain ⟨bs, r2⟩ := Dp.reads I _ y u (hK ▸ Rep.dp st.sub c1 hy) ry
      exact PySem.W.le_data r1 r2 (by rw [PySem.W.alike_comm]; exact c3) (PySem.W.ne_none_both c3 c5) (by omega) ⟨.bl _, H, I, rfl, h _ _ _ _ (Nx.refl _ _) st (.bl _)⟩
  cases dx with
  | int i =>
    cases dy with
    | int j =>
      cases hx
      cases hy
      exact op_le pins s σ H _ _ v u Q I rx ry ⟨i, j, rfl, rfl, h _ _ _ _ (Nx.refl _ _) st (.bl _)⟩
    | _ => exact gen h
  | _ => exact gen h
theorem o_ge (hK : P.K = X.K) (hu : X.A.units + 64 < cLine) : OpR X (compareOp .GtE) (rv2 P false (cmA .ge)) := by
  intro pins s σ H x y v u Q I rx ry h
  obtain ⟨ms, F, S, dx, dy, Ex, st, hx, hy, h⟩ := h
  have gen : Post P ms F false Q Ex (match (ltD dx dy).map (!·) with | some c => .ok (.bl c) S | none => .bad) → wpAny (model X.prog X.w) X.A (compareOp .GtE v u) (EP X pins σ Q) X.xe s := fun h => by
    cases c : ltD dx dy with
    | none =>
      rw [c] at h
      exact h.elim
    | some b =>
      rw [c] at h
      obtain ⟨c1, c2, c3, c4, c5, rfl⟩ := ltD_some c
      obtain ⟨as, r1⟩ := Dp.reads I _ x v (hK ▸ Rep.dp st.sub c1 hx) rx
      obtain ⟨bs, r2⟩ := Dp.reads I _ y u (hK ▸ Rep.dp st.sub c2 hy) ry
      exact PySem.W.ge_data r1 r2 c3 c5 (by omega) ⟨.bl _, H, I, rfl, h _ _ _ _ (Nx.refl _ _) st (.bl _)⟩
  cases dx with
  | int i =>
    cases dy with
    | int j =>
      cases hx
      cases hy
      exact op_ge pins s σ H _ _ v u Q I rx ry ⟨i, j, rfl, rfl, h _ _ _ _ (Nx.refl _ _) st (.bl _)⟩
    | _ => exact gen h
  | _ => exact gen h
theorem non_v {v : V} {d : D} (r : Rep P ms F v d) : isNon d = decide (v = .non) := by
  cases r <;> first | rfl | exact (decide_eq_false (fun z => nomatch z)).symm
theorem o_is : OpR X (compareOp .Is) (rv2 P false (cmA .is)) := by
  intro pins s σ H x y v u Q I rx ry h
  obtain ⟨ms, F, S, dx, dy, Ex, st, hx, hy, h⟩ := h
  cases hy with
  | non =>
    refine op_isN pins s σ H _ _ v u Q I rx ry ⟨rfl, ?_⟩
    rw [← non_v hx]
    cases hx <;> exact h _ _ _ _ (Nx.refl _ _) st (.bl _)
  | _ => cases hx <;> exact h.elim
theorem o_isnot : OpR X (compareOp .IsNot) (rv2 P false (cmA .isnot)) := by
  intro pins s σ H x y v u Q I rx ry h
  obtain ⟨ms, F, S, dx, dy, Ex, st, hx, hy, h⟩ := h
  cases hy with
  | non =>
    refine op_notN pins s σ H _ _ v u Q I rx ry ⟨rfl, ?_⟩
    rw [← non_v hx]
    cases hx <;> exact h _ _ _ _ (Nx.refl _ _) st (.bl _)
  | _ => cases hx <;> exact h.elim
/-- a sequence as data -/
theorem items_dp {v : V} {d : D} {l : List D} (st : Sto P H ms F S) (r : Rep P ms F v d) (e : d.items S = some l) (p : D.pures l = true) :
    Dp P.K H v (.list (D.pys l)) ∨ Dp P.K H v (.tuple (D.pys l)) := by
  obtain ⟨a, xs, rfl, h | h, r⟩ := items_sq st r e
  · exact .inl (.lst h (r.dp st.sub p))
  · exact .inr (.tup h (r.dp st.sub p))
theorem inD_some {x y : D} {S : Store} {l : List D} {b : Bool} (e : y.items S = some l) (h : inD x y S = some b) :
    x.pure = true ∧ D.pures l = true ∧ PyData.depth x.py ≤ 30 ∧ PyData.depthAll (D.pys l) ≤ 30 ∧ b = (D.pys l).any fun d => PyData.eqv d x.py := by
  unfold inD at h
  rw [e] at h
  dsimp only at h
  by_cases c : (x.pure && D.pures l && decide ((PyData.depth x.py) ≤ 30) && decide (PyData.depthAll (D.pys l) ≤ 30)) = true
  · rw [if_pos c] at h
    simp only [Bool.and_eq_true, decide_eq_true_eq] at c
    obtain ⟨⟨⟨c1, c2⟩, c3⟩, c4⟩ := c
    exact ⟨c1, c2, c3, c4, (Option.some.inj h).symm⟩
  · rw [if_neg c] at h
    cases h
theorem hasD_ok {l : List (D × D)} {k : D} {b : Bool} (h : hasD l k = some b) : okIn l k = true ∧ b = (dGet l k).isSome := by
  unfold hasD at h
  by_cases c : okIn l k = true
  · rw [if_pos c] at h
    exact ⟨c, (Option.some.inj h).symm⟩
  · rw [if_neg c] at h
    cases h
theorem inD_str {x y : D} {S : Store} {b : Bool} (e : y.items S = none) (h : inD x y S = some b) : (∃ i j, x = .str i ∧ y = .str j ∧ b = !(Builtin.Str.occurrences j i 0 j.length 1).isEmpty) ∨ (∃ n l, y = .loc n ∧ S[n]? = some (.dct l) ∧ okIn l x = true ∧ b = (dGet l x).isSome) ∨
    ∃ ks vs, y = .dctv ks vs ∧ isTup x = false ∧ okIn (prs ks vs) x = true ∧ b = (dGet (prs ks vs) x).isSome := by
  unfold inD at h
  rw [e] at h
  have key : ∀ n, y = .loc n → (match S[n]? with | some (.dct l) => hasD l x | _ => none) = some b → ∃ n l, y = .loc n ∧ S[n]? = some (.dct l) ∧ okIn l x = true ∧ b = (dGet l x).isSome := fun n e h => by
    cases q : S[n]? with
    | none =>
      rw [q] at h
      cases h
    | some c =>
      cases c with
      | dct l =>
        rw [q] at h
        obtain ⟨h1, h2⟩ := hasD_ok h
        exact ⟨n, l, e, q, h1, h2⟩
      | _ =>
        rw [q] at h
        cases h
  cases y with
  | loc n => cases x <;> exact .inr (.inl (key n rfl h))
  | dctv ks vs =>
    have h : (if isTup x = true then none else hasD (prs ks vs) x) = some b := by cases x <;> exact h
    by_cases ht : isTup x = true
    · rw [if_pos ht] at h
      cases h
    · rw [if_neg ht] at h
      obtain ⟨h1, h2⟩ := hasD_ok h
      exact .inr (.inr ⟨_, _, rfl, by simpa using ht, h1, h2⟩)
  | str j =>
    cases x with
    | str i => exact .inl ⟨_, _, rfl, rfl, (Option.some.inj h).symm⟩
    | _ => cases h
  | _ => cases x <;> cases h
theorem o_in (hp : P.prog = X.prog) (hw : P.w = X.w) (hK : P.K = X.K) (hu : X.A.units + 64 < cLine) : OpR X (compareOp .In) (rv2 P false (cmA .isin)) := by
  intro pins s σ H x y v u Q I rx ry h
  obtain ⟨ms, F, S, dx, dy, Ex, st, hx, hy, h⟩ := h
  have h : Post P ms F false Q Ex (match inD dx dy S with | some c => .ok (.bl c) S | none => .bad) := by
    cases dx <;> exact h
  cases c : inD dx dy S with
  | none =>
    rw [c] at h
    exact h.elim
  | some b =>
    rw [c] at h
    cases q : dy.items S with
    | some l =>
      obtain ⟨c1, c2, c3, c4, rfl⟩ := inD_some q c
      obtain ⟨as, r1⟩ := Dp.reads I _ x v (hK ▸ Rep.dp st.sub c1 hx) rx
      rcases items_dp st hy q c2 with g | g
      · obtain ⟨bs, r2⟩ := Dp.reads I _ y u (hK ▸ g) ry
        exact SeqAt.in_list_data r2 r1 (plain_pys _) (plain_py _) (min_dep c4 hu) ⟨.bl _, H, I, rfl, h _ _ _ _ (Nx.refl _ _) st (.bl _)⟩
      · obtain ⟨bs, r2⟩ := Dp.reads I _ y u (hK ▸ g) ry
        exact SeqAt.in_tuple_data r2 r1 (plain_pys _) (plain_py _) (min_dep c4 hu) ⟨.bl _, H, I, rfl, h _ _ _ _ (Nx.refl _ _) st (.bl _)⟩
    | none =>
      rcases inD_str q c with ⟨i, j, rfl, rfl, rfl⟩ | ⟨n, l, rfl, hc, ok, rfl⟩ | ⟨ks, vs, rfl, ht, ok, rfl⟩
      rotate_left 2
      · cases hy with
        | @dctv a o kvs _ _ e1 e2 e3 =>
          subst e2
          cases (show u = Value.ref a from ry)
          obtain ⟨o', g, z⟩ := dv_in I st e1 e3 ok ht hx
          refine d_in (by omega) I g rx fun s' I' => ⟨.bl _, H, I', rfl, ?_⟩
          have e : o'.isSome = (dGet (prs (kvs.map (·.1)) vs) dx).isSome := by
            rcases z with ⟨v, d', rfl, e2, e3⟩ | ⟨rfl, e2⟩ <;> rw [e2] <;> rfl
          rw [e]
          exact h _ _ _ _ (Nx.refl _ _) st (.bl _)
      · cases hx
        cases hy
        exact op_in_str pins s σ H _ _ v u Q I rx ry ⟨i, j, rfl, rfl, h _ _ _ _ (Nx.refl _ _) st (.bl _)⟩
      · cases hy with
        | @loc a n ha =>
          cases (show u = Value.ref a from ry)
          exact dc_in hu hp hw I st ha hc ok hx rx fun s' I' => ⟨.bl _, H, I', rfl, h _ _ _ _ (Nx.refl _ _) st (.bl _)⟩
theorem o_notin (hp : P.prog = X.prog) (hw : P.w = X.w) (hK : P.K = X.K) (hu : X.A.units + 64 < cLine) : OpR X (compareOp .NotIn) (rv2 P false (cmA .notin)) := by
  intro pins s σ H x y v u Q I rx ry h
  obtain ⟨ms, F, S, dx, dy, Ex, st, hx, hy, h⟩ := h
  have h : Post P ms F false Q Ex (match (inD dx dy S).map (!·) with | some c => .ok (.bl c) S | none => .bad) := by
    cases dx <;> exact h
  cases c : inD dx dy S with
  | none =>
    rw [c] at h
    exact h.elim
  | some b =>
    rw [c] at h
    cases q : dy.items S with
    | some l =>
      obtain ⟨c1, c2, c3, c4, rfl⟩ := inD_some q c
      obtain ⟨as, r1⟩ := Dp.reads I _ x v (hK ▸ Rep.dp st.sub c1 hx) rx
      rcases items_dp st hy q c2 with g | g
      · obtain ⟨bs, r2⟩ := Dp.reads I _ y u (hK ▸ g) ry
        exact SeqAt.notIn_list_data r2 r1 (plain_pys _) (plain_py _) (min_dep c4 hu) ⟨.bl _, H, I, rfl, h _ _ _ _ (Nx.refl _ _) st (.bl _)⟩
      · obtain ⟨bs, r2⟩ := Dp.reads I _ y u (hK ▸ g) ry
        exact SeqAt.notIn_tuple_data r2 r1 (plain_pys _) (plain_py _) (min_dep c4 hu) ⟨.bl _, H, I, rfl, h _ _ _ _ (Nx.refl _ _) st (.bl _)⟩
    | none =>
      rcases inD_str q c with ⟨i, j, rfl, rfl, rfl⟩ | ⟨n, l, rfl, hc, ok, rfl⟩ | ⟨ks, vs, rfl, ht, ok, rfl⟩
      rotate_left 2
      · cases hy with
        | @dctv a o kvs _ _ e1 e2 e3 =>
          subst e2
          cases (show u = Value.ref a from ry)
          obtain ⟨o', g, z⟩ := dv_in I st e1 e3 ok ht hx
          refine d_notIn (by omega) I g rx fun s' I' => ⟨.bl _, H, I', rfl, ?_⟩
          have e : o'.isSome = (dGet (prs (kvs.map (·.1)) vs) dx).isSome := by
            rcases z with ⟨v, d', rfl, e2, e3⟩ | ⟨rfl, e2⟩ <;> rw [e2] <;> rfl
          rw [e]
          exact h _ _ _ _ (Nx.refl _ _) st (.bl _)
      · cases hx
        cases hy
        exact op_notin_str pins s σ H _ _ v u Q I rx ry ⟨i, j, rfl, rfl, h _ _ _ _ (Nx.refl _ _) st (.bl _)⟩
      · cases hy with
        | @loc a n ha =>
          cases (show u = Value.ref a from ry)
          exact dc_notin hu hp hw I st ha hc ok hx rx fun s' I' => ⟨.bl _, H, I', rfl, h _ _ _ _ (Nx.refl _ _) st (.bl _)⟩

/-! ### a[b], a[b:c] -/
theorem atI_rep {α β : Type} {xs : List α} {l : List β} {i : Int} {d : β} {Rr : α → β → Prop} (hl : xs.length = l.length) (hg : ∀ (j : Nat) (d : β), l[j]? = some d → ∃ v, xs[j]? = some v ∧ Rr v d) (e : atI l i = some d) : ∃ v, atI xs i = some v ∧ Rr v d := by
  unfold atI at e ⊢
  rw [hl]
  cases q : ixN l.length i with
  | none =>
    rw [q] at e
    cases e
  | some j =>
    rw [q] at e
    exact hg j d e
theorem dct_tail {value slice : Expr} {v u : Value} {E : Value → Shared → Prop} {Q : Value → Shared → Prop} (hs : subscripted slice false v u = operate [v, u] (getItem v u)) (h : s.TypeIs v "dict" ∧ wpAny (model X.prog X.w) X.A (getItem v u) Q E s) : wpAny (model X.prog X.w) X.A (subscriptTail value slice v u) Q E s := by
  obtain ⟨hT, h₂⟩ := h
  unfold subscriptTail
  refine wpAny_bind ?_
  rw [getitemInPython_of_ne hT.not_modules]
  refine wpAny_bind (wpAny_specialOf hT PySem.F.slot_dict_getitem.lookup ?_)
  have fin : wpAny (model X.prog X.w) X.A (subscripted slice false v u) (fun r s₃ => wpAny (model X.prog X.w) X.A (letTemporaryGo value v r >>= fun _ => pure r) Q E s₃) E s := by
    rw [hs]
    exact wpAny_operating (wpAny_mono h₂ (fun r s₃ h₃ => wpAny_bind (wpAny_letTemporaryGo (wpAny_pure h₃))) fun _ _ x => x)
  first
    | exact wpAny_pure (wpAny_bind fin)
    | exact wpAny_bind (wpAny_pure (wpAny_bind fin))
    | exact wpAny_bind fin
theorem x_at (hp : P.prog = X.prog) (hw : P.w = X.w) (hu : X.A.units + 64 < cLine) (hK : P.K = X.K) : IxR X (rv2 P false atD) := by
  intro value slice pins s σ H x y v u Q I rx ry h hs
  obtain ⟨ms, F, S, dx, dy, Ex, st, hx, hy, h⟩ := h
  by_cases hdc : ∃ n l, dx = .loc n ∧ S[n]? = some (.dct l)
  · obtain ⟨n, l, rfl, hc⟩ := hdc
    cases hx with
    | @loc a n ha =>
      cases (show v = Value.ref a from rx)
      have h : Post P ms F false Q Ex (dctAt l dy S) := by
        have e : atD (.loc n) dy S = dctAt l dy S := by
          unfold atD
          simp only [hc]
        rwa [e] at h
      unfold dctAt at h
      by_cases ok : okIn l dy = true
      · rw [if_pos ok] at h
        cases q : dGet l dy with
        | none =>
          rw [q] at h
          exact h.elim
        | some d =>
          rw [q] at h
          exact dct_tail hs (dc_get hu hp hw I st ha hc ok hy ry q fun v' w' s' I' r' rd => ⟨v', H, I', r', h _ _ _ _ (Nx.refl _ _) st rd⟩)
      · rw [if_neg ok] at h
        exact h.elim
  by_cases hdv : ∃ ks vs, dx = .dctv ks vs
  · obtain ⟨ks, vs, rfl⟩ := hdv
    cases hx with
    | @dctv a o kvs _ _ e1 e2 e3 =>
      subst e2
      cases (show v = Value.ref a from rx)
      have h : Post P ms F false Q Ex (if isTup dy = true then .bad else dctAt (prs (kvs.map (·.1)) vs) dy S) := h
      by_cases ht : isTup dy = true
      · rw [if_pos ht] at h
        exact h.elim
      · rw [if_neg ht] at h
        unfold dctAt at h
        by_cases ok : okIn (prs (kvs.map (·.1)) vs) dy = true
        · rw [if_pos ok] at h
          obtain ⟨o', g, z⟩ := dv_in I st e1 e3 ok (by simpa using ht) hy
          rcases z with ⟨v', d', rfl, q, e4⟩ | ⟨rfl, q⟩
          · rw [q] at h
            exact dct_tail hs ⟨dict_typeIs I g, d_getItem (by omega) I g ry fun w' s' I' r' => ⟨v', H, I', r', h _ _ _ _ (Nx.refl _ _) st e4⟩⟩
          · rw [q] at h
            exact h.elim
        · rw [if_neg ok] at h
          exact h.elim
  have hat : atD dx dy S = seqAt dx dy S := by
    unfold atD
    cases dx with
    | loc n =>
      dsimp only
      cases q : S[n]? with
      | none => rfl
      | some c =>
        cases c with
        | dct l => exact absurd ⟨n, l, rfl, q⟩ hdc
        | _ => rfl
    | dctv ks vs => exact absurd ⟨ks, vs, rfl⟩ hdv
    | _ => rfl
  rw [hat] at h
  clear hat hdc hdv
  cases hy with
  | int i =>
    have gen : Post P ms F false Q Ex (match dx.items S with | some l => (match atI l i with | some d => .ok d S | none => .bad) | none => .bad) → wpAny (model X.prog X.w) X.A (subscriptTail value slice v u) (EP X pins σ Q) X.xe s := fun h => by
      cases q : dx.items S with
      | none =>
        rw [q] at h
        exact h.elim
      | some l =>
        rw [q] at h
        dsimp only at h
        cases q2 : atI l i with
        | none =>
          rw [q2] at h
          exact h.elim
        | some d =>
          rw [q2] at h
          obtain ⟨a, xs, rfl, sq, r⟩ := items_sq st hx q
          obtain ⟨w, hw, rw'⟩ := atI_rep (Rr := Rep P ms F) r.length (fun j d e => r.get e) q2
          rcases sq with sq | sq
          · exact ix_seq value slice pins s σ H _ _ v u Q I rx ry (.inl ⟨a, xs, i, w, rfl, rfl, hK ▸ sq, hw, h _ _ _ _ (Nx.refl _ _) st rw'⟩) hs
          · exact ix_seq value slice pins s σ H _ _ v u Q I rx ry (.inr (.inl ⟨a, xs, i, w, rfl, rfl, hK ▸ sq, hw, h _ _ _ _ (Nx.refl _ _) st rw'⟩)) hs
    cases dx with
    | str z =>
      cases hx
      have h : Post P ms F false Q Ex (if okLen z.length then (match atI z.cps.toList i with | some c => .ok (sign c) S | none => .bad) else .bad) := h
      by_cases hz : okLen z.length = true
      · rw [if_pos hz] at h
        cases q2 : atI z.cps.toList i with
        | none =>
          rw [q2] at h
          exact h.elim
        | some c =>
          rw [q2] at h
          exact ix_seq value slice pins s σ H _ _ v u Q I rx ry (.inr (.inr ⟨z, i, c, rfl, rfl, okLen_le hz, q2, h _ _ _ _ (Nx.refl _ _) st (.str _)⟩)) hs
      · rw [if_neg hz] at h
        exact h.elim
    | _ => exact gen h
  | _ => cases hx <;> exact h.elim
def notSl : Expr → Bool
  | .Slice .. => false
  | _ => true
theorem plainIx {b : Expr} (h : notSl b = true) : PlainIx b := by
  cases b <;> first | (intro o i; rfl) | cases h
section
variable {a b : Expr} {fa fb : Env → Store → R D} {W : WX} {pos : Pos}
theorem s_idx (hp : P.prog = X.prog) (hw : P.w = X.w) (hu : X.A.units + 64 < cLine) (hK : P.K = X.K) (ha : PE X a (tE P W false fa)) (hb : PE X b (tE P W false fb)) (hs : notSl b = true) : PE X (.Subscript a b pos) (tE P W false (bin2 fa fb atD)) :=
  (pe_ix (x_at hp hw hu hK) ha hb (plainIx hs)).imp fun _ _ _ h => t_bin h
end
theorem cut_rep {xs : List V} {l : List D} (r : RepL P ms F xs l) (lo hi : Option Int) : RepL P ms F (cutV xs lo hi) (cutL l lo hi) := by
  unfold cutV cutL
  rw [r.length]
  exact (r.drop _).take _
theorem cut_len {α : Type} (l : List α) (lo hi : Option Int) : (cutL l lo hi).length ≤ l.length := by
  unfold cutL
  rw [List.length_take, List.length_drop]
  omega
def rvS (P : Pg) : V → Option Int → Option Int → Hp → VK → Prop := fun x lo hi H Q => ∃ ms F S d Ex, Sto P H ms F S ∧ Rep P ms F x d ∧ Post P ms F true Q Ex (cutD d lo hi S)
theorem x_cut (hK : P.K = X.K) : SlR X (rvS P) := by
  intro pins s σ H x v vl vu lo hi sl Q I rx hs pl pu h
  obtain ⟨ms, F, S, d, Ex, st, hx, h⟩ := h
  cases hx with
  | str z =>
    have h : Post P ms F true Q Ex (if okLen z.length then .ok (.str ⟨(cutL z.cps.toList lo hi).toArray⟩) S else .bad) := h
    by_cases hz : okLen z.length = true
    · rw [if_pos hz] at h
      have e : cutS z lo hi = ⟨(cutL z.cps.toList lo hi).toArray⟩ := by
        unfold cutS cutL
        have : z.cps.toList.length = z.length := by simp [Str.length]
        rw [this]
      exact sl_str pins s σ H _ v vl vu lo hi sl Q I rx hs pl pu ⟨z, rfl, okLen_le hz, by rw [e]; exact h _ _ _ _ (Nx.refl _ _) st (.str _)⟩
    · rw [if_neg hz] at h
      exact h.elim
  | @lst a xs l e r =>
    refine sl_list pins s σ H _ v vl vu lo hi sl Q I rx hs pl pu ⟨a, xs, rfl, .inl (.inl (st.sub _ _ e)), fun p hp => ?_⟩
    obtain ⟨s1, f⟩ := st.fresh hp (cut_rep r lo hi)
    exact h p _ _ _ (Nx.refl _ _) s1 f
  | @loc a n e =>
    cases q : S[n]? with
    | none =>
      simp only [cutD, q] at h
      exact h.elim
    | some c =>
      cases c with
      | lst l =>
        simp only [cutD, q] at h
        obtain ⟨_, xs, h1, h2⟩ := st.cell n a _ e q
        refine sl_list pins s σ H _ v vl vu lo hi sl Q I rx hs pl pu ⟨a, xs, rfl, .inl (.inl h1), fun p hp => ?_⟩
        obtain ⟨s1, f⟩ := st.fresh hp (cut_rep h2 lo hi)
        exact h p _ _ _ (Nx.refl _ _) s1 f
      | _ =>
        simp only [cutD, q] at h
        exact h.elim
  | @tup a o xs l e1 d1 r1 =>
    cases rx
    obtain ⟨its, r, ht, hz⟩ := I.tuple (X := X) (a := a) (xs := xs) (.inl (.inr ⟨o, st.sub _ _ e1⟩))
    have hlen : its.toArray.size = xs.length := by rw [List.size_toArray]; exact r.length.symm
    refine ⟨"tuple", _, PyProof.Rows.slot_tuple_getitem.lookup, ht.typeIs, ?_⟩
    by_cases hw : HT.sIx xs.length 0 lo = 0 ∧ HT.sIx xs.length xs.length hi = xs.length
    · have e : cutL l lo hi = l := by
        unfold cutL
        rw [← r1.length, hw.1, hw.2, List.drop_zero, Nat.sub_zero, r1.length, List.take_length]
      have h : Ord P ms F Q (.tup (cutL l lo hi)) S := h
      rw [e] at h
      exact getItem_tuple_whole ht hs pl pu (by rw [hlen]; exact hw) ⟨.ref a, H, I, rfl, h _ _ _ _ (Nx.refl _ _) st (.tup e1 d1 r1)⟩
    · refine HT.getItem_tuple_cut ht hs pl pu (by rw [hlen]; exact hw) ?_ (by rw [hlen]; exact hz)
      rw [hlen]
      exact ep_tup (fr := true) (t' := s.toks) I ((r.drop (HT.sIx xs.length 0 lo)).take (HT.sIx xs.length xs.length hi - HT.sIx xs.length 0 lo)) st (cut_rep r1 lo hi) (Nat.le_trans (cut_len _ _ _) (by rw [← r1.length]; exact hz)) h
  | _ => exact h.elim
end SV
/-! SvF: built-in functions by values. -/
namespace SV
open PySem PySem.Spec PyProof.Rows L2
variable {X : Cx} {pins : List (Addr × Obj)} {σ : L2.St} {H : Hp} {s : Shared} {P : Pg} {ms : List Addr} {F : Hp} {S : Store} {Ex : XQ}
/-- a value of the model that stands for data -/
def RepU (P : Pg) (ms : List Addr) (F : Hp) (u : Value) (d : D) : Prop := ∃ x, RelV x u ∧ Rep P ms F x d
theorem eachU {us : List Value} : ∀ {xs : List V} {l : List D}, Vals xs us → RepL P ms F xs l → PySem.W.EachIs (RepU P ms F) us l := by
  induction us with
  | nil => intro xs l r h; cases r; cases h; exact .nil
  | cons u us ih =>
    intro xs l r h
    cases r with
    | cons r1 r2 =>
      cases h with
      | cons h1 h2 => exact .cons ⟨_, r1, h1⟩ (ih r2 h2)
theorem uEach {us : List Value} {l : List D} (h : PySem.W.EachIs (RepU P ms F) us l) : ∃ xs, Vals xs us ∧ RepL P ms F xs l := by
  induction h with
  | nil => exact ⟨[], .nil, .nil⟩
  | cons h t ih =>
    obtain ⟨x, r, q⟩ := h
    obtain ⟨xs, rs, qs⟩ := ih
    exact ⟨x :: xs, .cons r rs, .cons q qs⟩
/-- items as data -/
theorem readsU (hK : P.K = X.K) (I : Inv X pins σ H s) (st : Same F H) {us : List Value} : ∀ {xs : List V} {l : List D}, D.pures l = true → Vals xs us → RepL P ms F xs l → PySem.W.EachIs (fun v d => ∃ as, Reads s.heap v (D.py d) as) us l := by
  induction us with
  | nil => intro xs l p r h; cases r; cases h; exact .nil
  | cons u us ih =>
    intro xs l p r h
    cases r with
    | cons r1 r2 =>
      cases h with
      | cons h1 h2 =>
        simp only [D.pures, Bool.and_eq_true] at p
        exact .cons (Dp.reads I _ _ _ (hK ▸ Rep.dp st p.1 h1) r1) (ih p.2 r2 h2)
theorem one_v {us : List Value} {v : V} (r : Vals [v] us) : ∃ u, us = [u] ∧ RelV v u := Vals.one r

/-! ### sorted -/
section
variable {prog : Program} {w : World} {A : Around} {E : Value → Shared → Prop}
theorem sorted_col {a : Addr} {l : List D} {Rr : Value → D → Prop} {Q : Value → Shared → Prop} (hal : PySem.W.AllAlike (l.map D.py)) (hk : PySem.W.Sortable (l.map D.py)) (hL : l.length ≤ sizeLine)
    (hu : ∀ d, d ∈ l → A.units + 2 + (D.py d).depth < cLine)
    (hcol : ∀ Q' : List Value → Shared → Prop, (∀ (s1 : Shared) (us : List Value), (∀ b o, s.heap.get? b = some o → s1.heap.get? b = some o) → s1.gens = s.gens → s1.os = s.os →
      PySem.W.EachIs Rr us l → PySem.W.EachIs (fun v d => ∃ as, Reads s1.heap v (D.py d) as) us l → Q' us s1) → wpAny (model prog w) A.in1 (collect (.ref a)) Q' E s)
    (h : ∀ (s1 s2 : Shared) (out : List Value) (c : Nat), (∀ b o, s.heap.get? b = some o → s1.heap.get? b = some o) → s1.gens = s.gens → s1.os = s.os → (∀ b o, s1.heap.get? b = some o → s2.heap.get? b = some o) → s2.gens = s1.gens → s2.os = s1.os →
      s2.heap.get? s1.heap.objs.size = some (seqObj "list" out.toArray c) → PySem.W.EachIs Rr out (sortD l) → Q (.ref s1.heap.objs.size) s2) : wpAny (model prog w) A (call (.builtin "sorted") [.ref a]) Q E s := by
  refine Calls.call_function_entry kind_sorted plain_sorted entry_sorted (args_sorted1 _) ?_
  unfold Builtin.«sorted»
  refine wpAny_bind (m := checkCount "sorted" 1 1 _) (wpAny_pure ?_)
  refine wpAny_bind (hcol _ fun s1 us k1 g1 o1 e1 r1 => ?_)
  have hL' : us.length ≤ sizeLine := by rw [e1.length]; exact hL
  refine wpAny_bind (wpAny_newList ?_ hL')
  have hoL : (s1.heap.push (seqObj "list" us.toArray 0)).get? s1.heap.objs.size = some (seqObj "list" us.toArray 0) := Heap.get?_push_size _ rfl
  have er : PySem.W.EachIs (fun v d => ∃ as, Reads (PySem.W.sortingHeap (s1.heap.push (seqObj "list" us.toArray 0)) s1.heap.objs.size us) v (D.py d) as) us l := r1.mono fun v d ⟨as, r⟩ =>
    ⟨as, PyProof.Rows.Reads.keeps (fun b o e => by
      have hlt := Heap.lt_size e
      exact PySem.W.sortingHeap_old (Nat.ne_of_lt hlt) (Heap.get?_push_of_some _ e)) r⟩
  have S := PySem.W.SortsAt.data (prog := prog) (w := w) (A := A.in1.in1) (s := { s1 with heap := PySem.W.sortingHeap (s1.heap.push (seqObj "list" us.toArray 0)) s1.heap.objs.size us }) (PySem.W.each_map (R := fun v d => ∃ as, Reads (PySem.W.sortingHeap (s1.heap.push (seqObj "list" us.toArray 0)) s1.heap.objs.size us) v d as) D.py er) hal hk
    (PySem.W.bound_map (A := A.in1.in1) hu)
  refine wpAny_bind (wpAny_holding (wpAny_call_entry slot_list_sort ⟨_, hoL, rfl⟩ entry_list_sort (PySem.W.list_sort_vals (s := { s1 with heap := s1.heap.push (seqObj "list" us.toArray 0) }) hoL S hL' ⟨_, rfl, ?_⟩) (args_list_sort _)))
  generalize hout : PySem.W.sortVals (PySem.W.dataKind (PySem.W.sortingHeap (s1.heap.push (seqObj "list" us.toArray 0)) s1.heap.objs.size us) (l.map D.py)) false us us = out
  have eo : PySem.W.EachIs Rr out (sortD l) := by
    rw [← hout]
    exact PySem.W.sortVals_data false e1 er hal
  obtain ⟨c, hc⟩ := sortedHeap_at (vs := us) (out := out.toArray) hoL
  refine wpAny_pure ⟨_, rfl, h s1 _ out c k1 g1 o1 (fun b u q => ?_) rfl rfl hc eo⟩
  have hlt := Heap.lt_size q
  show (sortedHeap (s1.heap.push (seqObj "list" us.toArray 0)) s1.heap.objs.size us out.toArray).get? b = some u
  rw [sortedHeap_old (Nat.ne_of_lt hlt) (by rw [size_push']; exact Nat.lt_succ_of_lt hlt)]
  exact Heap.get?_push_of_some _ q
end
theorem depth_mem {x : PyData} : ∀ {xs : List PyData}, x ∈ xs → x.depth ≤ PyData.depthAll xs
  | y :: ys, h => by
    rw [PyData.depthAll]
    rcases List.mem_cons.mp h with rfl | h
    · exact Nat.le_max_left _ _
    · exact Nat.le_trans (depth_mem h) (Nat.le_max_right _ _)
theorem okSort_ok {l : List D} (h : okSort l = true) : D.pures l = true ∧ PySem.W.AllAlike (l.map D.py) ∧ PySem.W.Sortable (l.map D.py) ∧ (∀ d, d ∈ l → (D.py d).depth ≤ 30) ∧ okLen l.length = true := by
  unfold okSort at h
  simp only [Bool.and_eq_true, decide_eq_true_eq] at h
  obtain ⟨⟨⟨⟨h1, h2⟩, h3⟩, h4⟩, h5⟩ := h
  rw [pys_map] at h2 h4
  refine ⟨h1, fun d hd d' hd' => ?_, ?_, fun d hd => Nat.le_trans (depth_mem (List.mem_map.mpr ⟨d, hd, rfl⟩)) h4, h5⟩
  · unfold allAlike at h2
    exact List.all_eq_true.mp (List.all_eq_true.mp h2 d hd) d' hd'
  · unfold sortable at h3
    rw [Bool.or_eq_true, List.all_eq_true, List.all_eq_true] at h3
    rcases h3 with h3 | h3
    · refine .inl fun d hd => ?_
      obtain ⟨e, he, rfl⟩ := List.mem_map.mp hd
      have q := h3 e he
      cases e with
      | tup m =>
        cases m with
        | nil => cases q
        | cons y m => exact ⟨_, _, by rw [D.py, D.pys]⟩
      | _ => cases q
    · refine .inr fun d hd => ?_
      obtain ⟨e, he, rfl⟩ := List.mem_map.mp hd
      have q := h3 e he
      rw [pures_all, List.all_eq_true] at h1
      have p := h1 e he
      cases e <;> simp_all [D.py, D.pure]
theorem perm_pures {l m : List D} (p : l.Perm m) (h : D.pures l = true) : D.pures m = true := by
  rw [pures_all, List.all_eq_true] at h ⊢
  exact fun d hd => h d (p.mem_iff.mpr hd)
/-- all objects kept, in another state -/
theorem inv_kept {s1 : Shared} (I : Inv X pins σ H s) (k : ∀ b o, s.heap.get? b = some o → s1.heap.get? b = some o) (hg : s1.gens = s.gens) (ho : s1.os = s.os) : Inv X pins σ H s1 :=
  I.call' (ch := []) ho (Un.kept k) (I.hok.kept k) (by rw [hg]; exact I.bare) (fun _ z => nomatch z)
/-- a new list of values -/
theorem ep_list {us : List Value} {xs : List V} {l : List D} {Q : VK} {s2 : Shared} {c : Nat} (I : Inv X pins σ H s) (k : ∀ b o, s.heap.get? b = some o → s2.heap.get? b = some o) (hg : s2.gens = s.gens) (ho : s2.os = s.os)
    (e : s2.heap.get? s.heap.objs.size = some (seqObj "list" us.toArray c)) (r : Vals xs us) (rl : RepL P ms F xs l) (hz : l.length ≤ sizeLine) (st : Sto P H ms F S) (h : New P ms F Q l S) : EP X pins σ Q (.ref s.heap.objs.size) s2 := by
  have hn : H s.heap.objs.size = none := I.hok.fresh (Nat.le_refl _)
  obtain ⟨s1, f⟩ := st.fresh hn rl
  have ok : ObjOk X.prog X.w (upd H s.heap.objs.size (.lst xs)) s2.heap s.heap.objs.size (.lst xs) := ⟨by rw [rl.length]; exact hz, us, c, r, e⟩
  exact ⟨.ref _, _, I.call' (ch := []) ho (Un.laid k (Nat.le_refl _) hn) (I.hok.laid k (Nat.le_refl _) ok) (by rw [hg]; exact I.bare) (fun _ z => nomatch z), rfl, h _ _ _ _ (Nx.refl _ _) s1 f⟩
theorem sortD_perm (l : List D) : (sortD l).Perm l := List.mergeSort_perm _ _
theorem b_sorted (hK : P.K = X.K) (hu : X.A.units + 64 < cLine) (hc : X.calm = true) : CallR X (.builtin "sorted") (rvN P true Ex (Bi.app .sorted)) := by
  intro pins s σ H xs us Q I r h
  obtain ⟨ms, F, S, l, st, rl, h⟩ := h
  cases rl with
  | nil => exact h.elim
  | cons h1 h2 =>
    cases h2 with
    | cons _ _ => exact h.elim
    | nil =>
      rename_i v d
      have h : Post P ms F true Q Ex (match d.items S with | some l => if okSort l then .ok (.lst (sortD l)) S else .bad | none => .bad) := by
        cases d <;> exact h
      obtain ⟨u, rfl, ru⟩ := Vals.one r
      cases q : d.items S with
      | none =>
        rw [q] at h
        exact h.elim
      | some l =>
        rw [q] at h
        dsimp only at h
        by_cases c : okSort l = true
        · rw [if_pos c] at h
          obtain ⟨c1, c2, c3, c4, c5⟩ := okSort_ok c
          obtain ⟨a, ys, rfl, sq, rl⟩ := items_sq st h1 q
          cases ru
          rw [hK] at sq
          have fin : ∀ (us : List Value) (T : String) (o : Obj) (n : Nat), (T = "list" ∨ T = "tuple") → s.heap.get? a = some o → o.cls = .type T → o.data = .seq us.toArray n → Vals ys us → wpAny (model X.prog X.w) X.A (call (.builtin "sorted") [.ref a]) (EP X pins σ Q) X.xe s := fun us T o n hT ho hcl hd rv => by
            refine sorted_col (Rr := RepU P ms F) c2 c3 (okLen_le c5) (fun d hd => ?_) (fun Q' hq => ?_) fun s1 s2 out cc k1 g1 o1 k2 g2 o2 e eo => ?_
            · have := c4 d hd
              omega
            · refine wpAny_collect_seq a hT ho hcl hd (fun h' k => ?_) (by rw [List.size_toArray, ← rv.length, rl.length]; exact okLen_le c5)
              exact hq { s with heap := h' } us.toArray.toList k rfl rfl (eachU rv rl) ((readsU hK I st.sub c1 rv rl).mono fun v d ⟨as, r⟩ => ⟨as, PyProof.Rows.Reads.keeps k r⟩)
            · obtain ⟨zs, rz, qz⟩ := uEach eo
              exact ep_list (inv_kept I k1 g1 o1) k2 g2 o2 e rz qz (by rw [(sortD_perm l).length_eq]; exact okLen_le c5) st h
          rcases sq with sq | sq
          · obtain ⟨its, rv, ⟨o, n, ho, hc, _, hd⟩, _⟩ := I.list sq
            exact fin its "list" o n (.inl rfl) ho hc hd rv
          · obtain ⟨its, rv, ⟨o, ho, hc, n, hd⟩, _⟩ := I.tuple sq
            exact fin its "tuple" o n (.inr rfl) ho hc hd rv
        · rw [if_neg c] at h
          exact h.elim
end SV
/-! SvG: more built-in functions by values. -/
namespace SV
open PySem PySem.Spec PyProof.Rows L2
variable {X : Cx} {pins : List (Addr × Obj)} {σ : L2.St} {H : Hp} {s : Shared} {P : Pg} {ms : List Addr} {F : Hp} {S : Store} {Ex : XQ}
/-- a call of one argument -/
theorem call_one {f : Value} {fr : Bool} {app : List D → Store → R D} (h0 : ∀ l S, (∀ d, l ≠ [d]) → app l S = .bad)
    (k : ∀ (pins : List (Addr × Obj)) (s : Shared) (σ : L2.St) (H : Hp) (Q : VK) (ms : List Addr) (F : Hp) (S : Store) (v : V) (d : D) (u : Value), Inv X pins σ H s → RelV v u → Sto P H ms F S → Rep P ms F v d → Post P ms F fr Q Ex (app [d] S) →
      wpAny (model X.prog X.w) X.A (call f [u]) (EP X pins σ Q) X.xe s) : CallR X f (rvN P fr Ex app) := by
  intro pins s σ H xs us Q I r h
  obtain ⟨ms, F, S, l, st, rl, h⟩ := h
  have bad : (∀ d, l ≠ [d]) → wpAny (model X.prog X.w) X.A (call f us) (EP X pins σ Q) X.xe s := fun z => by
    rw [h0 l S z] at h
    exact h.elim
  cases rl with
  | nil => exact bad fun d => by simp
  | cons h1 h2 =>
    cases h2 with
    | cons _ _ => exact bad fun d => by simp
    | nil =>
      obtain ⟨u, rfl, ru⟩ := Vals.one r
      exact k pins s σ H Q ms F S _ _ u I ru st h1 h
theorem b_len (hK : P.K = X.K) : CallR X (.builtin "len") (rvN P false Ex (Bi.app .len)) := by
  refine call_one (fun l S z => ?_) fun pins s σ H Q ms F S v d u I ru st rd h => ?_
  · match l, z with
    | [], _ => rfl
    | [d], z => exact absurd rfl (z d)
    | _ :: _ :: _, _ => rfl
  · have gen : Post P ms F false Q Ex (match d.items S with | some l => .ok (.int l.length) S | none => .bad) → wpAny (model X.prog X.w) X.A (call (.builtin "len") [u]) (EP X pins σ Q) X.xe s := fun h => by
      cases q : d.items S with
      | none =>
        rw [q] at h
        exact h.elim
      | some l =>
        rw [q] at h
        obtain ⟨a, ys, rfl, sq, rl⟩ := items_sq st rd q
        exact call_len_seq pins s σ H [.ref a] [u] Q I (.cons ru .nil) ⟨a, ys, rfl, hK ▸ sq, by rw [rl.length]; exact h _ _ _ _ (Nx.refl _ _) st (.int _)⟩
    cases rd with
    | str z =>
      have h : Post P ms F false Q Ex (if okLen z.length then .ok (.int z.length) S else .bad) := h
      by_cases c : okLen z.length = true
      · rw [if_pos c] at h
        exact call_len_str pins s σ H [.str z] [u] Q I (.cons ru .nil) ⟨z, rfl, okLen_le c, h _ _ _ _ (Nx.refl _ _) st (.int _)⟩
      · rw [if_neg c] at h
        exact h.elim
    | tup e d r => exact gen h
    | lst e r => exact gen h
    | scr e => exact gen h
    | loc e => exact gen h
    | _ => exact h.elim
theorem signs_rep : ∀ (cs : List Nat), RepL P ms F (cs.map fun c => V.str ⟨#[c]⟩) (cs.map sign)
  | [] => .nil
  | c :: cs => .cons (.str _) (signs_rep cs)
theorem vals_signsL : ∀ {cs : List Nat} {us : List Value}, us.length = cs.length → (∀ (j : Nat) (v : Value), us[j]? = some v → ∃ c t, cs[j]? = some c ∧ v = Value.str ⟨#[c]⟩ t) → Vals (cs.map fun c => V.str ⟨#[c]⟩) us
  | [], [], _, _ => .nil
  | [], _ :: _, h, _ => nomatch h
  | _ :: _, [], h, _ => nomatch h
  | c :: cs, u :: us, h, k => by
    obtain ⟨c', t, e1, rfl⟩ := k 0 u rfl
    cases e1
    exact .cons ⟨t, rfl⟩ (vals_signsL (Nat.succ.inj h) fun j v e => k (j + 1) v e)
theorem vals_signs {z : Str} {us : List Value} (hl : us.length = z.cps.toList.length) (h : ∀ (j : Nat) (v : Value), us[j]? = some v → SignAt z j v) : Vals (z.cps.toList.map fun c => V.str ⟨#[c]⟩) us :=
  vals_signsL hl fun j v e => by
    obtain ⟨c, u, e1, e2⟩ := h j v e
    exact ⟨c, u, by rw [Array.getElem?_toList]; exact e1, e2⟩
theorem b_list (hK : P.K = X.K) (hc : X.calm = true) : CallR X (.type "list") (rvN P true Ex (Bi.app .list)) := by
  refine call_one (fun l S z => ?_) fun pins s σ H Q ms F S v d u I ru st rd h => ?_
  · match l, z with
    | [], _ => rfl
    | [d], z => exact absurd rfl (z d)
    | _ :: _ :: _, _ => rfl
  · have gen : Post P ms F true Q Ex (match d.items S with | some l => .ok (.lst l) S | none => .bad) → wpAny (model X.prog X.w) X.A (call (.type "list") [u]) (EP X pins σ Q) X.xe s := fun h => by
      cases q : d.items S with
      | none =>
        rw [q] at h
        exact h.elim
      | some l =>
        rw [q] at h
        obtain ⟨a, ys, rfl, sq, rl⟩ := items_sq st rd q
        refine call_list_of pins s σ H [.ref a] [u] Q I (.cons ru .nil) ⟨a, ys, rfl, hK ▸ sq, fun p hp => ?_⟩
        obtain ⟨s1, f⟩ := st.fresh hp rl
        exact h p _ _ _ (Nx.refl _ _) s1 f
    cases rd with
    | str z =>
      have h : Post P ms F true Q Ex (if okLen z.length then .ok (.lst (signsD z)) S else .bad) := h
      by_cases c : okLen z.length = true
      · rw [if_pos c] at h
        obtain ⟨t, rfl⟩ := ru
        refine call_list_str (I.ok.hd hc) z t (fun h' tk acc' c' k e hit => ?_) (by show z.length ≤ sizeLine; exact okLen_le c)
        have rv : Vals (z.cps.toList.map fun c => V.str ⟨#[c]⟩) acc'.toList := vals_signs (by rw [Array.length_toList, hit.1, Array.length_toList]) fun j v e => hit.2 j v (by rw [← e, Array.getElem?_toList])
        have e' : h'.get? s.heap.objs.size = some (seqObj "list" acc'.toList.toArray c') := by simpa using e
        refine ep_list (s2 := { s with heap := h', toks := tk }) I k rfl rfl e' rv (signs_rep _) ?_ st h
        rw [List.length_map]
        have := okLen_le c
        simpa [Str.length] using this
      · rw [if_neg c] at h
        exact h.elim
    | tup e d r => exact gen h
    | lst e r => exact gen h
    | scr e => exact gen h
    | @loc a n e =>
      cases q : S[n]? with
      | none =>
        simp only [Bi.app, q] at h
        exact h.elim
      | some c =>
        cases c with
        | lst l => exact gen (by simp only [Bi.app, q] at h; simp only [D.items, q]; exact h)
        | dct l =>
          simp only [Bi.app, q] at h
          by_cases c : (l.all fun p => !isTup p.1) = true
          · rw [if_pos c] at h
            have hall : ∀ p ∈ l, isTup p.1 = false := fun p hp => by simpa using List.all_eq_true.mp c p hp
            have cell := st.cell n a _ e q
            obtain ⟨hF, hl, ⟨kvs, h1, h2⟩ | ⟨hs, kvs, h1, h2⟩⟩ := cell
            · refine call_list_dK hc pins s σ H [.ref a] [u] Q I (.cons ru .nil) ⟨a, kvs, rfl, h1, fun p hp => ?_⟩
              have rl : RepL P ms F (kvs.map fun kv => kV kv.1) (l.map (·.1)) := by
                clear h h1 hl c hall q
                induction h2 with
                | nil => exact .nil
                | @cons a b as bs hh t ih =>
                  refine .cons ?_ ih
                  show Rep P ms F (kV a.1) b.1
                  rw [hh.1]
                  cases a.1 <;> constructor
              obtain ⟨s1, f⟩ := st.fresh hp rl
              exact h p _ _ _ (Nx.refl _ _) s1 f
            · exfalso
              cases h2 with
              | nil => exact hs.2 rfl
              | @cons x p xs ps hh t =>
                have e1 := hall p List.mem_cons_self
                have e2 := hh.1
                have e3 := hh.2.2.1
                generalize p.1 = z at e1 e2 e3
                cases e2 with
                | tup => cases e1
                | _ => cases e3
          · rw [if_neg c] at h
            exact h.elim
        | _ =>
          simp only [Bi.app, q] at h
          exact h.elim
    | _ => exact h.elim
theorem b_tuple (hK : P.K = X.K) : CallR X (.type "tuple") (rvN P false Ex (Bi.app .tuple)) := by
  refine call_one (fun l S z => ?_) fun pins s σ H Q ms F S v d u I ru st rd h => ?_
  · match l, z with
    | [], _ => rfl
    | [d], z => exact absurd rfl (z d)
    | _ :: _ :: _, _ => rfl
  · have h : Post P ms F false Q Ex (match d.items S with | some l => .ok (.tup l) S | none => .bad) := by
      cases d <;> exact h
    have gen : ∀ a ys l, v = .ref a → SqL P.K H a ys → RepL P ms F ys l → Ord P ms F Q (.tup l) S → wpAny (model X.prog X.w) X.A (call (.type "tuple") [u]) (EP X pins σ Q) X.xe s := fun a ys l e sq rl h => by
      subst e
      cases ru
      rw [hK] at sq
      obtain ⟨its, r', pl, hz⟩ := I.list sq
      have hlen := r'.length
      refine PySem.call_tuple_list pl.isList (fun h' kp => ?_) (by simp only [List.size_toArray] <;> omega)
      have I1 : Inv X pins σ H { s with heap := h' } := I.kept (t' := s.toks) kp
      exact ep_tup (fr := false) (t' := s.toks) I1 r' st rl (by rw [← rl.length]; exact hz) h
    cases rd with
    | @tup a o ys l e1 d1 r1 =>
      cases ru
      obtain ⟨its, r', pl, hz⟩ := I.tuple (X := X) (a := a) (xs := ys) (.inl (.inr ⟨o, st.sub _ _ e1⟩))
      exact PySem.call_tuple_same pl ⟨.ref a, H, I, rfl, h _ _ _ _ (Nx.refl _ _) st (.tup e1 d1 r1)⟩
    | lst e r => exact gen _ _ _ rfl (.inl (.inl (st.sub _ _ e))) r h
    | scr e => exact gen _ _ _ rfl (st.sub.seq e) RepL.ints h
    | @loc a n e =>
      cases q : S[n]? with
      | none =>
        simp only [D.items, q] at h
        exact h.elim
      | some c =>
        cases c with
        | lst l =>
          simp only [D.items, q] at h
          obtain ⟨_, xs, h1, h2⟩ := st.cell n a _ e q
          exact gen _ _ _ rfl (.inl (.inl h1)) h2 h
        | _ =>
          simp only [D.items, q] at h
          exact h.elim
    | _ => exact h.elim
/-! ### min, max -/
mutual
theorem py_inj : ∀ (a b : D), a.pure = true → b.pure = true → a.py = b.py → a = b
  | .non, b, _, h, e => by cases b <;> simp_all [D.py, D.pure]
  | .bl _, b, _, h, e => by cases b <;> simp_all [D.py, D.pure]
  | .int _, b, _, h, e => by cases b <;> simp_all [D.py, D.pure]
  | .str _, b, _, h, e => by cases b <;> simp_all [D.py, D.pure]
  | .tup l, b, p, h, e => by
    cases b with
    | tup m =>
      simp only [D.py, PyData.tuple.injEq] at e
      rw [pys_inj l m (by simpa [D.pure] using p) (by simpa [D.pure] using h) e]
    | _ => simp_all [D.py, D.pure]
  | .lst l, b, p, h, e => by
    cases b with
    | lst m =>
      simp only [D.py, PyData.list.injEq] at e
      rw [pys_inj l m (by simpa [D.pure] using p) (by simpa [D.pure] using h) e]
    | _ => simp_all [D.py, D.pure]
  | .scr _, _, p, _, _ => by simp [D.pure] at p
  | .loc _, _, p, _, _ => by simp [D.pure] at p
  | .fn _, _, p, _, _ => by simp [D.pure] at p
  | .dctv _ _, _, p, _, _ => by simp [D.pure] at p
  | .exn _, _, p, _, _ => by simp [D.pure] at p
theorem pys_inj : ∀ (a b : List D), D.pures a = true → D.pures b = true → D.pys a = D.pys b → a = b
  | [], b, _, _, e => by cases b <;> simp_all [D.pys]
  | x :: a, b, p, h, e => by
    cases b with
    | nil => simp [D.pys] at e
    | cons y b =>
      simp only [D.pys, List.cons.injEq] at e
      simp only [D.pures, Bool.and_eq_true] at p h
      rw [py_inj x y p.1 h.1 e.1, pys_inj a b p.2 h.2 e.2]
end
theorem minD_py : ∀ (l : List D) (x : D), (minD x l).py = PySem.W.minD x.py (D.pys l)
  | [], x => rfl
  | y :: l, x => by
    rw [minD, minD_py l, D.pys, PySem.W.minD, PySem.W.minD, List.foldl_cons]
    split <;> rfl
theorem maxD_py : ∀ (l : List D) (x : D), (maxD x l).py = PySem.W.maxD x.py (D.pys l)
  | [], x => rfl
  | y :: l, x => by
    rw [maxD, maxD_py l, D.pys, PySem.W.maxD, PySem.W.maxD, List.foldl_cons]
    split <;> rfl
theorem minD_mem : ∀ (l : List D) (x : D), minD x l ∈ x :: l
  | [], x => by simp [minD]
  | y :: l, x => by
    rw [minD]
    have := minD_mem l (if PySem.W.dataLt y.py x.py = true then y else x)
    split at this <;> simp_all <;> rcases this with h | h <;> simp_all
theorem maxD_mem : ∀ (l : List D) (x : D), maxD x l ∈ x :: l
  | [], x => by simp [maxD]
  | y :: l, x => by
    rw [maxD]
    have := maxD_mem l (if PySem.W.dataLt x.py y.py = true then y else x)
    split at this <;> simp_all <;> rcases this with h | h <;> simp_all
theorem pures_mem {l : List D} {d : D} (h : D.pures l = true) (m : d ∈ l) : d.pure = true := by
  rw [pures_all, List.all_eq_true] at h
  exact h d m
theorem vals_at : ∀ {us : List Value} {xs : List V} {i : Nat} {u : Value}, Vals xs us → us[i]? = some u → ∃ x, xs[i]? = some x ∧ RelV x u
  | _, _, _, _, .nil, e => by simp at e
  | _, _, 0, _, .cons r _, e => by simp at e; subst e; exact ⟨_, rfl, r⟩
  | _, _, i + 1, _, .cons _ t, e => by
    obtain ⟨v, h1, h2⟩ := vals_at (i := i) t (by simpa using e)
    exact ⟨v, by simpa using h1, h2⟩
/-- the item that reads as one of the data is that one -/
theorem item_is (hK : P.K = X.K) (I : Inv X pins σ H s) (st : Same F H) {xs : List V} {us : List Value} {l : List D} {m : D} {i : Nat} {u : Value} {h' : Heap} {bs : List Addr} (p : D.pures l = true) (rv : Vals xs us) (rl : RepL P ms F xs l) (hm : m ∈ l)
    (e : us[i]? = some u) (k : ∀ b o, s.heap.get? b = some o → h'.get? b = some o) (r : Reads h' u m.py bs) : RepU P ms F u m := by
  obtain ⟨x, hx, ru⟩ := vals_at rv e
  obtain ⟨d, hd, rd⟩ := rl.getV hx
  have pd := pures_mem p (List.mem_of_getElem? hd)
  obtain ⟨as, r0⟩ := Dp.reads I _ _ _ (hK ▸ Rep.dp st pd rd) ru
  have r1 := PyProof.Rows.Reads.keeps k r0
  have e2 := SeqAt.plain_unique _ _ _ _ _ (plain_py d) r1 r
  rw [← py_inj d m pd (pures_mem p hm) e2]
  exact ⟨x, ru, rd⟩
theorem okMin_ok {l : List D} (h : okMin l = true) : D.pures l = true ∧ PySem.W.AlikeAll (D.pys l) ∧ PyData.depthAll (D.pys l) ≤ 30 := by
  unfold okMin at h
  simp only [Bool.and_eq_true, decide_eq_true_eq] at h
  obtain ⟨⟨⟨h1, h2⟩, h3⟩, h4⟩ := h
  refine ⟨h1, ⟨fun x hx y hy => ?_, fun x hx => ?_⟩, h3⟩
  · unfold allAlike at h2
    exact List.all_eq_true.mp (List.all_eq_true.mp h2 x hx) y hy
  · rw [pys_map] at hx
    obtain ⟨d, hd, rfl⟩ := List.mem_map.mp hx
    have q := List.all_eq_true.mp h4 d hd
    have p := pures_mem h1 hd
    cases d <;> simp_all [D.py, D.pure, isNon]
theorem b_min (hK : P.K = X.K) (hu : X.A.units + 64 < cLine) (hc : X.calm = true) : CallR X (.builtin "min") (rvN P false Ex (Bi.app .min)) := by
  intro pins s σ H xs us Q I r h
  obtain ⟨ms, F, S, l, st, rl, h⟩ := h
  match l, rl, h with
  | [], _, h => exact h.elim
  | [d], .cons rd .nil, h =>
    have h : Post P ms F false Q Ex (match d.items S with | some (y :: l) => if okMin (y :: l) then .ok (minD y l) S else .bad | _ => .bad) := by
      cases d <;> exact h
    obtain ⟨u, rfl, ru⟩ := Vals.one r
    cases q : d.items S with
    | none =>
      rw [q] at h
      exact h.elim
    | some m =>
      cases m with
      | nil =>
        rw [q] at h
        exact h.elim
      | cons y l =>
        rw [q] at h
        dsimp only at h
        by_cases c : okMin (y :: l) = true
        · rw [if_pos c] at h
          obtain ⟨c1, c2, c3⟩ := okMin_ok c
          obtain ⟨a, ys, rfl, sq, rl⟩ := items_sq st rd q
          cases ru
          rw [hK] at sq
          have dp : DpAll X.K H ys (D.pys (y :: l)) := hK ▸ rl.dp st.sub c1
          have hu' : X.A.units + 1 + PyData.depthAll (D.pys (y :: l)) < cLine := by omega
          have fin : ∀ its, Vals ys its → ∀ (i : Nat) v h' tk bs, its.toArray[i]? = some v → Reads h' v (PySem.W.minD y.py (D.pys l)) bs → (∀ b o, s.heap.get? b = some o → h'.get? b = some o) → EP X pins σ Q v { s with heap := h', toks := tk } := fun its rv i v h' tk bs e r k => by
            rw [← minD_py] at r
            obtain ⟨x, rx, hx⟩ := item_is hK I st.sub c1 rv rl (minD_mem l y) (by simpa using e) k r
            exact ⟨x, H, I.kept k, rx, h _ _ _ _ (Nx.refl _ _) st hx⟩
          rcases sq with sq | sq
          · obtain ⟨its, rv, pl, _⟩ := I.list sq
            obtain ⟨as, ra⟩ := Dp.readsAll I _ _ _ dp rv
            exact PySem.W.min_list_data (I.ok.hd hc) pl.isList ra c2 hu' (fin its rv)
          · obtain ⟨its, rv, pl, _⟩ := I.tuple sq
            obtain ⟨as, ra⟩ := Dp.readsAll I _ _ _ dp rv
            exact PySem.W.min_tuple_data (I.ok.hd hc) pl ra c2 hu' (fin its rv)
        · rw [if_neg c] at h
          exact h.elim
  | [x, y], .cons r1 (.cons r2 .nil), h =>
    cases r1 with
    | int i =>
      cases r2 with
      | int j => exact call_min2 hc pins s σ H _ us Q I r ⟨i, j, rfl, h _ _ _ _ (Nx.refl _ _) st (.int _)⟩
      | _ => exact h.elim
    | _ => cases r2 <;> exact h.elim
  | x :: y :: _ :: _, _, h => cases x <;> cases y <;> exact h.elim
theorem b_max (hK : P.K = X.K) (hu : X.A.units + 64 < cLine) (hc : X.calm = true) : CallR X (.builtin "max") (rvN P false Ex (Bi.app .max)) := by
  intro pins s σ H xs us Q I r h
  obtain ⟨ms, F, S, l, st, rl, h⟩ := h
  match l, rl, h with
  | [], _, h => exact h.elim
  | [d], .cons rd .nil, h =>
    have h : Post P ms F false Q Ex (match d.items S with | some (y :: l) => if okMin (y :: l) then .ok (maxD y l) S else .bad | _ => .bad) := by
      cases d <;> exact h
    obtain ⟨u, rfl, ru⟩ := Vals.one r
    cases q : d.items S with
    | none =>
      rw [q] at h
      exact h.elim
    | some m =>
      cases m with
      | nil =>
        rw [q] at h
        exact h.elim
      | cons y l =>
        rw [q] at h
        dsimp only at h
        by_cases c : okMin (y :: l) = true
        · rw [if_pos c] at h
          obtain ⟨c1, c2, c3⟩ := okMin_ok c
          obtain ⟨a, ys, rfl, sq, rl⟩ := items_sq st rd q
          cases ru
          rw [hK] at sq
          have dp : DpAll X.K H ys (D.pys (y :: l)) := hK ▸ rl.dp st.sub c1
          have hu' : X.A.units + 1 + PyData.depthAll (D.pys (y :: l)) < cLine := by omega
          have fin : ∀ its, Vals ys its → ∀ (i : Nat) v h' tk bs, its.toArray[i]? = some v → Reads h' v (PySem.W.maxD y.py (D.pys l)) bs → (∀ b o, s.heap.get? b = some o → h'.get? b = some o) → EP X pins σ Q v { s with heap := h', toks := tk } := fun its rv i v h' tk bs e r k => by
            rw [← maxD_py] at r
            obtain ⟨x, rx, hx⟩ := item_is hK I st.sub c1 rv rl (maxD_mem l y) (by simpa using e) k r
            exact ⟨x, H, I.kept k, rx, h _ _ _ _ (Nx.refl _ _) st hx⟩
          rcases sq with sq | sq
          · obtain ⟨its, rv, pl, _⟩ := I.list sq
            obtain ⟨as, ra⟩ := Dp.readsAll I _ _ _ dp rv
            exact PySem.W.max_list_data (I.ok.hd hc) pl.isList ra c2 hu' (fin its rv)
          · obtain ⟨its, rv, pl, _⟩ := I.tuple sq
            obtain ⟨as, ra⟩ := Dp.readsAll I _ _ _ dp rv
            exact PySem.W.max_tuple_data (I.ok.hd hc) pl ra c2 hu' (fin its rv)
        · rw [if_neg c] at h
          exact h.elim
  | [x, y], .cons r1 (.cons r2 .nil), h =>
    cases r1 with
    | int i =>
      cases r2 with
      | int j => exact call_max2 hc pins s σ H _ us Q I r ⟨i, j, rfl, h _ _ _ _ (Nx.refl _ _) st (.int _)⟩
      | _ => exact h.elim
    | _ => cases r2 <;> exact h.elim
  | x :: y :: _ :: _, _, h => cases x <;> cases y <;> exact h.elim

/-! ### sum, all, any, int, str -/
theorem intsD_some : ∀ {l : List D} {ns : List Int}, intsD l = some ns → l = ns.map D.int
  | [], ns, h => by cases h; rfl
  | d :: l, ns, h => by
    cases d <;> simp [intsD] at h
    obtain ⟨m, h1, rfl⟩ := h
    rw [intsD_some h1] <;> rfl
theorem boolsD_some : ∀ {l : List D} {ns : List Bool}, boolsD l = some ns → l = ns.map D.bl
  | [], ns, h => by cases h; rfl
  | d :: l, ns, h => by
    cases d <;> simp [boolsD] at h
    obtain ⟨m, h1, rfl⟩ := h
    rw [boolsD_some h1] <;> rfl
theorem rep_ints : ∀ {xs : List V} {ns : List Int}, RepL P ms F xs (ns.map D.int) → xs = ns.map V.int
  | _, [], .nil => rfl
  | _, n :: ns, .cons r t => by
    cases r
    rw [rep_ints t] <;> rfl
theorem rep_bls : ∀ {xs : List V} {ns : List Bool}, RepL P ms F xs (ns.map D.bl) → xs = ns.map V.bl
  | _, [], .nil => rfl
  | _, n :: ns, .cons r t => by
    cases r
    rw [rep_bls t] <;> rfl
theorem b_sum (hK : P.K = X.K) (hc : X.calm = true) : CallR X (.builtin "sum") (rvN P false Ex (Bi.app .sum)) := by
  refine call_one (fun l S z => ?_) fun pins s σ H Q ms F S v d u I ru st rd h => ?_
  · match l, z with
    | [], _ => rfl
    | [d], z => exact absurd rfl (z d)
    | x :: _ :: _, _ => cases x <;> rfl
  · cases rd with
    | @lst a xs l e r =>
      replace h : Post P ms F false Q Ex (match intsD l with | some l => .ok (.int l.sum) S | none => .bad) := h
      cases q : intsD l with
      | none =>
        rw [q] at h
        exact h.elim
      | some ns =>
        rw [q] at h
        have e2 := intsD_some q
        subst e2
        have e3 := rep_ints r
        subst e3
        exact cr_sum hc pins s σ H _ _ Q I (.cons ru .nil) ⟨a, ns, rfl, .inl (.inl (st.sub _ _ e)), h _ _ _ _ (Nx.refl _ _) st (.int _)⟩
    | _ => exact h.elim
theorem b_all (hK : P.K = X.K) (hc : X.calm = true) : CallR X (.builtin "all") (rvN P false Ex (Bi.app .all)) := by
  refine call_one (fun l S z => ?_) fun pins s σ H Q ms F S v d u I ru st rd h => ?_
  · match l, z with
    | [], _ => rfl
    | [d], z => exact absurd rfl (z d)
    | x :: _ :: _, _ => cases x <;> rfl
  · cases rd with
    | @lst a xs l e r =>
      replace h : Post P ms F false Q Ex (match boolsD l with | some l => .ok (.bl (l.all id)) S | none => .bad) := h
      cases q : boolsD l with
      | none =>
        rw [q] at h
        exact h.elim
      | some ns =>
        rw [q] at h
        have e2 := boolsD_some q
        subst e2
        have e3 := rep_bls r
        subst e3
        exact cr_all hc pins s σ H _ _ Q I (.cons ru .nil) ⟨a, ns, rfl, .inl (.inl (st.sub _ _ e)), h _ _ _ _ (Nx.refl _ _) st (.bl _)⟩
    | _ => exact h.elim
theorem b_any (hK : P.K = X.K) (hc : X.calm = true) : CallR X (.builtin "any") (rvN P false Ex (Bi.app .any)) := by
  refine call_one (fun l S z => ?_) fun pins s σ H Q ms F S v d u I ru st rd h => ?_
  · match l, z with
    | [], _ => rfl
    | [d], z => exact absurd rfl (z d)
    | x :: _ :: _, _ => cases x <;> rfl
  · cases rd with
    | @lst a xs l e r =>
      replace h : Post P ms F false Q Ex (match boolsD l with | some l => .ok (.bl (l.any id)) S | none => .bad) := h
      cases q : boolsD l with
      | none =>
        rw [q] at h
        exact h.elim
      | some ns =>
        rw [q] at h
        have e2 := boolsD_some q
        subst e2
        have e3 := rep_bls r
        subst e3
        exact cr_any hc pins s σ H _ _ Q I (.cons ru .nil) ⟨a, ns, rfl, .inl (.inl (st.sub _ _ e)), h _ _ _ _ (Nx.refl _ _) st (.bl _)⟩
    | _ => exact h.elim
theorem b_int : CallR X (.type "int") (rvN P false Ex (Bi.app .int)) := by
  refine call_one (fun l S z => ?_) fun pins s σ H Q ms F S v d u I ru st rd h => ?_
  · match l, z with
    | [], _ => rfl
    | [d], z => exact absurd rfl (z d)
    | x :: _ :: _, _ => cases x <;> rfl
  · cases rd with
    | str z =>
      have h : Post P ms F false Q Ex (match PySem.intText? z with | some n => if z.length ≤ 640 then .ok (.int n) S else .bad | none => .bad) := h
      cases q : PySem.intText? z with
      | none =>
        rw [q] at h
        exact h.elim
      | some n =>
        rw [q] at h
        dsimp only at h
        by_cases c : z.length ≤ 640
        · rw [if_pos c] at h
          exact call_int_str pins s σ H _ _ Q I (.cons ru .nil) ⟨z, n, rfl, q, c, h _ _ _ _ (Nx.refl _ _) st (.int _)⟩
        · rw [if_neg c] at h
          exact h.elim
    | _ => exact h.elim
theorem b_str : CallR X (.type "str") (rvN P false Ex (Bi.app .str)) := by
  refine call_one (fun l S z => ?_) fun pins s σ H Q ms F S v d u I ru st rd h => ?_
  · match l, z with
    | [], _ => rfl
    | [d], z => exact absurd rfl (z d)
    | x :: _ :: _, _ => cases x <;> rfl
  · cases rd with
    | int i =>
      have h : Post P ms F false Q Ex (if i.natAbs.log2 < 1920 then .ok (.str (toString i)) S else .bad) := h
      by_cases c : i.natAbs.log2 < 1920
      · rw [if_pos c] at h
        exact call_str_int pins s σ H _ _ Q I (.cons ru .nil) ⟨i, rfl, c, h _ _ _ _ (Nx.refl _ _) st (.str _)⟩
      · rw [if_neg c] at h
        exact h.elim
    | _ => exact h.elim

/-! ### isinstance -/
/-- x and a class -/
def rvI (P : Pg) (T : String) (b : Bi) : List V → Hp → VK → Prop := fun vs H Q => ∃ ms F S d v Ex, vs = [v, .ty T] ∧ Sto P H ms F S ∧ Rep P ms F v d ∧ Post P ms F false Q Ex (b.app [d] S)
theorem b_isi {T : String} {b : Bi} {f : PyData → Bool} (hK : P.K = X.K) (hb : ∀ d S, b.app [d] S = if d.pure then .ok (.bl (f d.py)) S else .bad)
    (rule : ∀ {s : Shared} {v : Value} {d : PyData} {as : List Addr} {Q : Value → Shared → Prop}, Reads s.heap v d as → (∀ tk, s.toks ≤ tk → Q (.bool (f d)) { s with toks := tk }) → wpAny (model X.prog X.w) X.A (call (.builtin "isinstance") [v, .type T]) Q X.xe s) :
    CallR X (.builtin "isinstance") (rvI P T b) := by
  intro pins s σ H xs us Q I r h
  obtain ⟨ms, F, S, d, v, Ex, rfl, st, rd, h⟩ := h
  rw [hb] at h
  obtain ⟨u, u2, rfl, ru, r2⟩ := Vals.two r
  cases r2
  by_cases c : d.pure = true
  · rw [if_pos c] at h
    obtain ⟨as, r1⟩ := Dp.reads I _ _ _ (hK ▸ Rep.dp st.sub c rd) ru
    exact rule r1 fun tk _ => ⟨.bl _, H, I.tok tk, rfl, h _ _ _ _ (Nx.refl _ _) st (.bl _)⟩
  · rw [if_neg c] at h
    exact h.elim
end SV
/-! SvH: calls of built-ins and their methods; the syntax's side. -/
namespace SV
open PySem PySem.Spec PyProof.Rows L2
variable {X : Cx} {pins : List (Addr × Obj)} {σ : L2.St} {H : Hp} {s : Shared} {P : Pg} {ms : List Addr} {F : Hp} {S : Store} {Ex : XQ}

/-! ### the syntax's side -/
def notStar : Expr → Bool
  | .Starred .. => false
  | _ => true
theorem star_cons {e : Expr} {es : List Expr} {env : PySem.Env} (h : notStar e = true) : starEach (e :: es) env = (false, eval e env) :: starEach es env := by
  cases e <;> first | rfl | cases h
theorem star_all : ∀ {es : List Expr} {env : PySem.Env}, es.all notStar = true → ∀ x ∈ starEach es env, x.1 = false
  | [], _, _, x, hx => by simp [starEach] at hx
  | e :: es, env, h, x, hx => by
    rw [List.all_cons, Bool.and_eq_true] at h
    rw [star_cons h.1] at hx
    rcases List.mem_cons.mp hx with rfl | hx
    · rfl
    · exact star_all h.2 x hx
theorem back_any {es : List Expr} {env : PySem.Env} {pos : Pos} (h : es.all notStar = true) : (backTo pos (starEach es env)).any (·.1) = false := by
  rw [List.any_eq_false]
  intro x hx
  unfold backTo at hx
  obtain ⟨⟨b, t⟩, hy, rfl⟩ := List.mem_map.mp hx
  have := star_all h _ hy
  simpa using this
theorem back_few {es : List Expr} {env : PySem.Env} {pos : Pos} (h : es.all notStar = true) (hl : es.length < 29) : ((backTo pos (starEach es env)).all (fun x => !x.1) && (backToKw pos (keywordEach [] env)).all (fun x => x.1.isSome)
      && decide (es.length + ([] : List Keyword).length + (if ([] : List Keyword).isEmpty then 0 else 1) < 30)) = true := by
  have h1 : (backTo pos (starEach es env)).all (fun x => !x.1) = true := by
    rw [List.all_eq_true]
    intro x hx
    unfold backTo at hx
    obtain ⟨⟨b, t⟩, hy, rfl⟩ := List.mem_map.mp hx
    have := star_all h _ hy
    simpa using this
  rw [h1]
  simp [keywordEach, backToKw]
  omega
/-- what a method may be asked of here -/
def baseOk : Expr → Bool
  | .Call _ [] _ _ => false
  | _ => true
theorem base_ok {o : Expr} {name : Str} {env : PySem.Env} {w : Sem Value} (h : baseOk o = true) : attributeBase o name env w = w := by
  cases o with
  | Call f as kw pos =>
    cases as with
    | nil => cases h
    | cons a as => cases f <;> rfl
  | _ => rfl
section
variable {a : Expr} {es : List Expr} {fs : Env → Store → R (List D)} {fa : Env → Store → R D} {W : WX} {x : Str} {p pos apos cpos : Pos} {T id : String} {fr : Bool} {app : List D → Store → R D}
theorem vis_glob {x : Str} (hd : (x == ("__debug__" : Str)) = false) : (x == ("__debug__" : Str)) = false := hd
/-- f(..), a built-in function -/
theorem s_callB (hc : ∀ Ex, CallR X (.builtin id) (rvN P fr Ex app)) (hg : Gl X x) (hm : X.mg x = none) (hv : bootBuiltins x = some (.builtin id)) (ha : PA X (a :: es) (tA P W fs)) (hn : x ≠ "__name__") (hdb : (x == ("__debug__" : Str)) = false)
    (h : (a :: es).all notStar = true) : PE X (.Call (.Name x p) (a :: es) [] pos) (tE P W fr (rowF fs app)) := by
  rw [List.all_cons, Bool.and_eq_true] at h
  refine ⟨fun pins s σ H Q I q => ?_⟩
  exact (pe_callB (hc (ExW P W σ)) hg hm hv ha hn hdb (star_cons h.1) (back_any h.2)).run pins s σ H Q I (t_row q)
/-- T(..), a built-in type -/
theorem s_callT (hc : ∀ Ex, CallR X (.type T) (rvN P fr Ex app)) (hg : Gl X x) (hm : X.mg x = none) (hv : bootBuiltins x = some (.type T)) (ha : PA X (a :: es) (tA P W fs)) (hn : x ≠ "__name__") (hdb : (x == ("__debug__" : Str)) = false)
    (h : (a :: es).all notStar = true) : PE X (.Call (.Name x p) (a :: es) [] pos) (tE P W fr (rowF fs app)) := by
  rw [List.all_cons, Bool.and_eq_true] at h
  refine ⟨fun pins s σ H Q I q => ?_⟩
  exact (pe_callTy (hc (ExW P W σ)) hg hm hv ha hn hdb (star_cons h.1) (back_any h.2)).run pins s σ H Q I (t_row q)
/-- isinstance(a, T) -/
theorem s_isi {y : Str} {p2 : Pos} {b : Bi} (hc : CallR X (.builtin "isinstance") (rvI P T b)) (hg : Gl X "isinstance") (hm : X.mg "isinstance" = none) (hg2 : Gl X y) (hm2 : X.mg y = none) (hv2 : bootBuiltins y = some (.type T)) (ha : PE X a (tE P W false fa)) (hn2 : y ≠ "__name__") (hdb2 : (y == ("__debug__" : Str)) = false)
    (h : notStar a = true) : PE X (.Call (.Name "isinstance" p) [a, .Name y p2] [] pos) (tE P W false fun env S => (fa env S).bind fun x S => b.app [x] S) := by
  have pa := pa_cons ha (pa_cons (pe_bltn (pos := p2) hg2 hm2 hv2 (v := .ty T) rfl hn2 hdb2) pa_nil) (star_cons h)
  refine (pe_callB hc hg hm (by decide +kernel) pa (by decide) (by decide) (star_cons h) (back_any (by rfl))).imp fun σ H Q ⟨env, ms, F, S, hs, st, q⟩ => ?_
  exact ⟨env, ms, F, S, hs, st, q.bind fun x S1 v H1 ms1 F1 nx st1 rx h1 => ⟨ms1, F1, S1, x, v, _, rfl, st1, rx, h1⟩⟩

/-! ### methods -/
/-- x is of the built-in type T, without a dict of its own -/
def Ty (X : Cx) (T : String) (x : V) (H : Hp) : Prop := ∀ (pins : List (Addr × Obj)) (s : Shared) (σ : L2.St) (v : Value), Inv X pins σ H s → RelV x v → s.TypeIs v T ∧ ∀ a, v = .ref a → ∃ ob, s.heap.get? a = some ob ∧ ob.dict = none
theorem ty_of {T : String} {x : V} {H : Hp} (h : tyV X.K T x H) : Ty X T x H := fun pins s σ v I r => tyV_is I r h
theorem ty_tup {a : Addr} {o : Obj} {xs : List V} (st : Sto P H ms F S) (e : F a = some (.frz o (.tup xs))) (d : o.dict = none) : Ty X "tuple" (.ref a) H := fun pins s σ v I r => by
  cases r
  obtain ⟨h1, h2⟩ := I.hok a _ (st.sub _ _ e)
  obtain ⟨_, its, _, ob, e2, c, _⟩ := h2
  rw [h1] at e2
  cases e2
  refine ⟨⟨o, h1, c⟩, fun b z => ?_⟩
  cases z
  exact ⟨o, h1, d⟩
def tMt (X : Cx) (T : String) (r : V → List V → Hp → VK → Prop) (to : TE) (t : TA) : TE := fun σ H Q => to σ H fun x H1 => Ty X T x H1 ∧ t σ H1 fun xs H2 => r x xs H2 Q
theorem pe_mt {o e : Expr} {to : TE} {t : TA} {name : Str} {r : V → List V → Hp → VK → Prop} (pa : PlainAttrs T) (slot : Slot T name id) (hty : typeOf (.builtin id) = pure (.type "method_descriptor")) (hm : MtR X id r) (ho : PE X o to) (ha : PA X (e :: es) t)
    (hb : baseOk o = true) (hl : (apos.endLine == cpos.line) = true) (hs : (e :: es).all notStar = true) (hz : (e :: es).length < 29) : PE X (.Call (.Attribute o name apos) (e :: es) [] cpos) (tMt X T r to t) := by
  have hs' : notStar e = true ∧ es.all notStar = true := by rwa [List.all_cons, Bool.and_eq_true] at hs
  refine ⟨fun pins s σ H Q I h => ?_⟩
  refine wpAny_Call_method_late (base_ok hb) (back_few hs hz) hl rfl (thn (ho.run pins s σ H _ I h) fun v s1 ⟨x, H1, I1, r1, ty, q1⟩ => ?_)
  obtain ⟨h1, h2⟩ := ty pins s1 σ v I1 r1
  refine ⟨T, id, pa, slot, hty, h1, h2, ?_⟩
  have hA := ha.run cpos pins s1 σ H1 _ I1 q1
  rw [star_cons hs'.1] at hA ⊢
  refine Calls.callWith_builtin (by show (false || (backTo cpos (starEach es X.env)).any (·.1)) = false; rw [back_any hs'.2]; rfl) (Calls.evalArgs_plain ?_)
  exact thn hA fun us s2 ⟨vs, H2, I2, r2, q2⟩ => hm pins s2 σ H2 x vs v us Q I2 r1 r2 q2
theorem pe_mt0 {o : Expr} {to : TE} {name : Str} {r : V → List V → Hp → VK → Prop} (pa : PlainAttrs T) (slot : Slot T name id) (hty : typeOf (.builtin id) = pure (.type "method_descriptor")) (hm : MtR X id r) (ho : PE X o to)
    (hb : baseOk o = true) (hl : (apos.endLine == cpos.line) = true) : PE X (.Call (.Attribute o name apos) [] [] cpos) (fun σ H Q => to σ H fun x H1 => Ty X T x H1 ∧ r x [] H1 Q) := by
  refine ⟨fun pins s σ H Q I h => ?_⟩
  refine wpAny_Call_method0_late (base_ok hb) hl (thn (ho.run pins s σ H _ I h) fun v s1 ⟨x, H1, I1, r1, ty, q1⟩ => ?_)
  obtain ⟨h1, h2⟩ := ty pins s1 σ v I1 r1
  exact ⟨T, id, pa, slot, hty, h1, h2, Calls.callWith_builtin rfl (PySem.evalArgs_none (hm pins s1 σ H1 x [] v [] Q I1 r1 .nil q1))⟩
/-- a method by values -/
def rvM (P : Pg) (fr : Bool) (Ex : XQ) (m : Mt) : V → List V → Hp → VK → Prop := fun x xs H Q => ∃ ms F S d l, Sto P H ms F S ∧ Rep P ms F x d ∧ RepL P ms F xs l ∧ Post P ms F fr Q Ex (m.app d l S)
noncomputable def mthF (m : Mt) (fo : Env → Store → R D) (fs : Env → Store → R (List D)) : Env → Store → R D := fun env S => (fo env S).bind fun x S => if m.recv x S then (fs env S).bind fun l S => m.app x l S else .bad
theorem s_mth {o e : Expr} {fo : Env → Store → R D} {name : Str} {m : Mt} (pa : PlainAttrs T) (slot : Slot T name id) (hty : typeOf (.builtin id) = pure (.type "method_descriptor")) (hm : ∀ Ex, MtR X id (rvM P fr Ex m))
    (ty : ∀ (H : Hp) (ms : List Addr) (F : Hp) (S : Store) (x : V) (d : D), Sto P H ms F S → Rep P ms F x d → m.recv d S = true → Ty X T x H)
    (ho : PE X o (tE P W false fo)) (ha : PA X (e :: es) (tA P W fs)) (hb : baseOk o = true) (hl : (apos.endLine == cpos.line) = true) (hs : (e :: es).all notStar = true) (hz : (e :: es).length < 29) :
    PE X (.Call (.Attribute o name apos) (e :: es) [] cpos) (tE P W fr (mthF m fo fs)) := by
  refine ⟨fun pins s σ H Q I q => ?_⟩
  refine (pe_mt pa slot hty (hm (ExW P W σ)) ho ha hb hl hs hz).run pins s σ H Q I ?_
  obtain ⟨env, ms, F, S, sl, st, q⟩ := q
  refine ⟨env, ms, F, S, sl, st, q.bind fun x S1 v H1 ms1 F1 nx st1 rx h1 => ?_⟩
  by_cases c : m.recv x S1 = true
  · rw [if_pos c] at h1
    refine ⟨ty H1 ms1 F1 S1 v x st1 rx c, env, ms1, F1, S1, sl.mono nx, st1, h1.row fun l S2 vs H2 ms2 F2 nx2 st2 rl h2 => ⟨ms2, F2, S2, x, l, st2, rx.mono nx2, rl, h2⟩⟩
  · rw [if_neg c] at h1
    exact h1.elim
theorem s_mth0 {o : Expr} {fo : Env → Store → R D} {name : Str} {m : Mt} (pa : PlainAttrs T) (slot : Slot T name id) (hty : typeOf (.builtin id) = pure (.type "method_descriptor")) (hm : ∀ Ex, MtR X id (rvM P fr Ex m))
    (ty : ∀ (H : Hp) (ms : List Addr) (F : Hp) (S : Store) (x : V) (d : D), Sto P H ms F S → Rep P ms F x d → m.recv d S = true → Ty X T x H)
    (ho : PE X o (tE P W false fo)) (hb : baseOk o = true) (hl : (apos.endLine == cpos.line) = true) :
    PE X (.Call (.Attribute o name apos) [] [] cpos) (tE P W fr (mthF m fo fun _ S => .ok [] S)) := by
  refine ⟨fun pins s σ H Q I q => ?_⟩
  refine (pe_mt0 pa slot hty (hm (ExW P W σ)) ho hb hl).run pins s σ H Q I ?_
  obtain ⟨env, ms, F, S, sl, st, q⟩ := q
  refine ⟨env, ms, F, S, sl, st, q.bind fun x S1 v H1 ms1 F1 nx st1 rx h1 => ?_⟩
  by_cases c : m.recv x S1 = true
  · rw [if_pos c] at h1
    exact ⟨ty H1 ms1 F1 S1 v x st1 rx c, ms1, F1, S1, x, [], st1, rx, .nil, h1⟩
  · rw [if_neg c] at h1
    exact h1.elim
end
/-! ### typing -/
theorem ty_str {m : Mt} (hm : ∀ d S, m.recv d S = true → ∃ z, d = .str z) (H : Hp) (ms : List Addr) (F : Hp) (S : Store) (x : V) (d : D) (st : Sto P H ms F S) (r : Rep P ms F x d) (c : m.recv d S = true) : Ty X "str" x H := by
  obtain ⟨z, rfl⟩ := hm d S c
  cases r
  exact ty_of rfl
theorem ty_cell {m : Mt} (hm : ∀ d S, m.recv d S = true → ∃ n l, d = .loc n ∧ S[n]? = some (.lst l)) (H : Hp) (ms : List Addr) (F : Hp) (S : Store) (x : V) (d : D) (st : Sto P H ms F S) (r : Rep P ms F x d) (c : m.recv d S = true) : Ty X "list" x H := by
  obtain ⟨n, l, rfl, e⟩ := hm d S c
  cases r with
  | loc h =>
    obtain ⟨_, xs, h1, _⟩ := st.cell _ _ _ h e
    exact ty_of (.inl ⟨rfl, xs, .inl (.inl h1)⟩)
theorem recv_cell {m : Mt} (h : m = .append ∨ m = .extend ∨ m = .pop ∨ m = .popAt ∨ m = .remove) (d : D) (S : Store) (c : m.recv d S = true) : ∃ n l, d = .loc n ∧ S[n]? = some (.lst l) := by
  rcases h with rfl | rfl | rfl | rfl | rfl <;> cases d <;> first | cases c | skip
  all_goals
    rename_i n
    refine ⟨n, ?_⟩
    cases q : S[n]? with
    | none => simp [Mt.recv, q] at c
    | some z =>
      cases z with
      | lst l => exact ⟨l, rfl, rfl⟩
      | _ => simp [Mt.recv, q] at c
/-- a method of one argument -/
theorem mt_one {m : Mt} {id : String} {fr : Bool} (h0 : ∀ d l S, (∀ y, l ≠ [y]) → m.app d l S = .bad)
    (k : ∀ (pins : List (Addr × Obj)) (s : Shared) (σ : L2.St) (H : Hp) (Q : VK) (ms : List Addr) (F : Hp) (S : Store) (x y : V) (d e : D) (v u : Value), Inv X pins σ H s → RelV x v → RelV y u → Sto P H ms F S → Rep P ms F x d → Rep P ms F y e → Post P ms F fr Q Ex (m.app d [e] S) →
      wpAny (model X.prog X.w) X.A (call (.builtin id) [v, u]) (EP X pins σ Q) X.xe s) : MtR X id (rvM P fr Ex m) := by
  intro pins s σ H x xs v us Q I rx rs h
  obtain ⟨ms, F, S, d, l, st, rd, rl, h⟩ := h
  have bad : (∀ y, l ≠ [y]) → wpAny (model X.prog X.w) X.A (call (.builtin id) (v :: us)) (EP X pins σ Q) X.xe s := fun z => by
    rw [h0 d l S z] at h
    exact h.elim
  cases rl with
  | nil => exact bad fun d => by simp
  | cons h1 h2 =>
    cases h2 with
    | cons _ _ => exact bad fun d => by simp
    | nil =>
      obtain ⟨u, rfl, ru⟩ := Vals.one rs
      exact k pins s σ H Q ms F S _ _ _ _ v u I rx ru st rd h1 h
theorem m_strip : MtR X "str.strip" (rvM P false Ex .strip) := by
  refine mt_one (fun d l S z => ?_) fun pins s σ H Q ms F S x y d e v u I rx ru st rd re h => ?_
  · match l, z with
    | [], _ => cases d <;> rfl
    | [y], z => exact absurd rfl (z y)
    | y :: _ :: _, _ => cases d <;> cases y <;> rfl
  · cases rd with
    | str a =>
      cases re with
      | str b =>
        have h : Post P ms F false Q Ex (if okLen a.length then .ok (.str (Txt.stripChars a b)) S else .bad) := h
        by_cases c : okLen a.length = true
        · rw [if_pos c] at h
          exact mt_stripChars pins s σ H _ _ v [u] Q I rx (.cons ru .nil) ⟨a, b, rfl, rfl, okLen_le c, h _ _ _ _ (Nx.refl _ _) st (.str _)⟩
        · rw [if_neg c] at h
          exact h.elim
      | _ => exact h.elim
    | _ => exact h.elim
theorem rep_strs : ∀ (l : List Str), RepL P ms F (l.map V.str) (l.map D.str)
  | [] => .nil
  | s :: l => .cons (.str s) (rep_strs l)
theorem m_split : MtR X "str.split" (rvM P true Ex .split) := by
  refine mt_one (fun d l S z => ?_) fun pins s σ H Q ms F S x y d e v u I rx ru st rd re h => ?_
  · match l, z with
    | [], _ => cases d <;> rfl
    | [y], z => exact absurd rfl (z y)
    | y :: _ :: _, _ => cases d <;> cases y <;> rfl
  · cases rd with
    | str a =>
      cases re with
      | str b =>
        have h : Post P ms F true Q Ex (if (okLen (a.length + 2) && !(b.length == 0)) = true then .ok (.lst ((Txt.split a b).map D.str)) S else .bad) := h
        by_cases c : (okLen (a.length + 2) && !(b.length == 0)) = true
        · rw [if_pos c] at h
          rw [Bool.and_eq_true] at c
          refine mt_split pins s σ H _ _ v [u] Q I rx (.cons ru .nil) ⟨a, b, rfl, rfl, by simpa using c.2, okLen_le c.1, fun p hp => ?_⟩
          obtain ⟨s1, f⟩ := st.fresh hp (rep_strs (Txt.split a b))
          exact h p _ _ _ (Nx.refl _ _) s1 f
        · rw [if_neg c] at h
          exact h.elim
      | _ => exact h.elim
    | _ => exact h.elim
theorem strsD_some : ∀ {l : List D} {ns : List Str}, strsD l = some ns → l = ns.map D.str
  | [], ns, h => by cases h; rfl
  | d :: l, ns, h => by
    cases d <;> simp [strsD] at h
    obtain ⟨m, h1, rfl⟩ := h
    rw [strsD_some h1] <;> rfl
theorem m_join (hK : P.K = X.K) : MtR X "str.join" (rvM P false Ex .join) := by
  refine mt_one (fun d l S z => ?_) fun pins s σ H Q ms F S x y d e v u I rx ru st rd re h => ?_
  · match l, z with
    | [], _ => cases d <;> rfl
    | [y], z => exact absurd rfl (z y)
    | y :: _ :: _, _ => cases d <;> cases y <;> rfl
  · cases rd with
    | str a =>
      have h : Post P ms F false Q Ex (match (e.items S).bind strsD with | some l => if okLen (joinLen a l) then .ok (.str (Txt.join a l)) S else .bad | none => .bad) := by
        cases e <;> exact h
      cases q : e.items S with
      | none =>
        rw [q] at h
        exact h.elim
      | some m =>
        rw [q] at h
        dsimp only [Option.bind] at h
        cases q2 : strsD m with
        | none =>
          rw [q2] at h
          exact h.elim
        | some ns =>
          rw [q2] at h
          have e2 := strsD_some q2
          subst e2
          dsimp only at h
          by_cases c : okLen (joinLen a ns) = true
          · rw [if_pos c] at h
            obtain ⟨p, ys, rfl, sq, rl⟩ := items_sq st re q
            have e3 := RepL.strs rl
            subst e3
            exact mt_join pins s σ H _ _ v [u] Q I rx (.cons ru .nil) ⟨a, p, ns, rfl, rfl, hK ▸ sq, okLen_le c, h _ _ _ _ (Nx.refl _ _) st (.str _)⟩
          · rw [if_neg c] at h
            exact h.elim
    | _ => exact h.elim
theorem m_scount : MtR X "str.count" (rvM P false Ex .scount) := by
  refine mt_one (fun d l S z => ?_) fun pins s σ H Q ms F S x y d e v u I rx ru st rd re h => ?_
  · match l, z with
    | [], _ => cases d <;> rfl
    | [y], z => exact absurd rfl (z y)
    | y :: _ :: _, _ => cases d <;> cases y <;> rfl
  · cases rd with
    | str a =>
      cases re with
      | str b => exact mt_count pins s σ H _ _ v [u] Q I rx (.cons ru .nil) ⟨a, b, rfl, rfl, h _ _ _ _ (Nx.refl _ _) st (.int _)⟩
      | _ => exact h.elim
    | _ => exact h.elim
theorem m_find : MtR X "str.find" (rvM P false Ex .find) := by
  refine mt_one (fun d l S z => ?_) fun pins s σ H Q ms F S x y d e v u I rx ru st rd re h => ?_
  · match l, z with
    | [], _ => cases d <;> rfl
    | [y], z => exact absurd rfl (z y)
    | y :: _ :: _, _ => cases d <;> cases y <;> rfl
  · cases rd with
    | str a =>
      cases re with
      | str b => exact mt_find pins s σ H _ _ v [u] Q I rx (.cons ru .nil) ⟨a, b, rfl, rfl, h _ _ _ _ (Nx.refl _ _) st (.int _)⟩
      | _ => exact h.elim
    | _ => exact h.elim
theorem cntD_some {l : List D} {x : D} {k : Nat} (h : cntD l x = some k) : x.pure = true ∧ D.pures l = true ∧ PyData.depth x.py ≤ 30 ∧ PyData.depthAll (D.pys l) ≤ 30 ∧ k = (D.pys l).countP fun y => PyData.eqv y x.py := by
  unfold cntD at h
  by_cases c : (x.pure && D.pures l && decide ((PyData.depth x.py) ≤ 30) && decide (PyData.depthAll (D.pys l) ≤ 30)) = true
  · rw [if_pos c] at h
    simp only [Bool.and_eq_true, decide_eq_true_eq] at c
    obtain ⟨⟨⟨c1, c2⟩, c3⟩, c4⟩ := c
    exact ⟨c1, c2, c3, c4, (Option.some.inj h).symm⟩
  · rw [if_neg c] at h
    cases h
theorem plcD_some {l : List D} {x : D} {k : Nat} (h : plcD l x = some k) : x.pure = true ∧ D.pures l = true ∧ PyData.depth x.py ≤ 30 ∧ PyData.depthAll (D.pys l) ≤ 30 ∧ okLen l.length = true ∧ SeqAt.dataPlace (D.pys l) x.py = some k := by
  unfold plcD at h
  by_cases c : (x.pure && D.pures l && decide ((PyData.depth x.py) ≤ 30) && decide (PyData.depthAll (D.pys l) ≤ 30) && okLen l.length) = true
  · rw [if_pos c] at h
    simp only [Bool.and_eq_true, decide_eq_true_eq] at c
    obtain ⟨⟨⟨⟨c1, c2⟩, c3⟩, c4⟩, c5⟩ := c
    exact ⟨c1, c2, c3, c4, c5, h⟩
  · rw [if_neg c] at h
    cases h
theorem cnt_list (hK : P.K = X.K) (hu : X.A.units + 64 < cLine) {Q : VK} {a : Addr} {ys : List V} {l : List D} {y : V} {e : D} {u : Value} (I : Inv X pins σ H s) (ru : RelV y u) (st : Sto P H ms F S) (re : Rep P ms F y e) (sq : SqL P.K H a ys) (rl : RepL P ms F ys l)
    (h : Post P ms F false Q Ex (cntR l e S)) : wpAny (model X.prog X.w) X.A (call (.builtin "list.count") [.ref a, u]) (EP X pins σ Q) X.xe s := by
  unfold cntR at h
  cases q2 : cntD l e with
  | none =>
    rw [q2] at h
    exact h.elim
  | some k =>
    rw [q2] at h
    obtain ⟨c1, c2, c3, c4, rfl⟩ := cntD_some q2
    obtain ⟨as, r1⟩ := Dp.reads I _ _ _ (hK ▸ Rep.dp st.sub c1 re) ru
    rw [hK] at sq
    have dp : DpAll X.K H ys (D.pys l) := hK ▸ rl.dp st.sub c2
    obtain ⟨its, rv, pl, _⟩ := I.list sq
    obtain ⟨bs, ra⟩ := Dp.readsAll I _ _ _ dp rv
    exact SeqAt.count_list_data pl.isList ra r1 (plain_pys _) (plain_py _) (min_dep c4 hu) ⟨.int _, H, I.tok _, ⟨_, rfl⟩, h _ _ _ _ (Nx.refl _ _) st (.int _)⟩
theorem m_lcount (hK : P.K = X.K) (hu : X.A.units + 64 < cLine) : MtR X "list.count" (rvM P false Ex .lcount) := by
  refine mt_one (fun d l S z => ?_) fun pins s σ H Q ms F S x y d e v u I rx ru st rd re h => ?_
  · match l, z with
    | [], _ => cases d <;> rfl
    | [y], z => exact absurd rfl (z y)
    | y :: _ :: _, _ => cases d <;> cases y <;> rfl
  · cases rd with
    | @lst a xs l e1 r1 =>
      cases rx
      exact cnt_list hK hu I ru st re (.inl (.inl (st.sub _ _ e1))) r1 h
    | @loc a n e1 =>
      cases rx
      cases q : S[n]? with
      | none =>
        simp only [Mt.app, q] at h
        exact h.elim
      | some c =>
        cases c with
        | lst l =>
          simp only [Mt.app, q] at h
          obtain ⟨_, xs, h1, h2⟩ := st.cell n a _ e1 q
          exact cnt_list hK hu I ru st re (.inl (.inl h1)) h2 h
        | _ =>
          simp only [Mt.app, q] at h
          exact h.elim
    | _ => exact h.elim
theorem m_tcount (hK : P.K = X.K) (hu : X.A.units + 64 < cLine) : MtR X "tuple.count" (rvM P false Ex .tcount) := by
  refine mt_one (fun d l S z => ?_) fun pins s σ H Q ms F S x y d e v u I rx ru st rd re h => ?_
  · match l, z with
    | [], _ => cases d <;> rfl
    | [y], z => exact absurd rfl (z y)
    | y :: _ :: _, _ => cases d <;> cases y <;> rfl
  · cases rd with
    | @tup a o xs l e1 d1 r1 =>
      cases rx
      replace h : Post P ms F false Q Ex (cntR l e S) := h
      unfold cntR at h
      cases q2 : cntD l e with
      | none =>
        rw [q2] at h
        exact h.elim
      | some k =>
        rw [q2] at h
        obtain ⟨c1, c2, c3, c4, rfl⟩ := cntD_some q2
        obtain ⟨as, r0⟩ := Dp.reads I _ _ _ (hK ▸ Rep.dp st.sub c1 re) ru
        have dp : DpAll X.K H xs (D.pys l) := hK ▸ r1.dp st.sub c2
        obtain ⟨its, rv, pl, _⟩ := I.tuple (X := X) (a := a) (xs := xs) (.inl (.inr ⟨o, st.sub _ _ e1⟩))
        obtain ⟨bs, ra⟩ := Dp.readsAll I _ _ _ dp rv
        exact SeqAt.count_tuple_data pl ra r0 (plain_pys _) (plain_py _) (min_dep c4 hu) ⟨.int _, H, I.tok _, ⟨_, rfl⟩, h _ _ _ _ (Nx.refl _ _) st (.int _)⟩
    | _ => exact h.elim
theorem m_tindex : MtR X "tuple.index" (rvM P false Ex .tindex) := by
  refine mt_one (fun d l S z => ?_) fun pins s σ H Q ms F S x y d e v u I rx ru st rd re h => ?_
  · match l, z with
    | [], _ => cases d <;> rfl
    | [y], z => exact absurd rfl (z y)
    | y :: _ :: _, _ => cases d <;> cases y <;> rfl
  · cases rd with
    | @tup a o xs l e1 d1 r1 =>
      cases re with
      | str z =>
        replace h : Post P ms F false Q Ex (match (strsD l).bind (idxS · z) with | some k => .ok (.int (k : Int)) S | none => .bad) := h
        cases q : strsD l with
        | none =>
          rw [q] at h
          exact h.elim
        | some ns =>
          rw [q] at h
          have e2 := strsD_some q
          subst e2
          have e3 := RepL.strs r1
          subst e3
          dsimp only [Option.bind] at h
          cases q2 : idxS ns z with
          | none =>
            rw [q2] at h
            exact h.elim
          | some k =>
            rw [q2] at h
            unfold idxS at q2
            rw [List.findIdx?_eq_some_iff_getElem] at q2
            obtain ⟨hk, hz, hno⟩ := q2
            have hz := of_decide_eq_true hz
            refine mt_tup_index pins s σ H _ _ v [u] Q I rx (.cons ru .nil) ⟨a, ns, z, k, rfl, rfl, .inl (.inr ⟨o, st.sub _ _ e1⟩), by rw [List.getElem?_eq_getElem hk, hz], fun m hm e4 => ?_, h _ _ _ _ (Nx.refl _ _) st (.int _)⟩
            have hm' : m < ns.length := Nat.lt_trans hm hk
            rw [List.getElem?_eq_getElem hm'] at e4
            have := hno m hm
            simp [Option.some.inj e4] at this
      | _ => exact h.elim
    | _ => exact h.elim

/-! ### a list in a cell changed -/
theorem m_append : MtR X "list.append" (rvM P false Ex .append) := by
  refine mt_one (fun d l S z => ?_) fun pins s σ H Q ms F S x y d e v u I rx ru st rd re h => ?_
  · match l, z with
    | [], _ => cases d <;> rfl
    | [y], z => exact absurd rfl (z y)
    | y :: _ :: _, _ => cases d <;> cases y <;> rfl
  · cases rd with
    | @loc a n e1 =>
      cases q : S[n]? with
      | none =>
        simp only [Mt.app, q] at h
        exact h.elim
      | some c =>
        cases c with
        | lst l =>
          simp only [Mt.app, q] at h
          obtain ⟨_, xs, h1, h2⟩ := st.cell n a _ e1 q
          by_cases c : okLen l.length = true
          · rw [if_pos c] at h
            exact mt_append pins s σ H _ _ v [u] Q I rx (.cons ru .nil) ⟨a, xs, y, rfl, rfl, h1, by rw [h2.length]; exact okLen_lt c, h _ _ _ _ (Nx.refl _ _) (st.write e1 q (h2.snoc re)) .non⟩
          · rw [if_neg c] at h
            exact h.elim
        | _ =>
          simp only [Mt.app, q] at h
          exact h.elim
    | _ => exact h.elim
theorem m_extend : MtR X "list.extend" (rvM P false Ex .extend) := by
  refine mt_one (fun d l S z => ?_) fun pins s σ H Q ms F S x y d e v u I rx ru st rd re h => ?_
  · match l, z with
    | [], _ => cases d <;> rfl
    | [y], z => exact absurd rfl (z y)
    | y :: _ :: _, _ => cases d <;> cases y <;> rfl
  · cases rd with
    | @loc a n e1 =>
      cases re with
      | @lst b zs m e2 r2 =>
        cases q : S[n]? with
        | none =>
          simp only [Mt.app, q] at h
          exact h.elim
        | some c =>
          cases c with
          | lst l =>
            simp only [Mt.app, q] at h
            obtain ⟨_, xs, h1, h2⟩ := st.cell n a _ e1 q
            by_cases c : okLen (l.length + m.length) = true
            · rw [if_pos c] at h
              exact mt_extend pins s σ H _ _ v [u] Q I rx (.cons ru .nil) ⟨a, b, xs, zs, rfl, rfl, h1, st.sub _ _ e2, by rw [h2.length, r2.length]; exact okLen_le c, h _ _ _ _ (Nx.refl _ _) (st.write e1 q (h2.append r2)) .non⟩
            · rw [if_neg c] at h
              exact h.elim
          | _ =>
            simp only [Mt.app, q] at h
            exact h.elim
      | _ => exact h.elim
    | _ => cases re <;> exact h.elim
theorem m_pop : MtR X "list.pop" (rvM P false Ex .pop) := by
  intro pins s σ H x xs v us Q I rx rs h
  obtain ⟨ms, F, S, d, l, st, rd, rl, h⟩ := h
  cases rl with
  | cons h1 h2 => cases rd <;> first | exact h.elim | (cases h1 <;> exact h.elim)
  | nil =>
    cases rd with
    | @loc a n e1 =>
      cases q : S[n]? with
      | none =>
        simp only [Mt.app, q] at h
        exact h.elim
      | some c =>
        cases c with
        | lst l =>
          simp only [Mt.app, q] at h
          obtain ⟨_, xs, h1, h2⟩ := st.cell n a _ e1 q
          cases q2 : l.getLast? with
          | none =>
            rw [q2] at h
            exact h.elim
          | some y =>
            rw [q2] at h
            rw [List.getLast?_eq_getElem?] at q2
            obtain ⟨w, hw, rw'⟩ := h2.get q2
            exact mt_pop pins s σ H _ _ v us Q I rx rs ⟨a, xs, w, rfl, rfl, h1, by rw [h2.length]; exact hw, h _ _ _ _ (Nx.refl _ _) (st.write e1 q h2.dropLast) rw'⟩
        | _ =>
          simp only [Mt.app, q] at h
          exact h.elim
    | _ => exact h.elim
theorem m_popAt : MtR X "list.pop" (rvM P false Ex .popAt) := by
  refine mt_one (fun d l S z => ?_) fun pins s σ H Q ms F S x y d e v u I rx ru st rd re h => ?_
  · match l, z with
    | [], _ => cases d <;> rfl
    | [y], z => exact absurd rfl (z y)
    | y :: _ :: _, _ => cases d <;> cases y <;> rfl
  · cases rd with
    | @loc a n e1 =>
      cases re with
      | int i =>
        cases q : S[n]? with
        | none =>
          simp only [Mt.app, q] at h
          exact h.elim
        | some c =>
          cases c with
          | lst l =>
            cases l with
            | nil =>
              simp only [Mt.app, q] at h
              exact h.elim
            | cons w l =>
              simp only [Mt.app, q] at h
              obtain ⟨_, xs, h1, h2⟩ := st.cell n a _ e1 q
              by_cases c : i = 0
              · rw [if_pos c] at h
                subst c
                cases h2 with
                | @cons w' xs' _ _ r1 r2 =>
                  exact mt_popAt pins s σ H _ _ v [u] Q I rx (.cons ru .nil) ⟨a, _, 0, 0, w', rfl, rfl, h1, by decide, by decide, by simp [seqIndex?], rfl, h _ _ _ _ (Nx.refl _ _) (st.write e1 q r2) r1⟩
              · rw [if_neg c] at h
                exact h.elim
          | _ =>
            simp only [Mt.app, q] at h
            exact h.elim
      | _ => exact h.elim
    | _ => cases re <;> exact h.elim

/-! ### more methods -/
theorem vals_erase : ∀ {xs : List V} {us : List Value} (r : Vals xs us) (k : Nat), Vals (xs.eraseIdx k) (us.eraseIdx k)
  | _, _, .nil, _ => .nil
  | _, _, .cons r t, 0 => t
  | _, _, .cons r t, k + 1 => .cons r (vals_erase t k)
theorem m_remove (hK : P.K = X.K) (hu : X.A.units + 64 < cLine) : MtR X "list.remove" (rvM P false Ex .remove) := by
  refine mt_one (fun d l S z => ?_) fun pins s σ H Q ms F S x y d e v u I rx ru st rd re h => ?_
  · match l, z with
    | [], _ => cases d <;> rfl
    | [y], z => exact absurd rfl (z y)
    | y :: _ :: _, _ => cases d <;> cases y <;> rfl
  · cases rd with
    | @loc a n e1 =>
      cases q : S[n]? with
      | none =>
        simp only [Mt.app, q] at h
        exact h.elim
      | some c =>
        cases c with
        | lst l =>
          simp only [Mt.app, q] at h
          obtain ⟨_, xs, h1, h2⟩ := st.cell n a _ e1 q
          cases q2 : plcD l e with
          | none =>
            rw [q2] at h
            exact h.elim
          | some k =>
            rw [q2] at h
            obtain ⟨c1, c2, c3, c4, c5, c6⟩ := plcD_some q2
            cases rx
            obtain ⟨as, r1⟩ := Dp.reads I _ _ _ (hK ▸ Rep.dp st.sub c1 re) ru
            have dp : DpAll X.K H xs (D.pys l) := hK ▸ h2.dp st.sub c2
            obtain ⟨its, nn, rv, ho, hz⟩ := I.lst h1
            obtain ⟨bs, ra⟩ := Dp.readsAll I _ _ _ dp rv
            have er : RepL P ms F (xs.eraseIdx k) (l.eraseIdx k) := by
              rw [List.eraseIdx_eq_take_drop_succ, List.eraseIdx_eq_take_drop_succ]
              exact (h2.take _).append (h2.drop _)
            refine SeqAt.remove_list_data (vs := its.toArray) ⟨_, ho, rfl, _, rfl⟩ ra r1 (plain_pys _) (plain_py _) (min_dep c4 hu) c6 (by rw [List.size_toArray, ← rv.length]; exact hz) ⟨.non, upd H a (.lst (xs.eraseIdx k)), ?_, rfl, h _ _ _ _ (Nx.refl _ _) (st.write e1 q er) .non⟩
            have hm : ∃ n2, Obj.mapSeq (fun ys => ys.eraseIdxIfInBounds k) { cls := .type "list", data := .seq its.toArray nn } = { cls := .type "list", data := .seq (its.eraseIdx k).toArray n2 } := ⟨_, by simp [Obj.mapSeq]; rfl⟩
            obtain ⟨n2, hm⟩ := hm
            exact I.lstUpd h1 ho hm (vals_erase rv k) (by rw [List.length_eraseIdx]; split <;> omega) _
        | _ =>
          simp only [Mt.app, q] at h
          exact h.elim
    | _ => exact h.elim
theorem m_get (hp : P.prog = X.prog) (hw : P.w = X.w) (hu : X.A.units + 64 < cLine) : MtR X "dict.get" (rvM P false Ex .get) := by
  refine mt_one (fun d l S z => ?_) fun pins s σ H Q ms F S x y d e v u I rx ru st rd re h => ?_
  · match l, z with
    | [], _ => cases d <;> rfl
    | [y], z => exact absurd rfl (z y)
    | y :: _ :: _, _ => cases d <;> cases y <;> rfl
  · cases rd with
    | @loc a n e1 =>
      cases q : S[n]? with
      | none =>
        simp only [Mt.app, q] at h
        exact h.elim
      | some c =>
        cases c with
        | dct l =>
          simp only [Mt.app, q] at h
          by_cases ok : okIn l e = true
          · rw [if_pos ok] at h
            cases rx
            exact dc_get1 hu hp hw I st e1 q ok re ru fun v' w' s' I' r' rd' => ⟨v', H, I', r', h _ _ _ _ (Nx.refl _ _) st rd'⟩
          · rw [if_neg ok] at h
            exact h.elim
        | _ =>
          simp only [Mt.app, q] at h
          exact h.elim
    | _ => exact h.elim
theorem idx_list {Q : VK} {a : Addr} {ys : List V} {l : List D} {y : V} {e : D} {u : Value} (hK : P.K = X.K) (I : Inv X pins σ H s) (ru : RelV y u) (st : Sto P H ms F S) (re : Rep P ms F y e) (sq : SqL P.K H a ys) (rl : RepL P ms F ys l)
    (h : Post P ms F false Q Ex (plcR l e S)) : wpAny (model X.prog X.w) X.A (call (.builtin "list.index") [.ref a, u]) (EP X pins σ Q) X.xe s := by
  unfold plcR at h
  cases q : boolsD l with
  | none =>
    rw [q] at h
    exact h.elim
  | some bs =>
    rw [q] at h
    have e2 := boolsD_some q
    subst e2
    have e3 := rep_bls rl
    subst e3
    cases re with
    | bl b =>
      dsimp only at h
      cases q2 : bs.findIdx? fun z => z == b with
      | none =>
        rw [q2] at h
        exact h.elim
      | some k =>
        rw [q2] at h
        rw [List.findIdx?_eq_some_iff_getElem] at q2
        obtain ⟨hk, hz, hno⟩ := q2
        refine mt_index pins s σ H (.ref a) [.bl b] (.ref a) [u] Q I rfl (.cons ru .nil) ⟨a, bs.map V.bl, .bl b, k, .bl bs[k], rfl, rfl, hK ▸ sq, rfl, ?_, by simp [hk], ?_, fun m z' hm e4 => ?_, h _ _ _ _ (Nx.refl _ _) st (.int _)⟩
        · rw [List.all_eq_true]
          intro x hx
          obtain ⟨c, _, rfl⟩ := List.mem_map.mp hx
          rfl
        · have : bs[k] = b := by simpa using hz
          rw [this]
          cases b <;> rfl
        · rw [List.getElem?_map, List.getElem?_eq_getElem (Nat.lt_trans hm hk)] at e4
          cases e4
          have := hno m hm
          cases hb : bs[m] <;> cases b <;> simp_all <;> rfl
    | _ => exact h.elim
theorem m_lindex (hK : P.K = X.K) : MtR X "list.index" (rvM P false Ex .lindex) := by
  refine mt_one (fun d l S z => ?_) fun pins s σ H Q ms F S x y d e v u I rx ru st rd re h => ?_
  · match l, z with
    | [], _ => cases d <;> rfl
    | [y], z => exact absurd rfl (z y)
    | y :: _ :: _, _ => cases d <;> cases y <;> rfl
  · cases rd with
    | @lst a xs l e1 r1 =>
      cases rx
      exact idx_list hK I ru st re (.inl (.inl (st.sub _ _ e1))) r1 h
    | @loc a n e1 =>
      cases rx
      cases q : S[n]? with
      | none =>
        simp only [Mt.app, q] at h
        exact h.elim
      | some c =>
        cases c with
        | lst l =>
          simp only [Mt.app, q] at h
          obtain ⟨_, xs, h1, h2⟩ := st.cell n a _ e1 q
          exact idx_list hK I ru st re (.inl (.inl h1)) h2 h
        | _ =>
          simp only [Mt.app, q] at h
          exact h.elim
    | _ => exact h.elim
theorem m_sindex : MtR X "str.index" (rvM P false Ex .sindex) := by
  refine mt_one (fun d l S z => ?_) fun pins s σ H Q ms F S x y d e v u I rx ru st rd re h => ?_
  · match l, z with
    | [], _ => cases d <;> rfl
    | [y], z => exact absurd rfl (z y)
    | y :: _ :: _, _ => cases d <;> cases y <;> rfl
  · cases rd with
    | str a =>
      cases re with
      | str b =>
        have h : Post P ms F false Q Ex (match Builtin.Str.occurrences a b 0 a.length 1 with | i :: _ => .ok (.int (i : Int)) S | [] => .bad) := h
        cases q : Builtin.Str.occurrences a b 0 a.length 1 with
        | nil =>
          rw [q] at h
          exact h.elim
        | cons i rest =>
          rw [q] at h
          exact mt_sindex pins s σ H _ _ v [u] Q I rx (.cons ru .nil) ⟨a, b, i, rest, rfl, rfl, q, h _ _ _ _ (Nx.refl _ _) st (.int _)⟩
      | _ => exact h.elim
    | _ => exact h.elim
/-- what a dict's method is of -/
theorem ty_dct (H : Hp) (ms : List Addr) (F : Hp) (S : Store) (x : V) (d : D) (st : Sto P H ms F S) (r : Rep P ms F x d) (c : Mt.get.recv d S = true) : Ty X "dict" x H := by
  cases r with
  | @loc a n e =>
    cases q : S[n]? with
    | none => simp [Mt.recv, q] at c
    | some z =>
      cases z with
      | dct l =>
        obtain ⟨hF, hl, ⟨kvs, h1, h2⟩ | ⟨hs, kvs, h1, h2⟩⟩ := st.cell n a _ e q
        · intro pins s σ v I rv
          cases rv
          obtain ⟨t1, t2, _⟩ := isD_at I (.inl ⟨kvs, .inl h1⟩)
          exact ⟨t1, t2⟩
        · intro pins s σ v I rv
          cases rv
          obtain ⟨⟨xs, r, o, es, ep, g1, g2, g3, g4, g5⟩, _, _⟩ := I.hok a _ h1
          exact ⟨⟨o, g1, g2.1⟩, fun b z => by cases z; exact ⟨o, g1, g2.2.1⟩⟩
      | _ => simp [Mt.recv, q] at c
  | _ => cases c
end SV
/-! SvSet: sets of texts and whole numbers: made of a list, walked. -/
namespace SV
open PySem PySem.Spec PyProof.Rows L2
/-- a value's key -/
def kOf : Value → Key
  | .int i _ => .inl i
  | .str x _ => .inr x
  | _ => .inl 0
def kE (e : Int × Value) : Key := kOf e.2
theorem kOf_is {k : Key} {v : Value} (h : keyIs k v = true) : kOf v = k := by
  rcases keyIs_shape h with ⟨i, t, rfl, rfl⟩ | ⟨x, t, rfl, rfl⟩ <;> rfl
def EOk (w : World) (e : Int × Value) : Prop := keyIs (kE e) e.2 = true ∧ e.1 = keyH w (kE e)
/-- the set at a: its members are l's -/
def SetQ (w : World) (h : Heap) (a : Addr) (l : List Key) : Prop :=
  ∃ o es ep t, (h.get? a = some o ∧ o.ExactSet ∧ o.data = .set es ep t) ∧ ((∀ e ∈ es.toList, EOk w e) ∧ (es.toList.map kE).Nodup ∧ (∀ k, k ∈ l ↔ k ∈ es.toList.map kE)) ∧
    (es.size ≤ l.length ∧ es.size < scanBound ∧ t.fits es.size = true ∧ Ris t.place.toList ∧ (w.params.followText "set-order" = true ∨ t.led = true))
section
variable {pr : Program} {w : World} {A : Around} {E : Value → Shared → Prop} {s : Shared} {a : Addr} {l : List Key}
theorem SetQ.keep {h h' : Heap} (q : SetQ w h a l) (k : ∀ o, h.get? a = some o → h'.get? a = some o) : SetQ w h' a l :=
  let ⟨o, es, ep, t, ⟨ho, r1⟩, r⟩ := q
  ⟨o, es, ep, t, ⟨k o ho, r1⟩, r⟩
theorem EOk.scan {e : Int × Value} (h : EOk w e) : e.2.scannable = true := by
  rcases keyIs_shape h.1 with ⟨i, t, _, h2⟩ | ⟨x, t, _, h2⟩ <;> rw [h2] <;> rfl
theorem eok_elems {es : List (Int × Value)} (g : ∀ e ∈ es, EOk w e) : ElemsOf (mixKind pr w) es := fun e he => ⟨⟨kE e, (g e he).1, (g e he).2⟩, (g e he).scan⟩
theorem kE_iff {e : Int × Value} (h : EOk w e) (k : Key) : keyIs k e.2 = true ↔ kE e = k := ⟨fun z => kOf_is z, fun z => z ▸ h.1⟩
/-- the last steps of an adding -/
theorem add_end {g : Bool → Sem Unit} (hg : ∀ (b : Bool) (s₁ : Shared) (Q' : Unit → Shared → Prop), Q' () s₁ → wpAny (model pr w) A (g b) Q' E s₁) {o : Obj} {es eq1 : Array (Int × Value)} {ep : Nat} {t tq : SetTable}
    (base : s.heap.get? a = some o ∧ o.ExactSet ∧ o.data = .set es ep t) (inn : (∀ e ∈ eq1.toList, EOk w e) ∧ (eq1.toList.map kE).Nodup ∧ (∀ k, k ∈ l ↔ k ∈ eq1.toList.map kE)) (sz : eq1.size ≤ l.length ∧ eq1.size < scanBound)
    (tb : tq.fits eq1.size = true ∧ Ris tq.place.toList ∧ (w.params.followText "set-order" = true ∨ tq.led = true)) {wd : Bool} {Z : Option Bool → Shared → Prop}
    (hZ : ∀ h', Heap.SameBut a s.heap h' → SetQ w h' a l → Z (some true) { s with heap := h' }) :
    wpAny (model pr w) A (do
      storeSet a eq1 tq
      if (!wd && tq.tooFull) = true then do
        g (relayAll tq eq1 (SetTable.grown eq1.size)).2.2
        storeSet a (relayAll tq eq1 (SetTable.grown eq1.size)).1 (relayAll tq eq1 (SetTable.grown eq1.size)).2.1
        pure (some true)
      else pure (some true)) Z E s := by
  obtain ⟨ho, hx, hd⟩ := base
  obtain ⟨i1, i2, i3⟩ := inn
  refine wpAny_bind (wpAny_storeSet_of ho hd ?_ (fits_of_scanBound sz.2))
  have n1 := store_at (es' := eq1) (t' := tq) ho hd
  have b1 := Heap.SameBut.update s.heap a (Obj.putSet eq1 tq)
  by_cases c : (!wd && tq.tooFull) = true
  · rw [if_pos c]
    have q1 := relayAll_perm tq eq1 (SetTable.grown eq1.size)
    have q2 := relayAll_fits tq eq1 (SetTable.grown eq1.size)
    have q3 := relayAll_ris tq eq1 (SetTable.grown eq1.size)
    have q4 := relayAll_led tq eq1 (SetTable.grown eq1.size)
    generalize relayAll tq eq1 (SetTable.grown eq1.size) = Y at q1 q2 q3 q4 ⊢
    obtain ⟨eq2, tr, gv⟩ := Y
    dsimp only at q1 q2 q3 q4 ⊢
    have zs : eq2.size = eq1.size := by
      have := q1.length_eq
      rwa [Array.length_toList, Array.length_toList] at this
    have zb : eq2.size < scanBound := zs ▸ sz.2
    refine wpAny_bind (hg _ _ _ (wpAny_bind (wpAny_storeSet_of n1 rfl ?_ (fits_of_scanBound zb))))
    have n2 := store_at (es' := eq2) (t' := tr) n1 rfl
    refine wpAny_pure (hZ _ (b1.trans (Heap.SameBut.update _ a _)) ⟨_, eq2, _, tr, ⟨n2, hx, rfl⟩, ⟨fun e he => i1 e (q1.mem_iff.mp he), (q1.map kE).nodup_iff.mpr i2, fun k => (i3 k).trans (q1.map kE).mem_iff.symm⟩, ?_⟩)
    exact ⟨zs ▸ sz.1, zb, q2, q3, tb.2.2.imp id fun z => q4 ▸ z⟩
  · rw [if_neg c]
    exact wpAny_pure (hZ _ b1 ⟨_, eq1, _, tq, ⟨n1, hx, rfl⟩, ⟨i1, i2, i3⟩, sz.1, sz.2, tb⟩)
theorem add_key {k : Key} {v : Value} {Q : Bool → Shared → Prop} (hv : keyIs k v = true) (R : SetQ w s.heap a l) (room : l.length + 1 < scanBound)
    (hQ : ∀ b h', Heap.SameBut a s.heap h' → SetQ w h' a (l ++ [k]) → Q b { s with heap := h' }) : wpAny (model pr w) A (setAddHashed a v (keyH w k)) Q E s := by
  obtain ⟨o, es, ep, t, ⟨ho, hx, hd⟩, ⟨i1, i2, i3⟩, z1, z2, z3, z4, z5⟩ := R
  have hsc : v.scannable = true := by rcases keyIs_shape hv with ⟨i, t, rfl, rfl⟩ | ⟨x, t, rfl, rfl⟩ <;> rfl
  have hel : ElemsOf (mixKind pr w) es.toList := eok_elems i1
  have hv' : (mixKind pr w).is k v = true := hv
  have hash : keyH w k = (mixKind pr w).hash k := rfl
  rw [hash]
  unfold setAddHashed setAddHashedIn
  refine wpAny_holding (wpAny_bind (wpAny_setState_of ho hd z3 ?_))
  dsimp only
  rw [byScan_of hsc z2 hel, if_pos rfl]
  unfold setAddByScan
  refine wpAny_bind (wpAny_bind (wpAny_rule (wpAny_bind (wpAny_setScan_of hv' ho hd z3 hel ?_))))
  have ml : l.length + 1 = (l ++ [k]).length := by simp
  cases hfi : List.findIdx? (fun e => (mixKind pr w).is k e.2) es.toList with
  | some j =>
    dsimp only
    obtain ⟨hj, pj, _⟩ := List.findIdx?_eq_some_iff_getElem.mp hfi
    have mem := List.getElem_mem hj
    have ek : kE es.toList[j] = k := (kE_iff (i1 _ mem) k).1 pj
    refine wpAny_pure (wpAny_pure ?_)
    refine hQ _ s.heap (Heap.SameBut.refl a s.heap) ⟨o, es, ep, t, ⟨ho, hx, hd⟩, ⟨i1, i2, fun q => ?_⟩, by omega, z2, z3, z4, z5⟩
    rw [List.mem_append, List.mem_singleton, i3 q]
    exact ⟨fun z => z.elim id fun z => z ▸ ek ▸ List.mem_map_of_mem mem, .inl⟩
  | none =>
    dsimp only
    have new : k ∉ es.toList.map kE := fun z => by
      obtain ⟨e, he, q⟩ := List.mem_map.mp z
      have c := List.findIdx?_eq_none_iff.mp hfi e he
      have c2 : (mixKind pr w).is k e.2 = true := (kE_iff (i1 e he) k).2 q
      rw [c2] at c
      cases c
    have gw : ∀ (b : Bool) {s₁ : Shared} {Q' : Unit → Shared → Prop}, Q' () s₁ → wpAny (model pr w) A (match b with | true => rule "set.scan.the-table-gave-way" | false => pure ()) Q' E s₁ := fun b s₁ Q' q => by
      cases b
      · exact wpAny_pure q
      · exact wpAny_rule q
    have q1 := layNew_perm t es ((mixKind pr w).hash k) v
    have q2 := layNew_fits t es ((mixKind pr w).hash k) v
    have q3 := layNew_ris t es ((mixKind pr w).hash k) v z4
    have q4 := layNew_led t es ((mixKind pr w).hash k) v
    generalize layNew t es ((mixKind pr w).hash k) v = Y at q1 q2 q3 q4 ⊢
    obtain ⟨eq1, to, wd, gv⟩ := Y
    dsimp only at q1 q2 q3 q4 ⊢
    rw [Array.toList_push] at q1
    have pc : eq1.toList.Perm (((mixKind pr w).hash k, v) :: es.toList) := q1.trans (List.perm_append_singleton _ _)
    have eke : kE ((mixKind pr w).hash k, v) = k := kOf_is hv
    have pk : (eq1.toList.map kE).Perm (k :: es.toList.map kE) := by
      have := pc.map kE
      rwa [List.map_cons, eke] at this
    have j1 : ∀ e ∈ eq1.toList, EOk w e := fun e he => by
      rcases List.mem_cons.mp (pc.mem_iff.mp he) with z | z
      · subst z
        exact ⟨eke.symm ▸ hv, by rw [eke]; rfl⟩
      · exact i1 e z
    have j2 : (eq1.toList.map kE).Nodup := pk.nodup_iff.mpr (List.nodup_cons.mpr ⟨new, i2⟩)
    have j3 : ∀ q, q ∈ l ++ [k] ↔ q ∈ eq1.toList.map kE := fun q => by
      rw [List.mem_append, List.mem_singleton, i3 q, pk.mem_iff, List.mem_cons]
      exact Or.comm
    have n1 : eq1.size = es.size + 1 := by
      have := pc.length_eq
      rwa [List.length_cons, Array.length_toList, Array.length_toList] at this
    have led : w.params.followText "set-order" = true ∨ to.led = true := z5.imp id fun z => q4 ▸ z
    have sz : eq1.size ≤ (l ++ [k]).length ∧ eq1.size < scanBound := ⟨by omega, by omega⟩
    refine wpAny_bind (gw _ ?_)
    split
    · refine wpAny_bind ?_
      rw [hashByValue_scannable 8 hsc]
      refine wpAny_pure (add_end ?_ ⟨ho, hx, hd⟩ ⟨j1, j2, j3⟩ sz ⟨?_, ?_, ?_⟩ ?_)
      · intro b s₁ Q' q
        cases b
        · exact wpAny_pure q
        · exact wpAny_rule q
      · first | (split <;> first | exact q2 | exact SetTable.fits_plain_off q2) | exact q2
      · first | (split <;> exact q3) | exact q3
      · first | (split <;> exact led) | exact led
      · exact fun h' sb r => wpAny_pure (hQ _ h' sb r)
    · refine wpAny_bind (wpAny_pure ?_)
      rw [if_pos rfl]
      refine add_end ?_ ⟨ho, hx, hd⟩ ⟨j1, j2, j3⟩ sz ⟨q2, q3, led⟩ ?_
      · intro b s₁ Q' q
        cases b
        · exact wpAny_pure q
        · exact wpAny_rule q
      · exact fun h' sb r => wpAny_pure (hQ _ h' sb r)
theorem setQ_nil {h : Heap} (ho : h.get? a = some { cls := .type "set", dict := none, data := .set #[] 0 (.fresh 0 0 (!w.params.followText "set-order")) }) : SetQ w h a [] := by
  refine ⟨_, #[], 0, _, ⟨ho, ⟨rfl, rfl, rfl⟩, rfl⟩, ⟨fun e he => by simp at he, by simp, fun k => by simp⟩, Nat.le_refl _, by decide, by rfl, List.Pairwise.nil, ?_⟩
  show _ ∨ (!w.params.followText "set-order") = true
  cases w.params.followText "set-order"
  · exact .inr rfl
  · exact .inl rfl
/-- all that an iterator gives put into the set -/
theorem update_keys {I : Addr} {fp wr : List Addr} {Gn : Array GenState → Array GenState → Prop} {n : Nat} {Pv : Nat → Value → Prop} {St : Nat → Shared → Prop} {Z : Result → Shared → Prop}
    (W : WalksS pr w A.in1 I fp wr Gn n Pv St) (D : Addr) (nD : D ∉ fp) (ks : List Key) (hn : n = ks.length) (hb : ks.length + 1 < scanBound) (hval : ∀ i v, Pv i v → ∃ k, ks[i]? = some k ∧ keyIs k v = true) :
    ∀ (m i : Nat) (s : Shared), n - i = m → i ≤ n → St i s → SetQ w s.heap D (ks.take i) → (∀ s', Moved (D :: wr) Gn s s' → SetQ w s'.heap D ks → Z (.ok (.ret .none)) s') →
      codeAny (model pr w) A (.builtin "set.update.loop" ⟨[.ref D, .ref I], []⟩) Z s := by
  have nDw : D ∉ wr := fun z => nD (W.sub _ z)
  have sub : ∀ b ∈ wr, b ∈ D :: wr := fun _ z => List.mem_cons_of_mem _ z
  intro m
  induction m with
  | zero =>
    intro i s em hi hst hS hZ
    have e1 : i = n := by omega
    subst e1
    rw [show ks.take i = ks from List.take_of_length_le (by omega)] at hS
    refine codeAny_builtin F.entry_set_update_loop ?_
    rw [Around.under_plainId F.plain_set_update_loop _]
    show wpAny _ A.in1 (pyNext (.ref I) >>= _) _ _ s
    refine wpAny_bind (W.done s _ _ hst fun s' mv => ?_)
    exact wpAny_pure (hZ s' (mv.mono sub) (hS.keep fun o e => mv.heap D o nDw e))
  | succ m ih =>
    intro i s em hi hst hS hZ
    refine codeAny_builtin F.entry_set_update_loop ?_
    rw [Around.under_plainId F.plain_set_update_loop _]
    show wpAny _ A.in1 (pyNext (.ref I) >>= _) _ _ s
    refine wpAny_bind (W.item i s _ _ (by omega) hst fun v s' hP hst' mv => ?_)
    obtain ⟨k, hk, hkv⟩ := hval i v hP
    show wpAny _ A.in1 (holding [v] (setAdd D v) >>= _) _ _ s'
    refine wpAny_bind (wpAny_holding ?_)
    unfold setAdd
    refine wpAny_holding (wpAny_bind ((mixKind pr w).pyHash (k := k) hkv ?_))
    refine add_key (s := { s' with toks := s'.toks + 1 }) hkv (hS.keep fun o e => mv.heap D o nDw e) ?_ fun b h' sb hS2 => ?_
    · have : (ks.take i).length ≤ ks.length := by rw [List.length_take]; exact Nat.min_le_right _ _
      omega
    · have e3 : ks.take i ++ [k] = ks.take (i + 1) := by rw [List.take_add_one, hk]; rfl
      rw [e3] at hS2
      refine wpAny_pure ⟨plainId_quiet F.plain_set_update_loop _, ih (i + 1) _ (by omega) (by omega) (W.frame _ s' _ _ hst' (Nat.le_succ _) fun b hb o e => ?_) hS2 fun s'' mv2 hS3 => ?_⟩
      · exact (sb.2 b fun z => nD (z ▸ hb)).trans e
      · refine hZ s'' (Moved.trans W.gtrans ((mv.mono sub).then_heap (Nat.le_succ _) fun b o hb e => ?_) mv2) hS3
        exact (sb.2 b fun z => hb (z ▸ List.mem_cons_self)).trans e
end
end SV
/-! SvSet2: set(..) of a list, of a tuple. -/
namespace SV
open PySem PySem.Spec PyProof.Rows L2
/-- the object that set() begins with -/
abbrev set0 (w : World) : Obj := { cls := .type "set", dict := none, data := .set #[] 0 (.fresh 0 0 (!w.params.followText "set-order")) }
section
variable {pr : Program} {w : World} {A : Around} {E : Value → Shared → Prop} {s : Shared}
set_option maxHeartbeats 6400000 in
theorem call_set {c : Addr} (T : String) (hT : T = "list" ∨ T = "tuple") {items : Array Value} {ks : List Key} {Q : Value → Shared → Prop} (hh : A.handled = none)
    {oc : Obj} {nn : Nat} (hoc : s.heap.get? c = some oc) (hcl : oc.cls = .type T) (hdt : oc.data = .seq items nn) (hsz : items.size = ks.length) (hval : ∀ (i : Nat) (v : Value), items[i]? = some v → ∃ k, ks[i]? = some k ∧ keyIs k v = true) (hb : ks.length + 1 < scanBound)
    (h : ∀ (h' : Heap) (tk : Nat), SetQ w h' s.heap.objs.size ks → (∀ b o, s.heap.get? b = some o → h'.get? b = some o) → Q (.ref s.heap.objs.size) { s with heap := h', toks := tk }) :
    wpAny (model pr w) A (call (.type "set") [.ref c]) Q E s := by
  obtain ⟨mc, tl, hmro⟩ := F.called_set.mro
  have hmade := F.called_set.made
  have hsub := F.called_set.sub
  refine wpAny_call (codeAny_of_tree ?_)
  show wpAny _ _ (callAny (.type "set") _) _ _ _
  refine wpAny_pure ⟨Code.quiet_builtin _ (by decide +kernel), codeAny_builtin F.entry_type_call ?_⟩
  rw [Around.under_plain (weight_type_call_type "set" [.ref c] []) rfl]
  have f1 := F.called_set.notType
  have f2 := F.called_set.canCreate
  have f3 := F.typeCall_set_1 (.ref c)
  repeat (any_goals (first | assumption | wp_step))
  refine codeAny_mono (code_set_led1 (.ref c) (E := E) (Q₁ := fun u s₁ => u = .ref s.heap.objs.size ∧ s₁ = { s with heap := s.heap.push (set0 w) }) ⟨rfl, rfl⟩) fun r s₁ hr => ?_
  cases r with
  | error e => exact hr
  | ok fl =>
    cases fl with
    | ret u =>
      obtain ⟨rfl, rfl⟩ := hr
      have hS : (s.heap.push (set0 w)).get? s.heap.objs.size = some (set0 w) := Heap.get?_push_size _ rfl
      have hTy : Shared.TypeIs { s with heap := s.heap.push (set0 w) } (.ref s.heap.objs.size) "set" := ⟨_, hS, rfl⟩
      have g1 := F.called_set.init.lookup
      have g2 := F.called_set.init.bind (.ref s.heap.objs.size)
      repeat (any_goals (first | assumption | wp_step))
      refine codeAny_mono (codeAny_call_builtin (R := wants (fun r s₂ => r = .none ∧ ∃ h' tk, s₂ = { s with heap := h', toks := tk } ∧ SetQ w h' s.heap.objs.size ks ∧ (∀ b o, s.heap.get? b = some o → h'.get? b = some o)) E)
        F.called_set.init.plain F.entry_set_init (check_set_init_1 hTy ?_)) fun r₂ s₂ hr₂ => ?_
      · have lt : c < s.heap.objs.size := Heap.lt_size hoc
        have hh3 : A.in1.in1.in1.handled = none := by simp [hh]
        obtain ⟨ocls, odict, odata, oslots⟩ := oc
        simp only at hcl hdt
        subst hcl hdt
        have hoc1 : (s.heap.push (set0 w)).get? c = some { cls := .type T, dict := odict, data := .seq items nn, slots := oslots } := Heap.get?_push_of_some _ hoc
        have zz : (s.heap.push (set0 w)).objs.size = s.heap.objs.size + 1 := Heap.size_push ..
        have nI : c ≠ (s.heap.push (set0 w)).objs.size := by
          rw [zz]
          exact Nat.ne_of_lt (Nat.lt_succ_of_lt lt)
        have nD : s.heap.objs.size ∉ [(s.heap.push (set0 w)).objs.size, c] := by
          rw [zz]
          simp only [List.mem_cons, List.not_mem_nil, or_false, not_or]
          exact ⟨Nat.ne_of_lt (Nat.lt_succ_self _), Nat.ne_of_gt lt⟩
        have e0 : ∀ (O : Obj), ((s.heap.push (set0 w)).push O).get? s.heap.objs.size = some (set0 w) := fun O => Heap.get?_push_of_some _ hS
        -- behind the walk
        have last : ∀ (O : Obj) (s' : Shared), Moved [s.heap.objs.size, (s.heap.push (set0 w)).objs.size] (fun a b => b = a) { s with heap := (s.heap.push (set0 w)).push O } s' → SetQ w s'.heap s.heap.objs.size ks →
            Value.none = Value.none ∧ ∃ h' tk, s' = { s with heap := h', toks := tk } ∧ SetQ w h' s.heap.objs.size ks ∧ (∀ b o, s.heap.get? b = some o → h'.get? b = some o) := fun O s' mv hS' => by
          obtain ⟨h', gn, dr, tk, ow⟩ := s'
          have q1 : gn = s.gens := mv.gens
          have q2 : dr = s.drawn := mv.drawn
          have q3 : ow = s.os := mv.os
          subst q1 q2 q3
          refine ⟨rfl, h', tk, rfl, hS', fun b o e => ?_⟩
          have lb : b < s.heap.objs.size := Heap.lt_size e
          refine mv.heap b o ?_ (Heap.get?_push_of_some _ (Heap.get?_push_of_some _ e))
          rw [zz]
          simp only [List.mem_cons, List.not_mem_nil, or_false, not_or]
          exact ⟨Nat.ne_of_lt lb, Nat.ne_of_lt (Nat.lt_succ_of_lt lb)⟩
        rcases hT with rfl | rfl
        · have k1 := F.sub_list_set
          have k2 := F.sub_list_frozenset
          have k3 : (Value.type "list" == Value.type "dict") = false := by decide
          have hl1 : (s.heap.push (set0 w)).IsList c items := ⟨_, hoc1, rfl, nn, rfl⟩
          unfold Builtin.«set.__init__» noKeywords Builtin.Frozenset.updateFrom
          generalize hPI : pyIter = PI
          wp_walk
          subst hPI
          refine wpAny_pyIter_list hl1 (wpAny_bind (wpAny_runValue ?_))
          refine update_keys ((Walks.list hh3 _ c nI items).toS) s.heap.objs.size nD ks hsz hb hval (items.size - 0) 0 _ rfl (Nat.zero_le _) ⟨⟨_, Heap.get?_push_size _ rfl, rfl, rfl⟩, hl1.push _⟩ (setQ_nil (e0 _)) fun s' mv hS' => ?_
          show wpAny _ _ _ _ _ _
          refine wpAny_pure ?_
          show wpAny _ _ (ret Value.none) _ _ _
          exact wpAny_pure (last _ s' mv hS')
        · have k1 := F.sub_tuple_set
          have k2 := F.sub_tuple_frozenset
          have k3 : (Value.type "tuple" == Value.type "dict") = false := by decide
          have hl1 : (s.heap.push (set0 w)).IsTuple c items := ⟨_, hoc1, rfl, nn, rfl⟩
          unfold Builtin.«set.__init__» noKeywords Builtin.Frozenset.updateFrom
          generalize hPI : pyIter = PI
          wp_walk
          subst hPI
          refine wpAny_pyIter_tuple hl1 (wpAny_bind (wpAny_runValue ?_))
          refine update_keys ((Walks.tuple hh3 _ c nI items).toS) s.heap.objs.size nD ks hsz hb hval (items.size - 0) 0 _ rfl (Nat.zero_le _) ⟨⟨_, Heap.get?_push_size _ rfl, rfl, rfl⟩, hl1.push _⟩ (setQ_nil (e0 _)) fun s' mv hS' => ?_
          show wpAny _ _ _ _ _ _
          refine wpAny_pure ?_
          show wpAny _ _ (ret Value.none) _ _ _
          exact wpAny_pure (last _ s' mv hS')
      · cases r₂ with
        | error e => exact hr₂
        | ok fl₂ =>
          cases fl₂ with
          | ret r =>
            obtain ⟨rfl, h', tk, rfl, hS', hk'⟩ := hr₂
            repeat (any_goals (first | assumption | wp_step))
            exact h _ _ hS' hk'
          | _ => exact hr₂.elim
    | _ => exact hr.elim
end
end SV
/-! SvSet3: sorted(set(..)), len(set(..)). -/
namespace SV
open PySem PySem.Spec PyProof.Rows L2

/-! ### each once -/
theorem mem_dd : ∀ {l : List SKey} {k : SKey}, k ∈ dd l ↔ k ∈ l
  | [], k => Iff.rfl
  | x :: l, k => by
    unfold dd
    split
    · next h =>
      rw [mem_dd, List.mem_cons]
      exact ⟨.inr, fun z => z.elim (fun e => e ▸ h) id⟩
    · rw [List.mem_cons, List.mem_cons, mem_dd]
theorem nodup_dd : ∀ (l : List SKey), (dd l).Nodup
  | [] => List.nodup_nil
  | x :: l => by
    unfold dd
    split
    · exact nodup_dd l
    · next h => exact List.nodup_cons.mpr ⟨fun z => h (mem_dd.mp z), nodup_dd l⟩
theorem len_dd : ∀ (l : List SKey), (dd l).length ≤ l.length
  | [] => Nat.le_refl _
  | x :: l => by
    unfold dd
    have := len_dd l
    split
    · exact Nat.le_succ_of_le this
    · exact Nat.succ_le_succ this
theorem kD_toks {a b : SKey} (h : PySem.W.keyToks (kD a).py = PySem.W.keyToks (kD b).py) : a = b := by
  cases a <;> cases b <;> simp [kD, D.py, PySem.W.keyToks] at h
  · rw [h]
  · exact congrArg Sum.inr (PySem.W.str_of_cps (congrArg Array.toList h))
/-- a sorted list of keys does not hang on their order -/
theorem sort_keys {ks ms : List SKey} (p : ks.Perm ms) : sortD (ks.map kD) = sortD (ms.map kD) := by
  have T := PySem.W.sortLe_total (α := D) (PyProof.Rows.listOrd PyProof.Rows.itemOrd) false (fun b => PySem.W.keyToks b.py)
  have tot : ∀ a b : D, (PySem.W.dataLe false D.py a b || PySem.W.dataLe false D.py b a) = true := fun a b => by
    rw [Bool.or_eq_true]
    exact T.total a b
  have s1 := List.pairwise_mergeSort (le := PySem.W.dataLe false D.py) (fun a b c => T.trans a b c) tot (ks.map kD)
  have s2 := List.pairwise_mergeSort (le := PySem.W.dataLe false D.py) (fun a b c => T.trans a b c) tot (ms.map kD)
  have p2 : (sortD (ks.map kD)).Perm (sortD (ms.map kD)) := (sortD_perm _).trans ((p.map kD).trans (sortD_perm _).symm)
  refine p2.eq_of_pairwise (fun a b ha hb h1 h2 => ?_) s1 s2
  obtain ⟨k1, m1, rfl⟩ := List.mem_map.mp ((sortD_perm _).mem_iff.mp ha)
  obtain ⟨k2, m2, rfl⟩ := List.mem_map.mp ((sortD_perm _).mem_iff.mp hb)
  have q1 : (!(PyProof.Rows.listOrd PyProof.Rows.itemOrd).blt (PySem.W.keyToks (kD k2).py) (PySem.W.keyToks (kD k1).py)) = true := h1
  have q2 : (!(PyProof.Rows.listOrd PyProof.Rows.itemOrd).blt (PySem.W.keyToks (kD k1).py) (PySem.W.keyToks (kD k2).py)) = true := h2
  rw [Bool.not_eq_true'] at q1 q2
  rw [kD_toks ((PyProof.Rows.listOrd PyProof.Rows.itemOrd).total _ _ q2 q1)]
theorem ok_perm {ks ms : List SKey} (p : ks.Perm ms) (h : okKeys ms = true) : okKeys ks = true := by
  unfold okKeys at h ⊢
  rw [p.length_eq]
  simp only [Bool.and_eq_true, Bool.or_eq_true, List.all_eq_true] at h ⊢
  exact ⟨h.1.imp (fun z k hk => z k (p.mem_iff.mp hk)) (fun z k hk => z k (p.mem_iff.mp hk)), h.2⟩
theorem ok_dd {ks : List SKey} (h : okKeys ks = true) : okKeys (dd ks) = true := by
  unfold okKeys at h ⊢
  simp only [Bool.and_eq_true, Bool.or_eq_true, List.all_eq_true, decide_eq_true_eq] at h ⊢
  have := len_dd ks
  exact ⟨h.1.imp (fun z k hk => z k (mem_dd.mp hk)) (fun z k hk => z k (mem_dd.mp hk)), by omega⟩
theorem keys_alike {ks : List SKey} (h : okKeys ks = true) : PySem.W.AllAlike ((ks.map kD).map D.py) ∧ PySem.W.Sortable ((ks.map kD).map D.py) := by
  unfold okKeys at h
  simp only [Bool.and_eq_true, Bool.or_eq_true, List.all_eq_true] at h
  constructor
  · intro d hd d' hd'
    rw [List.map_map] at hd hd'
    obtain ⟨k, m, rfl⟩ := List.mem_map.mp hd
    obtain ⟨k', m', rfl⟩ := List.mem_map.mp hd'
    rcases h.1 with z | z
    · have a := z k m
      have b := z k' m'
      cases k <;> cases k' <;> first | rfl | (cases a; done) | (cases b; done)
    · have a := z k m
      have b := z k' m'
      cases k <;> cases k' <;> first | rfl | (cases a; done) | (cases b; done)
  · refine .inr fun d hd => ?_
    rw [List.map_map] at hd
    obtain ⟨k, m, rfl⟩ := List.mem_map.mp hd
    cases k <;> simp [kD, D.py]
/-! ### the set in the abstract heap -/
def SetX (w : World) (a : Addr) (l : List SKey) : HO := .ext fun h => SetQ w h a l
theorem setX_new {w : World} {pr : Program} {H : Hp} {h : Heap} {a : Addr} {l : List SKey} (q : SetQ w h a l) : ObjOk pr w H h a (SetX w a l) := by
  have ⟨o, _, _, _, ⟨ho, _⟩, _⟩ := q
  exact ⟨q, ⟨o, ho⟩, fun h1 h2 p k => SetQ.keep p k⟩
variable {X : Cx} {pins : List (Addr × Obj)} {σ : L2.St} {H : Hp} {s : Shared} {P : Pg} {ms : List Addr} {F : Hp} {S : Store} {Ex : XQ}
theorem setX_get {a : Addr} {l : List SKey} (I : Inv X pins σ H s) (ha : H a = some (SetX X.w a l)) : SetQ X.w s.heap a l := (I.hok a _ ha).1
theorem keys_vals : ∀ {l : List D} {ks : List SKey} {xs : List V} {us : List Value}, keysD l = some ks → RepL P ms F xs l → Vals xs us → us.length = ks.length ∧ ∀ (i : Nat) (v : Value), us[i]? = some v → ∃ k, ks[i]? = some k ∧ keyIs k v = true
  | [], ks, xs, us, e, r, h => by
    cases r
    cases h
    cases e
    exact ⟨rfl, fun i v z => by simp at z⟩
  | d :: l, ks, xs, us, e, r, h => by
    cases r with
    | cons r1 r2 =>
      cases h with
      | cons h1 h2 =>
        unfold keysD at e
        split at e
        · next k ks' e1 e2 =>
          cases e
          obtain ⟨n, ih⟩ := keys_vals e2 r2 h2
          refine ⟨by simp [n], fun i v z => ?_⟩
          cases i with
          | succ i => exact ih i v (by simpa using z)
          | zero =>
            have z : _ = v := Option.some.inj z
            subst z
            refine ⟨k, rfl, ?_⟩
            cases r1 with
            | int i =>
              cases e1
              obtain ⟨t, rfl⟩ := h1
              exact keyIs_int _ _
            | str x =>
              cases e1
              obtain ⟨t, rfl⟩ := h1
              exact keyIs_str _ _
            | _ => cases e1
        · cases e
/-- set(..) by values -/
def rvSet (X : Cx) (P : Pg) : List V → Hp → VK → Prop := fun vs H Q => ∃ ms F S v d l ks, vs = [v] ∧ Sto P H ms F S ∧ Rep P ms F v d ∧ d.items S = some l ∧ keysD l = some ks ∧ okKeys ks = true ∧ ∀ p, H p = none → Q (.ref p) (upd H p (SetX X.w p ks))
theorem c_set (hK : P.K = X.K) (hc : X.calm = true) : CallR X (.type "set") (rvSet X P) := by
  intro pins s σ H xs us Q I r h
  obtain ⟨ms, F, S, v, d, l, ks, rfl, st, rv, hi, hk, ho, q⟩ := h
  obtain ⟨u, rfl, ru⟩ := Vals.one r
  obtain ⟨a, ys, rfl, sq, rl⟩ := items_sq st rv hi
  cases ru
  rw [hK] at sq
  have hl : ks.length + 1 < scanBound := by
    unfold okKeys at ho
    simp only [Bool.and_eq_true, decide_eq_true_eq] at ho
    have : scanBound = 4096 := rfl
    omega
  have fin : ∀ (us : List Value) (T : String) (o : Obj) (n : Nat), (T = "list" ∨ T = "tuple") → s.heap.get? a = some o → o.cls = .type T → o.data = .seq us.toArray n → Vals ys us → wpAny (model X.prog X.w) X.A (call (.type "set") [.ref a]) (EP X pins σ Q) X.xe s := fun us T o n hT ho hcl hd rv => by
    obtain ⟨n1, n2⟩ := keys_vals hk rl rv
    refine call_set T hT (I.ok.hd hc) ho hcl hd (by rw [List.size_toArray]; exact n1) (fun i v e => n2 i v (by rw [List.getElem?_toArray] at e; exact e)) hl fun h' tk hS k => ?_
    have hn : H s.heap.objs.size = none := I.hok.fresh (Nat.le_refl _)
    have J : Inv X pins σ (upd H s.heap.objs.size (SetX X.w s.heap.objs.size ks)) { s with heap := h', toks := tk } :=
      I.call' (ch := []) rfl (Un.laid k (Nat.le_refl _) hn) (I.hok.laid k (Nat.le_refl _) (setX_new hS)) I.bare (fun _ z => nomatch z)
    exact ⟨.ref _, _, J, rfl, q _ hn⟩
  rcases sq with sq | sq
  · obtain ⟨its, rv, ⟨o, n, ho, hc, _, hd⟩, _⟩ := I.list sq
    exact fin its "list" o n (.inl rfl) ho hc hd rv
  · obtain ⟨its, rv, ⟨o, ho, hc, n, hd⟩, _⟩ := I.tuple sq
    exact fin its "tuple" o n (.inr rfl) ho hc hd rv
/-- len of the set -/
def rvLenS (X : Cx) (P : Pg) : List V → Hp → VK → Prop := fun vs H Q => ∃ p ks, vs = [.ref p] ∧ H p = some (SetX X.w p ks) ∧ okKeys ks = true ∧ Q (.int (dd ks).length) H
theorem set_perm {w : World} {h : Heap} {a : Addr} {ks : List SKey} (q : SetQ w h a ks) : ∃ o es ep t, h.get? a = some o ∧ o.ExactSet ∧ o.data = .set es ep t ∧ t.fits es.size = true ∧ es.size < scanBound ∧ Ris t.place.toList ∧ (w.params.followText "set-order" = true ∨ t.led = true) ∧ (∀ e ∈ es.toList, EOk w e) ∧ (es.toList.map kE).Perm (dd ks) := by
  obtain ⟨o, es, ep, t, ⟨ho, hx, hd⟩, ⟨i1, i2, i3⟩, z1, z2, z3, z4, z5⟩ := q
  exact ⟨o, es, ep, t, ho, hx, hd, z3, z2, z4, z5, i1, (List.perm_ext_iff_of_nodup i2 (nodup_dd ks)).mpr fun k => by rw [mem_dd, i3]⟩
theorem c_lenS : CallR X (.builtin "len") (rvLenS X P) := by
  intro pins s σ H xs us Q I r h
  obtain ⟨p, ks, rfl, hp, ho, q⟩ := h
  obtain ⟨u, rfl, ru⟩ := Vals.one r
  cases ru
  obtain ⟨o, es, ep, t, ho, hx, hd, hf, hb, _, _, _, pm⟩ := set_perm (setX_get I hp)
  have e : es.size = (dd ks).length := by
    have := pm.length_eq
    rwa [List.length_map, Array.length_toList] at this
  have : scanBound = 4096 := rfl
  refine call_len_set ho hx hd hf (by omega) ⟨.int (dd ks).length, H, I.tok _, ⟨_, by rw [e]⟩, q⟩
theorem each_keys {h : Heap} : ∀ (vs : List Value), (∀ v ∈ vs, keyIs (kOf v) v = true) → PySem.W.EachIs (RepU P ms F) vs (vs.map fun v => kD (kOf v)) ∧ PySem.W.EachIs (fun v d => ∃ as, Reads h v (D.py d) as) vs (vs.map fun v => kD (kOf v))
  | [], _ => ⟨.nil, .nil⟩
  | v :: vs, hv => by
    obtain ⟨h1, h2⟩ := each_keys vs fun u hu => hv u (List.mem_cons_of_mem _ hu)
    rcases keyIs_shape (hv v List.mem_cons_self) with ⟨i, t, e1, e2⟩ | ⟨x, t, e1, e2⟩
    · subst e2
      exact ⟨.cons ⟨.int i, ⟨t, rfl⟩, .int i⟩ h1, .cons ⟨[], .int i t⟩ h2⟩
    · subst e2
      exact ⟨.cons ⟨.str x, ⟨t, rfl⟩, .str x⟩ h1, .cons ⟨[], .str x t⟩ h2⟩
/-- sorted(..) of the set -/
def rvSortS (X : Cx) (P : Pg) : List V → Hp → VK → Prop := fun vs H Q => ∃ p ks ms F S, vs = [.ref p] ∧ H p = some (SetX X.w p ks) ∧ okKeys ks = true ∧ Sto P H ms F S ∧ New P ms F Q (sortD ((dd ks).map kD)) S
theorem c_sortS (hu : X.A.units + 64 < cLine) (hc : X.calm = true) : CallR X (.builtin "sorted") (rvSortS X P) := by
  intro pins s σ H xs us Q I r h
  obtain ⟨p, ks, ms, F, S, rfl, hp, hok, st, q⟩ := h
  obtain ⟨u, rfl, ru⟩ := Vals.one r
  cases ru
  obtain ⟨o, es, ep, t, ho, hx, hd, hf, hb, hr, hl, he, pm⟩ := set_perm (setX_get I hp)
  refine Calls.call_function_entry kind_sorted plain_sorted entry_sorted (args_sorted1 _) ?_
  unfold Builtin.«sorted»
  refine wpAny_bind (m := checkCount "sorted" 1 1 _) (wpAny_pure ?_)
  refine wpAny_bind (collect_set (A := X.A.in1) (I.ok.hd hc) ⟨o, ho, hx.1, hd⟩ hf hb hr hl fun s1 vs k1 z1 g1 o1 pv => ?_)
  have pk : (vs.map kOf).Perm (dd ks) := by
    have := pv.map kOf
    rw [List.map_map] at this
    exact this.trans pm
  have vk : ∀ v ∈ vs, keyIs (kOf v) v = true := fun v hv => by
    obtain ⟨e, he', rfl⟩ := List.mem_map.mp (pv.mem_iff.mp hv)
    exact (he e he').1
  have ok2 : okKeys (vs.map kOf) = true := ok_perm pk (ok_dd hok)
  have lz : vs.length < 4000 := by
    have q1 := ok2
    unfold okKeys at q1
    simp only [Bool.and_eq_true, decide_eq_true_eq, List.length_map] at q1
    exact q1.2
  have hL : vs.length ≤ sizeLine := by
    rw [sizeLine_eq]
    omega
  obtain ⟨al1, al2⟩ := keys_alike ok2
  have el : vs.map (fun v => kD (kOf v)) = (vs.map kOf).map kD := by rw [List.map_map]; rfl
  refine wpAny_bind (wpAny_newList ?_ hL)
  have hoL : (s1.heap.push (seqObj "list" vs.toArray 0)).get? s1.heap.objs.size = some (seqObj "list" vs.toArray 0) := Heap.get?_push_size _ rfl
  have er := (each_keys (P := P) (ms := ms) (F := F) (h := PySem.W.sortingHeap (s1.heap.push (seqObj "list" vs.toArray 0)) s1.heap.objs.size vs) vs vk)
  rw [el] at er
  have Z := PySem.W.SortsAt.data (prog := X.prog) (w := X.w) (A := X.A.in1.in1) (s := { s1 with heap := PySem.W.sortingHeap (s1.heap.push (seqObj "list" vs.toArray 0)) s1.heap.objs.size vs }) (PySem.W.each_map (R := fun v d => ∃ as, Reads (PySem.W.sortingHeap (s1.heap.push (seqObj "list" vs.toArray 0)) s1.heap.objs.size vs) v d as) D.py er.2) al1 al2
    (PySem.W.bound_map (A := X.A.in1.in1) fun d hd => ?_)
  · refine wpAny_bind (wpAny_holding (wpAny_call_entry slot_list_sort ⟨_, hoL, rfl⟩ entry_list_sort (PySem.W.list_sort_vals (s := { s1 with heap := s1.heap.push (seqObj "list" vs.toArray 0) }) hoL Z hL ⟨_, rfl, ?_⟩) (args_list_sort _)))
    generalize hout : PySem.W.sortVals (PySem.W.dataKind (PySem.W.sortingHeap (s1.heap.push (seqObj "list" vs.toArray 0)) s1.heap.objs.size vs) (((vs.map kOf).map kD).map D.py)) false vs vs = out
    have eo : PySem.W.EachIs (RepU P ms F) out (sortD ((vs.map kOf).map kD)) := by
      rw [← hout]
      exact PySem.W.sortVals_data false er.1 er.2 al1
    rw [sort_keys pk] at eo
    obtain ⟨c, hcc⟩ := sortedHeap_at (vs := vs) (out := out.toArray) hoL
    obtain ⟨zs, rz, qz⟩ := uEach eo
    refine wpAny_pure ⟨_, rfl, ?_⟩
    refine ep_list (inv_kept I k1 g1 o1) (fun b u q => ?_) rfl rfl hcc rz qz ?_ st q
    · have hlt := Heap.lt_size q
      show (sortedHeap (s1.heap.push (seqObj "list" vs.toArray 0)) s1.heap.objs.size vs out.toArray).get? b = some u
      rw [sortedHeap_old (Nat.ne_of_lt hlt) (by rw [size_push']; exact Nat.lt_succ_of_lt hlt)]
      exact Heap.get?_push_of_some _ q
    · rw [(sortD_perm _).length_eq, List.length_map, ← pk.length_eq, List.length_map]
      exact hL
  · obtain ⟨k, _, rfl⟩ := List.mem_map.mp hd
    cases k <;> simp [kD, D.py, PyData.depth] <;> omega
/-! ### as expressions -/
section
variable {a : Expr} {p p2 q2 pos : Pos} {W : WX} {fa : Env → Store → R D}
def setOfF (g : List D → Store → R D) (fa : Env → Store → R D) : Env → Store → R D := fun env S => (fa env S).bind fun x S => match x.items S with
    | some l => g l S
    | none => .bad
theorem pa_one {e : Expr} {te : TE} (h : PE X e te) (hn : notStar e = true) : PA X [e] (fun σ H Q => te σ H fun v H1 => Q [v] H1) := by
  have k := pa_cons h pa_nil (star_cons hn)
  exact ⟨fun pos pins s σ H Q I z => k.run pos pins s σ H Q I z⟩
theorem s_sset (hK : P.K = X.K) (hu : X.A.units + 64 < cLine) (hc : X.calm = true) (hg : Gl X "sorted") (hm : X.mg "sorted" = none) (hv : bootBuiltins "sorted" = some (.builtin "sorted")) (hg2 : Gl X "set") (hm2 : X.mg "set" = none) (hv2 : bootBuiltins "set" = some (.type "set"))
    (hn : notStar a = true) (ha : PE X a (tE P W false fa)) : PE X (.Call (.Name "sorted" p) [.Call (.Name "set" p2) [a] [] q2] [] pos) (tE P W true (setOfF ssetR fa)) := by
  have k1 := pe_callTy (p := p2) (pos := q2) (c_set hK hc) hg2 hm2 hv2 (pa_one ha hn) (by decide) (by decide) (star_cons hn) (back_any rfl)
  refine (pe_callB (c_sortS (P := P) hu hc) hg hm hv (pa_one k1 rfl) (by decide) (by decide) (star_cons rfl) (back_any rfl)).imp fun σ H Q ⟨env, ms, F, S, hs, st, z⟩ => ?_
  refine ⟨env, ms, F, S, hs, st, z.bind fun x S1 v H1 ms1 F1 nx st1 rx h1 => ?_⟩
  cases qi : x.items S1 with
  | none =>
    rw [qi] at h1
    exact h1.elim
  | some l =>
    rw [qi] at h1
    dsimp only at h1
    unfold ssetR at h1
    cases qk : keysD l with
    | none =>
      rw [qk] at h1
      exact h1.elim
    | some ks =>
      rw [qk] at h1
      dsimp only at h1
      by_cases ok : okKeys ks = true
      · rw [if_pos ok] at h1
        exact ⟨ms1, F1, S1, v, x, l, ks, rfl, st1, rx, qi, qk, ok, fun r hr => ⟨r, ks, ms1, F1, S1, rfl, upd_same, ok, st1.free hr, h1⟩⟩
      · rw [if_neg ok] at h1
        exact h1.elim
theorem s_lset (hK : P.K = X.K) (hc : X.calm = true) (hg : Gl X "len") (hm : X.mg "len" = none) (hv : bootBuiltins "len" = some (.builtin "len")) (hg2 : Gl X "set") (hm2 : X.mg "set" = none) (hv2 : bootBuiltins "set" = some (.type "set"))
    (hn : notStar a = true) (ha : PE X a (tE P W false fa)) : PE X (.Call (.Name "len" p) [.Call (.Name "set" p2) [a] [] q2] [] pos) (tE P W false (setOfF lsetR fa)) := by
  have k1 := pe_callTy (p := p2) (pos := q2) (c_set hK hc) hg2 hm2 hv2 (pa_one ha hn) (by decide) (by decide) (star_cons hn) (back_any rfl)
  refine (pe_callB (c_lenS (P := P)) hg hm hv (pa_one k1 rfl) (by decide) (by decide) (star_cons rfl) (back_any rfl)).imp fun σ H Q ⟨env, ms, F, S, hs, st, z⟩ => ?_
  refine ⟨env, ms, F, S, hs, st, z.bind fun x S1 v H1 ms1 F1 nx st1 rx h1 => ?_⟩
  cases qi : x.items S1 with
  | none =>
    rw [qi] at h1
    exact h1.elim
  | some l =>
    rw [qi] at h1
    dsimp only at h1
    unfold lsetR at h1
    cases qk : keysD l with
    | none =>
      rw [qk] at h1
      exact h1.elim
    | some ks =>
      rw [qk] at h1
      dsimp only at h1
      by_cases ok : okKeys ks = true
      · rw [if_pos ok] at h1
        have h2 : Ord P ms1 F1 Q (.int (dd ks).length) S1 := h1
        exact ⟨ms1, F1, S1, v, x, l, ks, rfl, st1, rx, qi, qk, ok, fun r hr => ⟨r, ks, rfl, upd_same, ok, h2 _ _ ms1 F1 (Nx.refl _ _) (st1.free hr) (.int _)⟩⟩
      · rw [if_neg ok] at h1
        exact h1.elim
end
end SV
/-! SvI: what loops walk; list comprehensions. -/
namespace SV
open PySem PySem.Spec PyProof.Rows L2
variable {X : Cx} {pins : List (Addr × Obj)} {σ : L2.St} {H : Hp} {s : Shared} {P : Pg} {ms : List Addr} {F : Hp} {S : Store} {Ex : XQ}

/-- what a target of this form takes -/
def ItemR (P : Pg) (ms : List Addr) (F H : Hp) (tg : Tg) (x : V) (d : D) : Prop := match tg with
  | .one _ => Rep P ms F x d
  | .two _ _ => ∀ l, d = .tup l → ∃ T xs, x = .ref T ∧ SqT P.K H T xs ∧ RepL P ms F xs l
theorem itemR {pv : List (Addr × HO)} {tg : Tg} {x : V} {d : D} (st : Sto (P.wp pv) H ms F S) (r : Rep P ms F x d) : ItemR P ms F H tg x d := by
  cases tg with
  | one i => exact r
  | two i j =>
    intro l e
    subst e
    cases r with
    | tup h1 h2 h3 => exact ⟨_, _, rfl, .inl (.inr ⟨_, st.sub _ _ h1⟩), h3⟩
/-- the iterator yields these items -/
def ItOk (P : Pg) (tg : Tg) (J : L2.It) (src : Src) (ms : List Addr) (F : Hp) : Prop :=
  ∀ (pv : List (Addr × HO)) (i : Nat) (H : Hp) (ms' : List Addr) (F' : Hp) (S : Store), Nx ms F ms' F' → Sto (P.wp pv) H ms' F' S → Good src.guard S →
    (∀ d, src.items[i]? = some d → J.go i H ∧ ∀ x H2, J.yld i H x H2 → Sto (P.wp pv) H2 ms' F' S ∧ ItemR P ms' F' H2 tg x d) ∧ (src.items.length ≤ i → J.stop i H)
theorem ItOk.nx {tg : Tg} {J : L2.It} {src : Src} {ms' : List Addr} {F' : Hp} (x : Nx ms F ms' F') (h : ItOk P tg J src ms F) : ItOk P tg J src ms' F' := fun pv i H ms2 F2 S nx st g => h pv i H ms2 F2 S (x.trans nx) st g
def tI (P : Pg) (W : WX) (tg : Tg) (f : Env → Store → R Src) : TI := fun σ H Rr => ∃ env ms F S, Slots P ms F σ env ∧ Sto P H ms F S ∧ match f env S with
  | .ok src S' => ∀ J H' ms' F', Nx ms F ms' F' → Sto P H' ms' F' S' → ItOk P tg J src ms' F' → Rr J H'
  | .exc c S' => ∀ H' ms' F', Nx ms F ms' F' → Sto P H' ms' F' S' → ExW P W σ c H'
  | .bad => False
section
variable {iter tgE : Expr} {W : WX} {tg : Tg} {fa : Env → Store → R D}
theorem getO {α : Type} {xs : List α} {i : Nat} (h : i < xs.length) : xs[i]? = some xs[i] := List.getElem?_eq_getElem h
/-- a value walked -/
theorem s_iter (hK : P.K = X.K) (ha : PE X iter (tE P W false fa)) : PI X tgE iter (tI P W tg fun env S => (fa env S).bind fun x S => match srcD x S with | some s => .ok s S | none => .bad) := by
  refine ⟨fun pins s σ H Rr I h => ?_⟩
  obtain ⟨env, ms, F, S, hs, st, h⟩ := h
  dsimp only at h
  cases q : fa env S with
  | bad =>
    rw [q] at h
    exact h.elim
  | exc c S1 =>
    rw [q] at h
    exact wpAny_mono (ha.run pins s σ H (fun _ _ => False) I ⟨env, ms, F, S, hs, st, by rw [q]; exact h⟩) (fun _ _ ⟨_, _, _, _, z⟩ => z.elim) fun _ _ z => z
  | ok d S1 =>
    rw [q] at h
    dsimp only [R.bind_ok] at h
    refine thn (ha.run pins s σ H (fun x H1 => ∃ ms1 F1, Nx ms F ms1 F1 ∧ Sto P H1 ms1 F1 S1 ∧ Rep P ms1 F1 x d) I ⟨env, ms, F, S, hs, st, by rw [q]; exact fun v H' ms' F' nx st' r => ⟨ms', F', nx, st', r⟩⟩) fun v s1 ⟨x, H1, I1, r1, ms1, F1, nx, st1, rx⟩ => ?_
    cases q2 : srcD d S1 with
    | none =>
      rw [q2] at h
      exact h.elim
    | some src =>
      rw [q2] at h
      dsimp only at h
      have lst : ∀ a ys l g, x = .ref a → SqL P.K H1 a ys → RepL P ms1 F1 ys l → src = ⟨l, g⟩ → (∀ (pv : List (Addr × HO)) H' ms' F' S', Nx ms1 F1 ms' F' → Sto (P.wp pv) H' ms' F' S' → Good g S' → ∃ ys', SqL P.K H' a ys' ∧ RepL P ms' F' ys' l) → wpAny (model X.prog X.w) X.A (pyIter v) (PIE X pins σ tgE Rr) X.xe s1 := fun a ys l g e sq rl es keep => by
        subst e es
        cases r1
        obtain ⟨its, rv, p, hz⟩ := I1.list (hK ▸ sq)
        refine wpAny_pyIter_list p.isList ?_
        refine pi_one (tk := s1.toks) I1 _ (turn_list a _) ⟨_, Heap.get?_push_size _ rfl, rfl, rfl⟩ (h _ _ _ _ nx st1 fun pv i H' ms' F' S' nx' st' gd => ?_)
        obtain ⟨ys', sq', rl'⟩ := keep pv H' ms' F' S' nx' st' gd
        rw [hK] at sq'
        refine ⟨fun d hd => ?_, fun hi => ⟨ys', sq', by rw [rl'.length]; exact hi⟩⟩
        obtain ⟨w, hw, rw'⟩ := rl'.get hd
        refine ⟨⟨ys', w, sq', hw⟩, fun x' H2 hy => ?_⟩
        obtain ⟨e1, e2⟩ := hy
        subst e1
        have := e2 ys' sq'
        rw [hw] at this
        cases this
        exact ⟨st', itemR st' rw'⟩
      cases rx with
      | str z =>
        have q3 : (if okLen z.length then some (Src.mk (signsD z) none) else none) = some src := q2
        by_cases c : okLen z.length = true
        · rw [if_pos c] at q3
          cases q3
          obtain ⟨t, rfl⟩ := r1
          have ok : ItOk P tg (Its z) ⟨signsD z, none⟩ ms1 F1 := fun pv i H' ms' F' S' nx' st' gd => by
            refine ⟨fun d hd => ?_, fun hi => (show z.cps.size ≤ i by simpa [signsD] using hi)⟩
            have hd' : (z.cps.toList.map sign)[i]? = some d := hd
            rw [List.getElem?_map, Array.getElem?_toList] at hd'
            cases q4 : z.cps[i]? with
            | none => rw [q4] at hd'; cases hd'
            | some cc =>
              rw [q4] at hd'
              cases hd'
              refine ⟨(Array.getElem?_eq_some_iff.mp q4).1, fun x' H2 hy => ?_⟩
              obtain ⟨e1, c2, e2, rfl⟩ := hy
              subst e1
              rw [q4] at e2
              cases e2
              exact ⟨st', itemR st' (.str _)⟩
          cases hall : z.cps.all (· < 128)
          · exact wpAny_pyIter_wide hall (pi_one (tk := s1.toks) I1 _ (turn_str _ z t "str_iterator" (.inr rfl)) ⟨_, Heap.get?_push_size _ rfl, rfl, rfl⟩ (h _ _ _ _ nx st1 ok))
          · exact wpAny_pyIter_ascii hall (pi_one (tk := s1.toks) I1 _ (turn_str _ z t "str_ascii_iterator" (.inl rfl)) ⟨_, Heap.get?_push_size _ rfl, rfl, rfl⟩ (h _ _ _ _ nx st1 ok))
        · rw [if_neg c] at q3
          cases q3
      | @lst a ys l e r =>
        cases q2
        exact lst a ys l none rfl (.inl (.inl (st1.sub _ _ e))) r rfl fun pv H' ms' F' S' nx' st' _ => ⟨ys, .inl (.inl (st'.sub _ _ (nx'.sub _ _ e))), r.mono nx'⟩
      | @loc a n e =>
        cases q4 : S1[n]? with
        | none =>
          simp only [srcD, q4] at q2
          cases q2
        | some c =>
          cases c with
          | lst l =>
            simp only [srcD, q4] at q2
            cases q2
            obtain ⟨_, ys, h1, h2⟩ := st1.cell n a _ e q4
            refine lst a ys l (some (n, .lst l)) rfl (.inl (.inl h1)) h2 rfl fun pv H' ms' F' S' nx' st' gd => ?_
            obtain ⟨_, ys', h1', h2'⟩ := st'.cell n a _ (nx'.pre _ _ e) gd
            exact ⟨ys', .inl (.inl h1'), h2'.un⟩
          | _ =>
            simp only [srcD, q4] at q2
            cases q2
      | @tup a o ys l e d r =>
        cases q2
        cases r1
        have sq : SqT X.K H1 a ys := hK ▸ sq_tup st1 e
        obtain ⟨its, rv, p, hz⟩ := I1.tuple sq
        refine wpAny_pyIter_tuple (show s1.heap.IsTuple a its.toArray from p) ?_
        refine pi_one (tk := s1.toks) I1 _ (turn_tuple a _) ⟨_, Heap.get?_push_size _ rfl, rfl, rfl⟩ (h _ _ _ _ nx st1 fun pv i H' ms' F' S' nx' st' gd => ?_)
        have sq' : SqT X.K H' a ys := .inl (.inr ⟨_, st'.sub _ _ (nx'.sub _ _ e)⟩)
        refine ⟨fun d hd => ?_, fun hi => ⟨ys, sq', by rw [r.length]; exact hi⟩⟩
        obtain ⟨w, hw, rw'⟩ := (r.mono nx').get hd
        refine ⟨⟨ys, w, sq', hw⟩, fun x' H2 hy => ?_⟩
        obtain ⟨e1, e2⟩ := hy
        subst e1
        have := e2 ys sq'
        rw [hw] at this
        cases this
        exact ⟨st', itemR st' rw'⟩
      | @dctv a o kvs ks vs e e2 e3 =>
        cases q2
        subst e2
        cases r1
        have hd : H1 a = some (.frz o (.dK kvs)) := st1.sub _ _ e
        obtain ⟨hs, hgd, hx, es, ep, us, hdt, hsz, kv, hm⟩ := I1.frzK hd
        have ok : ItOk P tg (Itk a o kvs) ⟨(kvs.map (·.1)).map kD, none⟩ ms1 F1 := fun pv i H' ms' F' S' nx' st' gd => by
          have hd' : H' a = some (.frz o (.dK kvs)) := st'.sub _ _ (nx'.sub _ _ e)
          refine ⟨fun d hi => ?_, fun hi => ⟨hd', by simpa using hi⟩⟩
          have hi' : ((kvs.map (·.1)).map kD)[i]? = some d := hi
          rw [List.getElem?_map, List.getElem?_map] at hi'
          cases q4 : kvs[i]? with
          | none => rw [q4] at hi'; cases hi'
          | some cc =>
            rw [q4] at hi'
            cases hi'
            refine ⟨⟨hd', (List.getElem?_eq_some_iff.mp q4).1⟩, fun x' H2 hy => ?_⟩
            obtain ⟨e1, k, v, e2, rfl⟩ := hy
            subst e1
            rw [q4] at e2
            cases e2
            refine ⟨st', itemR st' ?_⟩
            cases k <;> constructor
        refine iter_keys hs hgd hx hdt (pi_one (tk := s1.toks) I1 _ (turn_keys _ hdt) ⟨_, Heap.get?_push_size _ rfl, rfl, ?_⟩ (h _ _ _ _ nx st1 ok))
        rw [hsz] <;> rfl
      | _ => cases q2
/-- range(a), range(a, b) -/
theorem rng_ok {lo : Int} {n : Nat} : ItOk P tg (Itr lo n) ⟨rngD lo n, none⟩ ms F := fun pv i H' ms' F' S' nx' st' gd => by
  have hlen : (rngD lo n).length = n := by simp [rngD]
  refine ⟨fun d hd => ?_, fun hi => by rw [hlen] at hi; exact hi⟩
  have hl := (List.getElem?_eq_some_iff.mp hd).1
  rw [hlen] at hl
  have e : d = .int (lo + (i : Int)) := by
    have hd' : (rngD lo n)[i]? = some d := hd
    simp [rngD, hl] at hd'
    exact hd'.symm
  subst e
  refine ⟨hl, fun x' H2 hy => ?_⟩
  obtain ⟨e1, rfl⟩ := hy
  subst e1
  exact ⟨st', itemR st' (.int _)⟩
theorem s_rng1 {p pos : Pos} {a : Expr} (hg : Gl X "range") (hm : X.mg "range" = none) (ha : PE X a (tE P W false fa)) (h : notStar a = true) : PI X tgE (.Call (.Name "range" p) [a] [] pos) (tI P W tg fun env S => (fa env S).bind fun x S => match x with
    | .int j => if okI j then .ok ⟨rngD 0 j.toNat, none⟩ S else .bad
    | _ => .bad) := by
  refine (pi_range1 hg hm (pa_cons ha pa_nil (star_cons h)) (star_cons h)).imp fun σ H Rr ⟨env, ms, F, S, hs, st, q⟩ => ⟨env, ms, F, S, hs, st, ?_⟩
  dsimp only at q
  cases q1 : fa env S with
  | bad =>
    rw [q1] at q
    exact q
  | exc c S1 =>
    rw [q1] at q
    exact q
  | ok d S1 =>
    rw [q1] at q
    refine fun v H' ms' F' nx st' r => ?_
    cases r with
    | int j =>
      have q : (match (if okI j then R.ok (Src.mk (rngD 0 j.toNat) none) S1 else .bad) with
        | .ok src S' => ∀ J H' ms' F', Nx ms F ms' F' → Sto P H' ms' F' S' → ItOk P tg J src ms' F' → Rr J H'
        | .exc c S' => ∀ H' ms' F', Nx ms F ms' F' → Sto P H' ms' F' S' → ExW P W σ c H'
        | .bad => False) := q
      by_cases c : okI j = true
      · rw [if_pos c] at q
        unfold okI at c
        obtain ⟨c1, c2⟩ := of_decide_eq_true c
        exact ⟨j, rfl, c1, c2, q _ _ _ _ nx st' rng_ok⟩
      · rw [if_neg c] at q
        exact q.elim
    | _ => exact q.elim
theorem s_rng2 {p pos : Pos} {a b : Expr} {fb : Env → Store → R D} (hg : Gl X "range") (hm : X.mg "range" = none) (ha : PE X a (tE P W false fa)) (hb : PE X b (tE P W false fb)) (h : notStar a = true) (h2 : notStar b = true) : PI X tgE (.Call (.Name "range" p) [a, b] [] pos) (tI P W tg fun env S => (fa env S).bind fun x S => (fb env S).bind fun y S => match x, y with
    | .int i, .int j => if okI i && okI j then .ok ⟨rngD i (j - i).toNat, none⟩ S else .bad
    | _, _ => .bad) := by
  refine (pi_range2 hg hm (pa_cons ha (pa_cons hb pa_nil (star_cons h2)) (star_cons h)) (by rw [star_cons h, star_cons h2]; rfl) (star_cons h2)).imp fun σ H Rr ⟨env, ms, F, S, hs, st, q⟩ => ⟨env, ms, F, S, hs, st, ?_⟩
  dsimp only at q
  cases q1 : fa env S with
  | bad =>
    rw [q1] at q
    exact q
  | exc c S1 =>
    rw [q1] at q
    exact q
  | ok d S1 =>
    rw [q1] at q
    dsimp only [R.bind_ok] at q
    refine fun v H1 ms1 F1 nx st1 r => ⟨env, ms1, F1, S1, hs.mono nx, st1, ?_⟩
    cases q2 : fb env S1 with
    | bad =>
      rw [q2] at q
      exact q
    | exc c S2 =>
      rw [q2] at q
      exact fun H' ms' F' nx' => q H' ms' F' (nx.trans nx')
    | ok e S2 =>
      rw [q2] at q
      refine fun u H2 ms2 F2 nx2 st2 r2 => ?_
      cases r with
      | int i =>
        cases r2 with
        | int j =>
          have q : (match (if (okI i && okI j) = true then R.ok (Src.mk (rngD i (j - i).toNat) none) S2 else .bad) with
            | .ok src S' => ∀ J H' ms' F', Nx ms F ms' F' → Sto P H' ms' F' S' → ItOk P tg J src ms' F' → Rr J H'
            | .exc c S' => ∀ H' ms' F', Nx ms F ms' F' → Sto P H' ms' F' S' → ExW P W σ c H'
            | .bad => False) := q
          by_cases c : (okI i && okI j) = true
          · rw [if_pos c] at q
            rw [Bool.and_eq_true] at c
            obtain ⟨c1, c2⟩ := of_decide_eq_true c.1
            obtain ⟨c3, c4⟩ := of_decide_eq_true c.2
            exact ⟨i, j, rfl, ⟨c1, c2, c3, c4⟩, q _ _ _ _ (nx.trans nx2) st2 rng_ok⟩
          · rw [if_neg c] at q
            exact q.elim
        | _ => exact q.elim
      | _ => cases r2 <;> exact q.elim
end
end SV
/-! SvJ: list comprehensions. -/
namespace SV
open PySem PySem.Spec PyProof.Rows L2
variable {X : Cx} {pins : List (Addr × Obj)} {σ : L2.St} {H : Hp} {s : Shared} {P : Pg} {ms : List Addr} {F : Hp} {S : Store} {Ex : XQ}
/-- no error leaves a comprehension -/
abbrev W0 : WX := fun _ _ _ _ => False
/-- whatever is being made -/
def tEx (P : Pg) (W : WX) (f : Env → Store → R D) : TE := fun σ H Q => ∃ pv, tE (P.wp pv) W false f σ H Q
def tTx (P : Pg) (W : WX) (f : Env → Store → R D) : TT := fun σ H Q => ∃ pv, tT (P.wp pv) W f σ H Q
theorem s_ex {e : Expr} {W : WX} {f : Env → Store → R D} (h : ∀ pv, PE X e (tE (P.wp pv) W false f)) : PE X e (tEx P W f) := ⟨fun pins s σ H Q I ⟨pv, q⟩ => (h pv).run pins s σ H Q I q⟩
theorem s_tx {e : Expr} {W : WX} {f : Env → Store → R D} (h : ∀ pv, PT X e (tT (P.wp pv) W f)) : PT X e (tTx P W f) := ⟨fun pins s σ H Q I ⟨pv, q⟩ => (h pv).run pins s σ H Q I q⟩
theorem _root_.L2.PTs.imp {e : List Expr} {t t' : TT} (h : PTs X e t) (k : ∀ σ H Q, t' σ H Q → t σ H Q) : PTs X e t' := ⟨fun pins s σ H Q I q => h.run pins s σ H Q I (k σ H Q q)⟩
theorem s_noif {W : WX} : PTs X [] (tTx P W fun _ S => .ok (.bl true) S) := pts_nil.imp fun σ H Q ⟨pv, env, ms, F, S, hs, st, h⟩ => by
  obtain ⟨c, e, q⟩ := h _ _ _ _ (Nx.refl _ _) st (.bl true)
  cases e
  exact q
def Tg.slots : Tg → List Nat
  | .one i => [i]
  | .two i j => [i, j]
def gT (K : PySem.W.Frag) : Tg → TG
  | .one i => gName i
  | .two i j => gTup K 2 (gCons (gName i) (gCons (gName j) gNil))
def Tg.ok : Tg → Bool
  | .one _ => true
  | .two i j => i != j
theorem wipe_one (σ : L2.St) (i : Nat) : wipe σ [i] = σ.set i none := rfl
theorem wipe_two (σ : L2.St) (i j : Nat) : wipe σ [i, j] = (σ.set j none).set i none := rfl
theorem Slots.nil {i : Nat} {env : Env} (h : Slots P ms F σ env) {v : V} {d : D} (r : Rep P ms F v d) : Slots P ms F ((σ.set i none).set i (some v)) (env.set i (some d)) := by
  rw [List.set_set]
  exact h.set r
/-- the target stored, in a frame without it -/
theorem tgt_blk {tg : Tg} {d : D} {env env' : Env} {x : V} {Q : L2.St → Hp → Prop} (hok : tg.ok = true) (e : tg.set d env = some env') (hs : Slots P ms F σ env) (r : ItemR P ms F H tg x d)
    (h : ∀ σ2, wipe σ2 tg.slots = wipe σ tg.slots → Slots P ms F σ2 env' → Q σ2 H) : gT P.K tg x (wipe σ tg.slots) H Q := by
  cases tg with
  | one i =>
    cases e
    refine h _ ?_ (hs.nil r)
    show ((σ.set i none).set i (some x)).set i none = σ.set i none
    rw [List.set_set, List.set_set]
  | two i j =>
    have hij : i ≠ j := by simpa [Tg.ok] using hok
    have key : ∀ a b, d = .tup [a, b] → env' = (env.set i (some a)).set j (some b) → gT P.K (.two i j) x (wipe σ (Tg.two i j).slots) H Q := fun a b e1 e2 => by
      obtain ⟨T, xs, rfl, sq, rl⟩ := r _ e1
      subst e2
      cases rl with
      | cons r1 t =>
        cases t with
        | cons r2 t2 =>
          cases t2
          rename_i va vb
          refine ⟨T, [va, vb], rfl, sq, rfl, va, [vb], rfl, vb, [], rfl, rfl, ?_⟩
          have e3 : (((σ.set j none).set i none).set i (some va)).set j (some vb) = (σ.set i (some va)).set j (some vb) := by
            rw [List.set_set, List.set_comm _ _ (Ne.symm hij), List.set_set]
          refine h _ ?_ ?_
          · show ((((((σ.set j none).set i none).set i (some va)).set j (some vb)).set j none).set i none) = (σ.set j none).set i none
            rw [e3, List.set_set, List.set_comm _ _ hij, List.set_set]
          · show Slots P ms F ((((σ.set j none).set i none).set i (some va)).set j (some vb)) _
            rw [e3]
            exact (hs.set r1).set r2
    cases d with
    | tup l =>
      match l, e with
      | [a, b], e => exact key a b rfl (Option.some.inj e).symm
      | [], e => cases e
      | [_], e => cases e
      | _ :: _ :: _ :: _, e => cases e
    | _ => cases e
noncomputable def lcF (tg : Tg) (fi : Env → Store → R Src) (fc fe : Env → Store → R D) : Env → Store → R D := fun env S => (fi env S).bind fun src S => if okLen src.items.length then (lcLoop src.guard (fun d => tg.set d env) fc fe src.items S).nox.bind fun l S => .ok (.lst l) S else .bad
def Fin (P : Pg) (ms : List Addr) (F : Hp) (Q : VK) (acc : List D) : R (List D) → Prop
  | .ok ys S => New P ms F Q (acc ++ ys) S
  | _ => False
theorem Fin.nx {ms' : List Addr} {F' : Hp} {Q : VK} {acc : List D} {r : R (List D)} (x : Nx ms F ms' F') (h : Fin P ms F Q acc r) : Fin P ms' F' Q acc r := match r, h with
  | .ok ys S, h => New.nx x h
section
variable {iter tgE elt : Expr} {ifs : List Expr} {scope : Scope} {own : List (Str × Nat)} {pos : Pos} {W : WX} {tg : Tg} {fi : Env → Store → R Src} {fc fe : Env → Store → R D}
theorem t_lc {vs : List Nat} {σ : L2.St} {H : Hp} {Q : VK} (hok : tg.ok = true) (hown : vs = tg.slots) (h : tE P W true (lcF tg fi fc fe) σ H Q) : tLc (tI P W tg fi) (gT P.K tg) (tTx P W0 fc) (tEx P W0 fe) vs σ H Q := by
  obtain ⟨env, ms, F, S, sl, st, h⟩ := h
  refine ⟨env, ms, F, S, sl, st, ?_⟩
  unfold lcF at h
  cases q : fi env S with
  | bad =>
    rw [q] at h
    exact h
  | exc c S1 =>
    rw [q] at h
    exact h
  | ok src S1 =>
    rw [q] at h
    dsimp only [R.bind_ok] at h
    refine fun J H1 ms1 F1 nx st1 it D hD => ?_
    by_cases c : okLen src.items.length = true
    · rw [if_pos c] at h
      have h0 : Fin P ms1 F1 Q [] (lcLoop src.guard (fun d => tg.set d env) fc fe src.items S1) := by
        cases q2 : lcLoop src.guard (fun d => tg.set d env) fc fe src.items S1 with
        | bad =>
          rw [q2] at h
          exact h
        | exc c S1 =>
          rw [q2] at h
          exact h
        | ok l S2 =>
          rw [q2] at h
          exact New.nx nx h
      clear h
      obtain ⟨s0, f0⟩ := st1.fresh hD (.nil (P := P) (ms := ms1) (F := F1))
      have hpv := f0.priv
      obtain ⟨xs0, r0, hD0, h00⟩ := s0.hold f0
      cases r0
      refine ⟨fun i m H => m = src.items.length - i ∧ i ≤ src.items.length ∧ ∃ ms' F' S' xs acc, Nx ms1 F1 ms' F' ∧ Sto (P.wp ((D, HO.lst xs) :: P.pv)) H ms' F' S' ∧ RepL P ms' F' xs acc ∧ acc.length ≤ i ∧
        Fin P ms' F' Q acc (lcLoop src.guard (fun d => tg.set d env) fc fe (src.items.drop i) S'), ⟨_, rfl, Nat.zero_le _, ms1, F1, S1, [], [], Nx.refl _ _, h00, .nil, Nat.le_refl _, h0⟩, ?_⟩
      rintro i m H2 ⟨rfl, hi2, ms2, F2, S2, xs, acc, nx2, st2, rl2, hl2, fin2⟩
      by_cases hlt : i < src.items.length
      · right
        rw [List.drop_eq_getElem_cons hlt] at fin2
        have gd : Good src.guard S2 := by
          unfold lcLoop at fin2
          by_cases g : Good src.guard S2
          · exact g
          · rw [if_neg g] at fin2
            exact fin2.elim
        unfold lcLoop at fin2
        rw [if_pos gd] at fin2
        obtain ⟨go, yl⟩ := (it _ i H2 ms2 F2 S2 nx2 st2 gd).1 src.items[i] (getO hlt)
        refine ⟨go, fun H' => ∃ ms' F' S' xs acc, Nx ms1 F1 ms' F' ∧ Sto (P.wp ((D, HO.lst xs) :: P.pv)) H' ms' F' S' ∧ RepL P ms' F' xs acc ∧ acc.length ≤ i + 1 ∧
          Fin P ms' F' Q acc (lcLoop src.guard (fun d => tg.set d env) fc fe (src.items.drop (i + 1)) S'), fun H' hh => ⟨_, by omega, rfl, hlt, hh⟩, fun x H3 hy => ?_⟩
        obtain ⟨st3, rx⟩ := yl x H3 hy
        cases qs : tg.set src.items[i] env with
        | none =>
          rw [qs] at fin2
          exact fin2.elim
        | some env' =>
          rw [qs] at fin2
          dsimp only at fin2
          rw [hown]
          refine tgt_blk hok qs (sl.mono (nx.trans nx2)) rx fun σ2 hw sl2 => ⟨hw, (D, HO.lst xs) :: P.pv, env', ms2, F2, S2, ⟨sl2.1, fun j e z => let ⟨v, z1, z2⟩ := sl2.2 j e z; ⟨v, z1, z2.wp⟩⟩, st3, ?_⟩
          cases qc : fc env' S2 with
          | bad =>
            rw [qc] at fin2
            exact fin2
          | exc cc S3 =>
            rw [qc] at fin2
            exact fin2.elim
          | ok cd S3 =>
            rw [qc] at fin2
            dsimp only [R.nox_ok, R.bind_ok] at fin2
            refine fun v H4 ms4 F4 nx4 st4 rv => ?_
            cases rv with
            | bl b =>
              refine ⟨b, rfl, ?_⟩
              cases b with
              | false =>
                refine iteF ⟨ms4, F4, S3, xs, acc, nx2.trans nx4, st4, rl2.mono nx4, by omega, ?_⟩
                exact Fin.nx nx4 fin2
              | true =>
                refine iteT ⟨(D, HO.lst xs) :: P.pv, env', ms4, F4, S3, ⟨sl2.1, fun j e z => let ⟨v, z1, z2⟩ := sl2.2 j e z; ⟨v, z1, (z2.mono nx4).wp⟩⟩, st4, ?_⟩
                cases qe : fe env' S3 with
                | bad =>
                  rw [qe] at fin2
                  exact fin2
                | exc cc S5 =>
                  rw [qe] at fin2
                  exact fin2.elim
                | ok ed S5 =>
                  rw [qe] at fin2
                  dsimp only [R.nox_ok, R.bind_ok] at fin2
                  refine fun y H5 ms5 F5 nx5 st5 ry => ?_
                  obtain ⟨p1, p2, p3⟩ := st5.prv (D, HO.lst xs) List.mem_cons_self
                  have rl5 := (rl2.mono nx4).mono nx5
                  refine ⟨xs, p1, ?_, ms5, F5, S5, xs ++ [y], acc ++ [ed], (nx2.trans nx4).trans nx5, st5.grow hpv, rl5.snoc ry.un, by simp; omega, ?_⟩
                  · rw [rl5.length]
                    have := okLen_lt c
                    omega
                  · cases ql : lcLoop src.guard (fun d => tg.set d env) fc fe (src.items.drop (i + 1)) S5 with
                    | bad =>
                      rw [ql] at fin2
                      exact fin2
                    | exc cc S6 =>
                      rw [ql] at fin2
                      exact fin2.elim
                    | ok ys S6 =>
                      rw [ql] at fin2
                      have fin3 : New P ms2 F2 Q (acc ++ (ed :: ys)) S6 := fin2
                      show New P ms5 F5 Q ((acc ++ [ed]) ++ ys) S6
                      rw [List.append_assoc]
                      exact New.nx (nx4.trans nx5) fin3
            | _ => exact fin2.elim
      · left
        have e : i = src.items.length := by omega
        subst e
        rw [List.drop_length] at fin2
        unfold lcLoop at fin2
        by_cases gd : Good src.guard S2
        · rw [if_pos gd] at fin2
          refine ⟨(it _ src.items.length H2 ms2 F2 S2 nx2 st2 gd).2 (Nat.le_refl _), ?_⟩
          have fin3 : New P ms2 F2 Q (acc ++ []) S2 := fin2
          rw [List.append_nil] at fin3
          obtain ⟨s5, f5⟩ := st2.give hpv rl2
          exact fin3 D H2 ms2 F2 (Nx.refl _ _) s5 f5
        · rw [if_neg gd] at fin2
          exact fin2.elim
    · rw [if_neg c] at h
      exact h.elim
theorem s_lc (hK : P.K = X.K) (hc : X.calm = true) (hN : X.N.Nodup) (hok : tg.ok = true) (hi : PI X tgE iter (tI P W tg fi)) (ok : BlkOk X.N X.env.scope scope own) (hown : own.map (·.2) = tg.slots)
    (hg : ∀ (s : Shared) (H : Hp) (C : Addr) (cl : List (Str × Addr)) (fp : List Addr), PG (X.blk s H scope (compEnvC scope cl C X.env) fp) tgE (gT P.K tg))
    (ht : ∀ (s : Shared) (H : Hp) (C : Addr) (cl : List (Str × Addr)) (fp : List Addr), PTs (X.blk s H scope (compEnvC scope cl C X.env) fp) ifs (tTx P W0 fc))
    (he : ∀ (s : Shared) (H : Hp) (C : Addr) (cl : List (Str × Addr)) (fp : List Addr), PE (X.blk s H scope (compEnvC scope cl C X.env) fp) elt (tEx P W0 fe))
    (hs : ∀ x, foldedSetIterable iter X.env x = pure x) : PE X (.ListComp elt [⟨tgE, iter, ifs, 0⟩] scope pos) (tE P W true (lcF tg fi fc fe)) :=
  (pe_lc hc hN hi ok hg ht he hs).imp fun σ H Q h => t_lc hok hown h
/-- name = [..] on one line -/
theorem s_setLc {i : Nat} {y : Str} {py : Pos} {spos : Pos} (hy : X.N[i]? = some y) (hyl : X.env.scope.names.lookup y = some .local) (hsw : swapsWith (.ListComp elt [⟨tgE, iter, ifs, 0⟩] scope pos) (some (.Name y py)) spos.line X.env = pure true) (hK : P.K = X.K) (hc : X.calm = true) (hN : X.N.Nodup) (hok : tg.ok = true) (hi : PI X tgE iter (tI P W tg fi)) (ok : BlkOk X.N X.env.scope scope own) (hown : own.map (·.2) = tg.slots)
    (hg : ∀ (s : Shared) (H : Hp) (C : Addr) (cl : List (Str × Addr)) (fp : List Addr), PG (X.blk s H scope (compEnvC scope cl C X.env) fp) tgE (gT P.K tg))
    (ht : ∀ (s : Shared) (H : Hp) (C : Addr) (cl : List (Str × Addr)) (fp : List Addr), PTs (X.blk s H scope (compEnvC scope cl C X.env) fp) ifs (tTx P W0 fc))
    (he : ∀ (s : Shared) (H : Hp) (C : Addr) (cl : List (Str × Addr)) (fp : List Addr), PE (X.blk s H scope (compEnvC scope cl C X.env) fp) elt (tEx P W0 fe))
    (hs : ∀ x, foldedSetIterable iter X.env x = pure x) :
    PS X (.Assign [.Name y py] (.ListComp elt [⟨tgE, iter, ifs, 0⟩] scope pos) spos) (tAsg (tE P W true (lcF tg fi fc fe)) (gName i)) :=
  ⟨fun pins s σ H D I q => (ps_setLc hc hN hy hyl hsw hi ok hg ht he hs).run pins s σ H D I (t_lc hok hown q)⟩
end
end SV
/-! SvK: the checker of expressions and its soundness. -/
namespace SV
open PySem PySem.Spec PyProof.Rows L2

/-- no form with a test of its own -/
def plainT : Expr → Bool
  | .IfExp .. => false
  | .BoolOp .. => false
  | .UnaryOp .. => false
  | .Compare .. => false
  | _ => true
def isBO : Expr → Bool
  | .BoolOp .. => true
  | _ => false
/-- what is known of the program's names -/
structure Tab where
  /-- the defs by number -/
  names : Nat → Option Str
  /-- whether a def hands back a new list -/
  fresh : Nat → Bool
  /-- the module's constants -/
  csts : List (Str × D)

/-! ### the checker -/
def vis (sc : Scope) (x : Str) : Bool := match sc.names.lookup x with
  | some .local => true
  | some .cell => true
  | some .free => true
  | _ => false
def glb (sc : Scope) (x : Str) : Bool := decide (sc.names.lookup x = some .globalImplicit) && !(x == ("__debug__" : Str)) && !(x == ("__classdict__" : Str)) && !(x == ("__name__" : Str))
def nameOk (x : Str) : Bool := !(x == ("__debug__" : Str)) && !(x == ("__classdict__" : Str))
def Op2.mt : Op2 → Operator → Bool
  | .add, .Add => true
  | .sub, .Sub => true
  | .mul, .Mult => true
  | .mod, .Mod => true
  | .pow, .Pow => true
  | _, _ => false
def Cm.mt : Cm → CmpOp → Bool
  | .eq, .Eq => true
  | .ne, .NotEq => true
  | .lt, .Lt => true
  | .le, .LtE => true
  | .gt, .Gt => true
  | .ge, .GtE => true
  | .isin, .In => true
  | .notin, .NotIn => true
  | .is, .Is => true
  | .isnot, .IsNot => true
  | _, _ => false
def cstIs : D → Const → Bool
  | .int i, .int j => decide (i = j)
  | .bl b, .bool c => decide (b = c)
  | .non, .none => true
  | .str s, .str t => decide (s = t)
  | _, _ => false
/-- a test that is no if-expression -/
def tOk : Expr → Bool
  | .IfExp .. => false
  | _ => true
def notSet : Expr → Bool
  | .Set .. => false
  | _ => true
def Bi.nm : Bi → Str
  | .len => "len" | .sorted => "sorted" | .list => "list" | .tuple => "tuple" | .min => "min" | .max => "max" | .sum => "sum" | .all => "all" | .any => "any" | .int => "int" | .str => "str"
  | _ => "isinstance"
/-- the class that an isinstance names -/
def Bi.cl : Bi → Option Str
  | .isInt => some "int" | .isBool => some "bool" | .isStr => some "str" | .isTuple => some "tuple" | .isList => some "list"
  | _ => none
def Bi.fresh : Bi → Bool
  | .sorted => true
  | .list => true
  | _ => false
def Mt.nm : Mt → Str
  | .strip => "strip" | .split => "split" | .join => "join" | .scount => "count" | .find => "find" | .sindex => "index" | .lcount => "count" | .tcount => "count" | .tindex => "index"
  | .append => "append" | .extend => "extend" | .pop => "pop" | .popAt => "pop" | .remove => "remove" | .get => "get" | .lindex => "index"
/-- served -/
def Mt.has : Mt → Bool
  | _ => true
def Mt.fresh : Mt → Bool
  | .split => true
  | _ => false
def Es.len : Es → Nat
  | .nil => 0
  | .cons _ es => es.len + 1
section
variable (T : Tab)
def E.fresh : E → Bool
  | .lst _ => true
  | .op _ _ _ => true
  | .sl _ _ _ => true
  | .bi f _ => f.fresh
  | .mth m _ _ => m.fresh
  | .lc _ _ _ _ => true
  | .call f _ => T.fresh f
  | .snap _ => true
  | .sset _ => true
  | _ => false
def tgOwn (N : List Str) : Tg → List (Str × Nat)
  | .one i => [(N.getD i "", i)]
  | .two i j => [(N.getD i "", i), (N.getD j "", j)]
/-- a name that may be stored: a local one, in a def's own frame a cell too -/
def locOk (cl : Bool) (sc : Scope) (x : Str) : Bool := decide (sc.names.lookup x = some .local) || (cl && decide (sc.names.lookup x = some .cell))
/-- a target that is stored in the scope -/
def tgOk (cl : Bool) (N : List Str) (sc : Scope) : Tg → Expr → Bool
  | .one i, .Name x _ => decide (N[i]? = some x) && locOk cl sc x
  | .two i j, .Tuple [.Name x _, .Name y _] _ _ => decide (N[i]? = some x) && locOk cl sc x && decide (N[j]? = some y) && locOk cl sc y && (i != j)
  | _, _ => false
mutual
def chk (N : List Str) (sc : Scope) : E → Expr → Bool
  | .var i, e => match e with
    | .Name x _ => decide (N[i]? = some x) && vis sc x && nameOk x
    | _ => false
  | .snap i, e => match e with
    | .Name x _ => decide (N[i]? = some x) && vis sc x && nameOk x
    | _ => false
  | .cst d, e => match e with
    | .Constant c _ _ => cstIs d c
    | _ => false
  | .glb x d, e => match e with
    | .Name y _ => decide (x = y) && glb sc y && (flatOf d).isSome && decide ((T.csts.lookup x).bind flatOf = flatOf d)
    | _ => false
  | .op o a b, e => match e with
    | .BinOp l p r _ => o.mt p && chk N sc a l && chk N sc b r
    | _ => false
  | .neg a, e => match e with
    | .UnaryOp .USub x _ => chk N sc a x
    | _ => false
  | .cmp o a b, e => match e with
    | .Compare l [p] [r] _ => o.mt p && !behindInMarks p r && chk N sc a l && chk N sc b r
    | _ => false
  | .chn o o' a b c, e => match e with
    | .Compare l [p, p'] [m, r] _ => o.mt p && o'.mt p' && !lastMarks [p, p'] [m, r] && chk N sc a l && chk N sc b m && chk N sc c r
    | _ => false
  | .not a, e => match e with
    | .UnaryOp .Not x _ => tOk x && chk N sc a x
    | _ => false
  | .and a b, e => match e with
    | .BoolOp .And (x :: y :: r) p => tOk x && tOk y && chk N sc a x && (match r with
      | [] => chk N sc b y
      | z :: r => chk N sc b (.BoolOp .And (y :: z :: r) p))
    | _ => false
  | .or a b, e => match e with
    | .BoolOp .Or (x :: y :: r) p => tOk x && tOk y && chk N sc a x && (match r with
      | [] => chk N sc b y
      | z :: r => chk N sc b (.BoolOp .Or (y :: z :: r) p))
    | _ => false
  | .ite c a b, e => match e with
    | .IfExp t x y _ => tOk t && chk N sc c t && chk N sc a x && chk N sc b y
    | _ => false
  | .tup es, e => match e with
    | .Tuple xs _ _ => chks N sc es xs
    | _ => false
  | .lst es, e => match e with
    | .List xs _ => chks N sc es xs
    | _ => false
  | .idx a b, e => match e with
    | .Subscript x y _ => notSl y && chk N sc a x && chk N sc b y
    | _ => false
  | .sl a lo hi, e => match e with
    | .Subscript x (.Slice l h none _) _ => chk N sc a x && chko N sc lo l && chko N sc hi h
    | _ => false
  | .rev _, _ => false
  | .dict es, e => match e with
    | .Dict ks vs _ => decide (ks.length ≤ 15) && chkd N sc es ks vs
    | _ => false
  | .call f es, e => match e with
    | .Call (.Name x _) (a :: as) [] _ => decide (T.names f = some x) && glb sc x && (a :: as).all notStar && chks N sc es (a :: as)
    | _ => false
  | .bi f es, e => match e with
    | .Call (.Name x _) (a :: as) [] _ => decide (x = f.nm) && glb sc x && (a :: as).all notStar && (match f.cl with
      | none => chks N sc es (a :: as)
      | some y => (match as with
        | [.Name z _] => decide (z = y) && glb sc z && chks N sc es [a]
        | _ => false))
    | _ => false
  | .mth m o es, e => match e with
    | .Call (.Attribute x n apos) as [] cpos => m.has && decide (n = m.nm) && (match as with
      | [] => decide (m = .pop)
      | _ => decide (m ≠ .pop)) && baseOk x && (apos.endLine == cpos.line) && as.all notStar && decide (as.length < 29) && chk N sc o x && chks N sc es as
    | _ => false
  | .lc elt tg it cond, e => match e with
    | .ListComp x [⟨t, i, ifs, a⟩] scope _ => decide (a = 0) && blkC N sc scope (tgOwn N tg) && tgOk false N (relS scope sc) tg t && notSet i && chki N sc it i && (match cond, ifs with
      | .none, [] => true
      | .some c, [k] => tOk k && chk N (relS scope sc) c k
      | _, _ => false) && chk N (relS scope sc) elt x
    | _ => false
  | .cell a, e => a.fresh T && plainT e && chk N sc a e
  | .sset a, e => match e with
    | .Call (.Name x _) [.Call (.Name y _) [b] [] _] [] _ => decide (x = "sorted") && glb sc x && decide (y = "set") && glb sc y && notStar b && chk N sc a b
    | _ => false
  | .lset a, e => match e with
    | .Call (.Name x _) [.Call (.Name y _) [b] [] _] [] _ => decide (x = "len") && glb sc x && decide (y = "set") && glb sc y && notStar b && chk N sc a b
    | _ => false
def chks (N : List Str) (sc : Scope) : Es → List Expr → Bool
  | .nil, l => match l with
    | [] => true
    | _ => false
  | .cons e es, l => match l with
    | x :: l => notStar x && chk N sc e x && chks N sc es l
    | _ => false
def chkd (N : List Str) (sc : Scope) : Es → List (Option Expr) → List Expr → Bool
  | .nil, ks, vs => match ks, vs with
    | [], [] => true
    | _, _ => false
  | .cons _ .nil, _, _ => false
  | .cons a (.cons b es), ks, vs => match ks, vs with
    | some k :: ks, v :: vs => chk N sc a k && chk N sc b v && chkd N sc es ks vs
    | _, _ => false
def chko (N : List Str) (sc : Scope) : Eo → Option Expr → Bool
  | .none, o => match o with
    | none => true
    | _ => false
  | .some e, o => match o with
    | some x => chk N sc e x
    | _ => false
def chki (N : List Str) (sc : Scope) : It → Expr → Bool
  | .e a, e => chk N sc a e
  | .rng1 a, e => match e with
    | .Call (.Name x _) [p] [] _ => decide (x = "range") && glb sc x && notStar p && chk N sc a p
    | _ => false
  | .rng2 a b, e => match e with
    | .Call (.Name x _) [p, q] [] _ => decide (x = "range") && glb sc x && notStar p && notStar q && chk N sc a p && chk N sc b q
    | _ => false
  | .rng3 _ _ _, _ => false
  | .zip _ _, _ => false
  | .enum _, _ => false
end
end
end SV
/-! SvL: the soundness of expressions. -/
namespace SV
open PySem PySem.Spec PyProof.Rows L2
variable {X : Cx} {pins : List (Addr × Obj)} {σ : L2.St} {H : Hp} {s : Shared} {P : Pg} {ms : List Addr} {F : Hp} {S : Store} {Ex : XQ} {W : WX}

/-! ### slices, cells, calls -/
def tO (P : Pg) (W : WX) (f : Env → Store → R (Option Int)) : TO := fun σ H Q => ∃ env ms F S, Slots P ms F σ env ∧ Sto P H ms F S ∧ match f env S with
  | .ok o S' => ∀ H' ms' F', Nx ms F ms' F' → Sto P H' ms' F' S' → Q o H'
  | .exc c S' => ∀ H' ms' F', Nx ms F ms' F' → Sto P H' ms' F' S' → ExW P W σ c H'
  | .bad => False
theorem _root_.L2.PO.imp {e : Option Expr} {t t' : TO} (h : PO X e t) (k : ∀ σ H Q, t' σ H Q → t σ H Q) : PO X e t' := ⟨fun pins s σ H Q I q => h.run pins s σ H Q I (k σ H Q q)⟩
theorem s_onone : PO X none (tO P W fun _ S => .ok none S) := po_none.imp fun σ H Q ⟨env, ms, F, S, hs, st, h⟩ => h H ms F (Nx.refl _ _) st
theorem s_osome {e : Expr} {f : Env → Store → R D} (h : PE X e (tE P W false f)) : PO X (some e) (tO P W fun env S => (f env S).bind fun x S => match x with
    | .int i => .ok (some i) S
    | _ => .bad) := (po_some h).imp fun σ H Q ⟨env, ms, F, S, hs, st, h⟩ => by
  refine ⟨env, ms, F, S, hs, st, ?_⟩
  dsimp only at h
  cases q : f env S with
  | bad =>
    rw [q] at h
    exact h
  | exc c S1 =>
    rw [q] at h
    exact h
  | ok d S1 =>
    rw [q] at h
    refine fun v H1 ms1 F1 nx st1 r => ?_
    cases r with
    | int i => exact ⟨i, rfl, h _ _ _ nx st1⟩
    | _ => exact h.elim
def slF (fa : Env → Store → R D) (fl fh : Env → Store → R (Option Int)) : Env → Store → R D := fun env S => (fa env S).bind fun x S => (fl env S).bind fun l S => (fh env S).bind fun h S => cutD x l h S
theorem s_sl {a : Expr} {lo hi : Option Expr} {pos p2 : Pos} {fa : Env → Store → R D} {fl fh : Env → Store → R (Option Int)} (hK : P.K = X.K) (ha : PE X a (tE P W false fa)) (hl : PO X lo (tO P W fl)) (hh : PO X hi (tO P W fh)) :
    PE X (.Subscript a (.Slice lo hi none p2) pos) (tE P W true (slF fa fl fh)) := (pe_slice (x_cut hK) ha hl hh).imp fun σ H Q ⟨env, ms, F, S, hs, st, h⟩ => by
  refine ⟨env, ms, F, S, hs, st, ?_⟩
  unfold slF at h
  cases q : fa env S with
  | bad =>
    rw [q] at h
    exact h
  | exc c S1 =>
    rw [q] at h
    exact h
  | ok d S1 =>
    rw [q] at h
    refine fun v H1 ms1 F1 nx st1 r => ⟨env, ms1, F1, S1, hs.mono nx, st1, ?_⟩
    dsimp only [R.bind_ok] at h
    cases q2 : fl env S1 with
    | bad =>
      rw [q2] at h
      exact h
    | exc c S2 =>
      rw [q2] at h
      exact fun H' ms' F' nx' => h H' ms' F' (nx.trans nx')
    | ok l S2 =>
      rw [q2] at h
      refine fun H2 ms2 F2 nx2 st2 => ⟨env, ms2, F2, S2, (hs.mono nx).mono nx2, st2, ?_⟩
      dsimp only [R.bind_ok] at h
      cases q3 : fh env S2 with
      | bad =>
        rw [q3] at h
        exact h
      | exc c S3 =>
        rw [q3] at h
        exact fun H' ms' F' nx' => h H' ms' F' ((nx.trans nx2).trans nx')
      | ok u S3 =>
        rw [q3] at h
        exact fun H3 ms3 F3 nx3 st3 => ⟨ms3, F3, S3, d, _, st3, (r.mono nx2).mono nx3, Post.nx ((nx.trans nx2).trans nx3) h⟩
/-- a new list put into a cell -/
def cellF (f : Env → Store → R D) : Env → Store → R D := fun env S => (f env S).bind fun x S => match x with
    | .lst l => .ok (.loc S.length) (S ++ [.lst l])
    | _ => .bad
theorem t_cell {f : Env → Store → R D} {σ : L2.St} {H : Hp} {Q : VK} (h : tE P W false (cellF f) σ H Q) : tE P W true f σ H Q := by
  obtain ⟨env, ms, F, S, hs, st, h⟩ := h
  unfold cellF at h
  refine ⟨env, ms, F, S, hs, st, ?_⟩
  cases q : f env S with
  | bad =>
    rw [q] at h
    exact h
  | exc c S1 =>
    rw [q] at h
    exact h
  | ok d S1 =>
    rw [q] at h
    cases d with
    | lst l =>
      refine fun p H1 ms1 F1 nx st1 fr => ?_
      obtain ⟨s2, nx2⟩ := st1.adopt fr
      refine h (.ref p) H1 _ F1 (nx.trans nx2) s2 (.loc ?_)
      rw [← st1.len, List.getElem?_append_right (Nat.le_refl _), Nat.sub_self]
      rfl
    | _ => exact h.elim
theorem s_cell {e : Expr} {f : Env → Store → R D} (h : PE X e (tE P W true f)) : PE X e (tE P W false (cellF f)) := h.imp fun σ H Q q => t_cell q
/-- a def's promise: what the evaluator answers -/
def spOf (P : Pg) (fr : Bool) (g : List D → Store → R D) : Sp := fun vs H Q E => ∃ pv ms F S ds, Sto (P.wp pv) H ms F S ∧ RepL P ms F vs ds ∧ Post (P.wp pv) ms F fr Q (fun c H' => ∀ C, P.mg (P.cls c) = some (.ref C) → E (.ref C) none H') (g ds S)
/-- a def that may be called here -/
def CallOk (X : Cx) (P : Pg) (fr : Bool) (g : List D → Store → R D) (x : Str) : Prop :=
  ∃ (k : Nat) (f : Addr) (fd : FuncData) (ps : List Str), FnOk X.prog X.w X.K X.mg X.base (L2.CX X.prog X.w) k f fd ps (spOf P fr g) ∧ X.mg x = some (.ref f) ∧ PySem.W.keepIn X.K (.ref f) = true ∧ Binds X.K fd ps [] ∧ Room k X.A
theorem s_call {a : Expr} {es : List Expr} {x : Str} {p pos : Pos} {fr : Bool} {g : List D → Store → R D} {fs : Env → Store → R (List D)} (tk : Takes X W) (hg : Gl X x) (hdb : (x == ("__debug__" : Str)) = false) (hc : CallOk X (P.wp []) fr g x) (ha : PA X (a :: es) (tA P W fs)) (h : (a :: es).all notStar = true) :
    PE X (.Call (.Name x p) (a :: es) [] pos) (tE P W fr (rowF fs g)) := by
  obtain ⟨k, f, fd, ps, F, hm, hk, hb, hr⟩ := hc
  rw [List.all_cons, Bool.and_eq_true] at h
  refine (pe_callS F hr hg hm hk hb (E := WE W) (fun σ => passAt tk σ) ha hdb (star_cons h.1) (back_any h.2)).imp fun σ H Q q => ?_
  obtain ⟨env, ms, F, S, sl, st, q⟩ := q
  exact ⟨env, ms, F, S, sl, st, q.row fun l S1 vs H1 ms1 F1 nx st1 rl h1 => ⟨P.pv, ms1, F1, S1, l, st1, rl.wp, h1⟩⟩
/-- what stands around -/
structure Ctx (T : Tab) (Γ : Nat → List D → Store → R D) (X : Cx) (P : Pg) : Prop where
  hK : P.K = X.K
  hPr : P.prog = X.prog
  hPw : P.w = X.w
  units : X.A.units + 64 < cLine
  calm : X.calm = true
  nd : X.N.Nodup
  blt : ∀ x ∈ (["len", "sorted", "list", "tuple", "min", "max", "sum", "all", "any", "int", "str", "isinstance", "bool", "range", "set"] : List Str), X.mg x = none
  csts : ∀ x d, T.csts.lookup x = some d → ∃ u v, X.mg x = some u ∧ RelV v u ∧ flatOf d = some v
  fns : ∀ f x, T.names f = some x → CallOk X (P.wp []) (T.fresh f) (Γ f) x
end SV
/-! SvL2: cells let go; displays of dicts; items stored. -/
namespace SV
open PySem PySem.Spec PyProof.Rows L2
variable {X : Cx} {pins : List (Addr × Obj)} {σ : L2.St} {H : Hp} {s : Shared} {P : Pg} {ms : List Addr} {F : Hp} {S : Store} {W : WX}
theorem plainKs_some : ∀ {l : List (D × D)} {ks : List Key}, plainKs l = some ks → l.map (·.1) = ks.map kD
  | [], ks, h => by cases h; rfl
  | (.int i, d) :: l, ks, h => by
    simp only [plainKs, Option.map_eq_some_iff] at h
    obtain ⟨m, h1, rfl⟩ := h
    simp only [List.map_cons, plainKs_some h1]
    rfl
  | (.str i, d) :: l, ks, h => by
    simp only [plainKs, Option.map_eq_some_iff] at h
    obtain ⟨m, h1, rfl⟩ := h
    simp only [List.map_cons, plainKs_some h1]
    rfl
  | (.non, _) :: _, _, h => by cases h
  | (.bl _, _) :: _, _, h => by cases h
  | (.tup _, _) :: _, _, h => by cases h
  | (.lst _, _) :: _, _, h => by cases h
  | (.scr _, _) :: _, _, h => by cases h
  | (.loc _, _) :: _, _, h => by cases h
  | (.fn _, _) :: _, _, h => by cases h
  | (.dctv _ _, _) :: _, _, h => by cases h
  | (.exn _, _) :: _, _, h => by cases h
/-- a dict that stays from now on -/
theorem Sto.freezeD {n : Nat} {a : Addr} {l : List (D × D)} {kvs : List (Key × V)} {od : Obj} (h : Sto P H ms F S) (ha : ms[n]? = some a) (hc : S[n]? = some (.dct l)) (hH : H a = some (.dK kvs)) (hF : F a = none) :
    Sto P (upd H a (.frz od (.dK kvs))) ms (upd F a (.frz od (.dK kvs))) (S.set n .dead) ∧ Nx ms F ms (upd F a (.frz od (.dK kvs))) := by
  have nx : Nx ms F ms (upd F a (.frz od (.dK kvs))) := ⟨fun _ _ e => e, fun b u e => by rw [upd_ne (ne_of_none e hF)]; exact e⟩
  have s1 := h.writeC (c' := .dead) (o := .frz od (.dK kvs)) ha hc (fun z => nomatch z) hF trivial
  have hl := (List.getElem?_eq_some_iff.mp hc).1
  refine ⟨⟨fun b u e => ?_, s1.len, s1.has, s1.inj, fun m b c e1 e2 => ?_, fun q hq => ?_⟩, nx⟩
  · by_cases hb : b = a
    · subst hb
      rw [upd_same] at e ⊢
      exact e
    · rw [upd_ne hb] at e ⊢
      exact h.sub _ _ e
  · by_cases hb : b = a
    · subst hb
      have : c = .dead := by
        rcases s1.inj m n b e1 ha with z | z | z
        · subst z
          rw [List.getElem?_set_self hl] at e2
          exact (Option.some.inj e2).symm
        · rw [e2] at z
          exact Option.some.inj z
        · by_cases hm : n = m
          · subst hm
            rw [List.getElem?_set_self hl] at e2
            exact (Option.some.inj e2).symm
          · rw [List.getElem?_set_ne hm] at e2
            rcases h.inj m n b e1 ha with z | z | z
            · exact absurd z.symm hm
            · rw [e2] at z
              exact Option.some.inj z
            · rw [hc] at z
              cases z
      subst this
      trivial
    · exact (s1.cell m b c e1 e2).mono nx rfl fun q => by rw [upd_ne hb]; exact q
  · obtain ⟨q1, q2, q3⟩ := s1.prv q hq
    have hn : q.1 ≠ a := fun z => by
      have := (h.prv q hq).2.2 n (z ▸ ha)
      rw [hc] at this
      cases this
    exact ⟨q1, by rw [upd_ne hn]; exact q2, q3⟩
/-- a cell let go -/
theorem s_snap {i : Nat} {x : Str} {pos : Pos} (hN : X.N[i]? = some x) (hv : Vis X.env.scope x) (hd : (x == ("__debug__" : Str)) = false) (hcd : (x == ("__classdict__" : Str)) = false) :
    PE X (.Name x pos) (tE P W true fun env S => match env.getD i none with
    | some (.loc n) => match S[n]? with
      | some (.lst l) => .ok (.lst l) (S.set n .dead)
      | some (.dct l) => snapD l n S
      | _ => .bad
    | _ => .bad) := ⟨fun pins s σ H Q I ⟨env, ms, F, S, hs, st, h⟩ => by
  dsimp only at h
  cases q : env.getD i none with
  | none =>
    rw [q] at h
    exact h.elim
  | some d =>
    rw [q] at h
    have e : env[i]? = some (some d) := by
      rw [List.getD_eq_getElem?_getD] at q
      cases z : env[i]? with
      | none => rw [z] at q; cases q
      | some o => rw [z] at q; exact congrArg some q
    obtain ⟨v, h1, h2⟩ := hs.2 i d e
    cases h2 with
    | @loc a n e1 =>
      dsimp only at h
      cases q2 : S[n]? with
      | none =>
        rw [q2] at h
        exact h.elim
      | some c =>
        cases c with
        | lst l =>
          rw [q2] at h
          obtain ⟨s2, f⟩ := st.snap e1 q2
          exact (pe_var hN hv hd hcd).run pins s σ H Q I ⟨.ref a, h1, h a H ms F (Nx.refl _ _) s2 f⟩
        | dct l =>
          rw [q2] at h
          dsimp only at h
          unfold snapD at h
          cases q3 : plainKs l with
          | none =>
            rw [q3] at h
            exact h.elim
          | some ks =>
            rw [q3] at h
            have ek := plainKs_some q3
            obtain ⟨hF, hl, ⟨kvs, g1, g2⟩ | ⟨hz, kvs, g1, g2⟩⟩ := st.cell n a _ e1 q2
            · refine thn ((pe_var hN hv hd hcd).run pins s σ H (fun v' H' => v' = .ref a ∧ H' = H) I ⟨.ref a, h1, rfl, rfl⟩) fun u s1 ⟨x', H1, I1, r1, ex, eh⟩ => ?_
              subst ex eh
              obtain ⟨od, I2⟩ := I1.lock g1 trivial
              obtain ⟨s2, nx⟩ := st.freezeD (od := od) e1 q2 g1 hF
              have kk : ∀ {kvs : List (Key × V)} {l : List (D × D)}, Paired (PK P ms F) kvs l → l.map (·.1) = (kvs.map (·.1)).map kD ∧ RepL P ms F (kvs.map (·.2)) (l.map (·.2)) := fun g => by
                induction g with
                | nil => exact ⟨rfl, .nil⟩
                | cons hh t ih =>
                  refine ⟨?_, .cons hh.2 ih.2⟩
                  rw [List.map_cons, ih.1, hh.1]
                  rfl
              obtain ⟨k1, k2⟩ := kk g2
              have ek2 : kvs.map (·.1) = ks := List.map_inj_right (fun _ _ z => kD_inj2 z) |>.mp (k1.symm.trans ek)
              exact ⟨.ref a, _, I2, r1, h (.ref a) _ ms _ nx s2 (.dctv upd_same ek2 (k2.mono nx))⟩
            · exfalso
              cases g2 with
              | nil => exact hz.2 rfl
              | @cons x p xs ps hh t =>
                have e2 := hh.1
                have e3 := hh.2.2.1
                cases ks with
                | nil => cases ek
                | cons k ks =>
                  simp only [List.map_cons, List.cons.injEq] at ek
                  rw [ek.1] at e2
                  cases k <;> cases e2
        | _ =>
          rw [q2] at h
          exact h.elim
    | _ => exact h.elim⟩

/-! ### an item stored -/
noncomputable def putF (fo fi fv : Env → Store → R D) : Env → Store → R Unit := fun env S => (fv env S).bind fun z S => (fo env S).bind fun x S => (fi env S).bind fun y S => putD x y z S
/-- what is wanted of no value -/
def PostU (P : Pg) (ms : List Addr) (F : Hp) (Q : Hp → Prop) (Ex : XQ) : R Unit → Prop
  | .ok _ S => ∀ H' ms' F', Nx ms F ms' F' → Sto P H' ms' F' S → Q H'
  | .exc c S => ∀ H' ms' F', Nx ms F ms' F' → Sto P H' ms' F' S → Ex c H'
  | .bad => False
theorem put_run {A : Around} {E : Value → Shared → Prop} {Q : Hp → Prop} {Ex : XQ} {x y z : V} {dx dy dz : D} {vx vy vz : Value} (hA : A = X.A) (hE : E = X.xe) (hu : X.A.units + 64 < cLine) (hp : P.prog = X.prog) (hw : P.w = X.w) (I : Inv X pins σ H s) (st : Sto P H ms F S) (rx : Rep P ms F x dx) (ry : Rep P ms F y dy) (rz : Rep P ms F z dz) (ux : RelV x vx) (uy : RelV y vy) (uz : RelV z vz)
    (h : PostU P ms F Q Ex (putD dx dy dz S)) : wpAny (model X.prog X.w) A (setItem vx vy vz) (fun _ s' => ∃ H', Inv X pins σ H' s' ∧ Q H') E s := by
  subst hA hE
  cases rx with
  | @loc a n ha =>
    cases (show vx = Value.ref a from ux)
    cases q : S[n]? with
    | none =>
      simp only [putD, q] at h
      exact h.elim
    | some c =>
      cases c with
      | lst l =>
        cases ry with
        | int i =>
          simp only [putD, q] at h
          cases q2 : L2.ixN l.length i with
          | none =>
            rw [q2] at h
            exact h.elim
          | some j =>
            rw [q2] at h
            obtain ⟨_, xs, h1, h2⟩ := st.cell n a _ ha q
            exact set_list pins s σ H (.ref a) (.int i) z _ _ _ Q I rfl uy uz ⟨a, xs, i, j, rfl, rfl, h1, by rw [h2.length]; exact q2, h _ _ _ (Nx.refl _ _) (st.write ha q (h2.set rz j))⟩
        | _ =>
          simp only [putD, q] at h
          exact h.elim
      | dct l =>
        simp only [putD, q] at h
        by_cases c : (okIn l dy && decide (l.length < 16000000)) = true
        · rw [if_pos c] at h
          rw [Bool.and_eq_true] at c
          exact dc_put hu hp hw I st ha q c.1 (of_decide_eq_true c.2) ry uy rz uz fun H' s' I' st' => ⟨H', I', h _ _ _ (Nx.refl _ _) st'⟩
        · rw [if_neg c] at h
          exact h.elim
      | _ =>
        simp only [putD, q] at h
        exact h.elim
  | _ => exact h.elim

/-! ### displays of dicts -/
def flatP (ps : List (V × V)) : List V := ps.flatMap fun p => [p.1, p.2]
/-- what a display's pairs ask -/
def PairsOk (X : Cx) (P : Pg) (W : WX) (fs : Env → Store → R (List D)) (ks : List (Option Expr)) (vs : List Expr) : Prop := ∀ pos, ∃ trs, PPs X pos ks vs trs ∧ ks.all (·.isSome) = true ∧ ks.length = vs.length ∧
  ∀ (pv : List (Addr × HO)) (σ : L2.St) (env : Env) (ms : List Addr) (F H : Hp) (S : Store) (Q : List (V × V) → Hp → Prop), Slots (P.wp pv) ms F σ env → Sto (P.wp pv) H ms F S → PostL (P.wp pv) ms F (fun us H' => ∀ ps, flatP ps = us → Q ps H') (ExW P W σ) (fs env S) → tPairs trs σ H Q
theorem pairs_nil : PairsOk X P W (fun _ S => .ok [] S) [] [] := fun pos => ⟨[], pps_nil, rfl, rfl, fun pv σ env ms F H S Q hs st h => h [] H ms F (Nx.refl _ _) st .nil [] rfl⟩
theorem pairs_cons {a b : Expr} {fa fb : Env → Store → R D} {fs : Env → Store → R (List D)} {ks : List (Option Expr)} {vs : List Expr} (ha : ∀ pv, PE X a (tE (P.wp pv) W false fa)) (hb : ∀ pv, PE X b (tE (P.wp pv) W false fb)) (h : PairsOk X P W fs ks vs) :
    PairsOk X P W (fun env S => (fa env S).bind fun x S => ((fb env S).bind fun y S => (fs env S).bind fun l S => .ok (y :: l) S).bind fun l S => .ok (x :: l) S) (some a :: ks) (b :: vs) := fun pos => by
  obtain ⟨trs, h1, h2, h3, h4⟩ := h pos
  refine ⟨(tEx P W fa, tEx P W fb) :: trs, pps_cons (s_ex ha) (s_ex hb) h1, by simpa using h2, by simp [h3], fun pv σ env ms F H S Q hs st q => ?_⟩
  refine ⟨pv, env, ms, F, S, hs, st, q.step fun x S1 v H1 ms1 F1 nx st1 rx q1 => ?_⟩
  have q2 : PostL (P.wp pv) ms1 F1 (fun us H' => ∀ ps, flatP ps = v :: us → Q ps H') (ExW P W σ) ((fb env S1).bind fun y S => (fs env S).bind fun l S => .ok (y :: l) S) :=
    q1.more fun l S2 us H2 ms2 F2 nx2 st2 rl z => z (v :: us) H2 ms2 F2 (Nx.refl _ _) st2 (.cons (rx.mono nx2) rl)
  refine ⟨pv, env, ms1, F1, S1, hs.mono nx, st1, q2.step fun y S2 u H2 ms2 F2 nx2 st2 ry q3 => ?_⟩
  have q4 : PostL (P.wp pv) ms2 F2 (fun us H' => ∀ ps, flatP ps = v :: u :: us → Q ps H') (ExW P W σ) (fs env S2) :=
    q3.more fun l S3 us H3 ms3 F3 nx3 st3 rl z => z (u :: us) H3 ms3 F3 (Nx.refl _ _) st3 (.cons (ry.mono nx3) rl)
  refine h4 pv σ env ms2 F2 H2 S2 _ ((hs.mono nx).mono nx2) st2 ?_
  cases q5 : fs env S2 with
  | bad =>
    rw [q5] at q4
    exact q4
  | exc c S3 =>
    rw [q5] at q4
    exact q4
  | ok l S3 =>
    rw [q5] at q4
    intro us H3 ms3 F3 nx3 st3 rl ps e
    exact q4 us H3 ms3 F3 nx3 st3 rl ((v, u) :: ps) (by rw [← e]; rfl)
theorem pairsD_some : ∀ {l : List D} {ps : List (D × D)}, pairsD l = some ps → l = ps.flatMap (fun p => [p.1, p.2]) ∧ ∀ p ∈ ps, ∃ q : Key, p.1 = kD q
  | [], ps, h => by cases h; exact ⟨rfl, fun p hp => nomatch hp⟩
  | [_], _, h => by cases h
  | k :: v :: l, ps, h => by
    unfold pairsD at h
    by_cases c : (okKeyD k && !isTup k) = true
    · rw [if_pos c] at h
      rw [Bool.and_eq_true, Bool.not_eq_true'] at c
      obtain ⟨m, h1, rfl⟩ := Option.map_eq_some_iff.mp h
      obtain ⟨h2, h3⟩ := pairsD_some h1
      refine ⟨by rw [List.flatMap_cons, ← h2]; rfl, fun p hp => ?_⟩
      rcases List.mem_cons.mp hp with rfl | hp
      · exact plainKey (okKey_ok c.1).1 c.2
      · exact h3 p hp
    · rw [if_neg c] at h
      cases h
theorem rep_pairs : ∀ {ps : List (D × D)} {vs : List (V × V)}, (∀ p ∈ ps, ∃ q : Key, p.1 = kD q) → RepL P ms F (flatP vs) (ps.flatMap fun p => [p.1, p.2]) → ∃ kvs : List (Key × V), vs = kvs.map (fun kv => (kV kv.1, kv.2)) ∧ Paired (PK P ms F) kvs ps
  | [], [], _, _ => ⟨[], rfl, .nil⟩
  | [], _ :: _, _, r => by cases r
  | p :: ps, [], _, r => by cases r
  | p :: ps, (x, y) :: vs, h, r => by
    have r' : RepL P ms F (x :: y :: flatP vs) (p.1 :: p.2 :: ps.flatMap fun p => [p.1, p.2]) := r
    cases r' with
    | cons r1 t =>
      cases t with
      | cons r2 t =>
        obtain ⟨kvs, e, q⟩ := rep_pairs (fun p hp => h p (List.mem_cons_of_mem _ hp)) t
        obtain ⟨k, hk⟩ := h p List.mem_cons_self
        rw [hk] at r1
        have := rep_kV r1
        subst this
        exact ⟨(k, y) :: kvs, by rw [e]; rfl, .cons ⟨hk, r2⟩ q⟩
theorem pk_merge {l : List (D × D)} {kvs : List (Key × V)} (h : Paired (PK P ms F) kvs l) : ∀ {acc : List (D × D)} {ac : List (Key × V)}, Paired (PK P ms F) ac acc → Paired (PK P ms F) (mergeK ac kvs) (l.foldl (fun acc p => dPut acc p.1 p.2) acc) := by
  induction h with
  | nil => intro acc ac q; exact q
  | @cons a b as bs h t ih =>
    intro acc ac q
    have := pk_put q a.1 h.2
    rw [← h.1] at this
    exact ih this
theorem merge_len : ∀ (l acc : List (D × D)), (l.foldl (fun acc p => dPut acc p.1 p.2) acc).length ≤ acc.length + l.length
  | [], acc => by simp
  | p :: l, acc => by
    have h1 := merge_len l (dPut acc p.1 p.2)
    have h2 := dPut_len (l := acc) (k := p.1) (v := p.2)
    rw [List.foldl_cons, List.length_cons]
    omega
/-- a thing of one's own, written -/
theorem Sto.own {p : Addr} {o : HO} (h : Sto P H ms F S) (hF : F p = none) (hd : ∀ (n : Nat), ms[n]? = some p → S[n]? = some .dead) (hpv : ∀ q ∈ P.pv, q.1 ≠ p) : Sto P (upd H p o) ms F S := by
  refine ⟨fun b u e => ?_, h.len, fun n a e => ?_, h.inj, fun n a c e1 e2 => ?_, fun q hq => ?_⟩
  · rw [upd_ne (ne_of_none e hF)]
    exact h.sub _ _ e
  · by_cases ha : a = p
    · subst ha
      rw [upd_same]
      exact fun z => nomatch z
    · rw [upd_ne ha]
      exact h.has n a e
  · by_cases ha : a = p
    · subst ha
      have := hd n e1
      rw [e2] at this
      cases this
      trivial
    · exact (h.cell n a c e1 e2).mono (Nx.refl _ _) (upd_ne ha) fun q => q
  · obtain ⟨q1, q2, q3⟩ := h.prv q hq
    exact ⟨by rw [upd_ne (hpv q hq)]; exact q1, q2, q3⟩
theorem s_dict0 {pos : Pos} : PE X (.Dict [] [] pos) (tE P W false (rowF (fun _ S => .ok [] S) dispR)) := pe_dnewK.imp fun σ H Q ⟨env, ms, F, S, hs, st, h⟩ => fun p hp => by
  have hF := st.nof hp
  have s1 : Sto P (upd H p (.dK [])) ms F S := st.free hp
  obtain ⟨s2, nx⟩ := s1.adoptD (p := p) (l := []) hF (fun n e => absurd hp (st.has n p e)) (fun q hq => ne_of_none (st.prv q hq).1 hp) (by rw [upd_same]; exact fun z => nomatch z) ⟨by decide, .inl ⟨[], upd_same, .nil⟩⟩
  refine h (.ref p) _ _ _ nx s2 (.loc ?_)
  rw [← st.len, List.getElem?_append_right (Nat.le_refl _), Nat.sub_self]
  rfl
theorem s_disp {pos : Pos} {fs : Env → Store → R (List D)} {ks : List (Option Expr)} {vs : List Expr} (h : PairsOk X P W fs ks vs) (hne : ks ≠ []) (h15 : ks.length ≤ 15) : PE X (.Dict ks vs pos) (tE P W false (rowF fs dispR)) := by
  obtain ⟨trs, h1, h2, h3, h4⟩ := h pos
  refine (pe_disp h1 h2 h3 hne h15).imp fun σ H Q ⟨env, ms, F, S, hs, st, q⟩ => fun p hp => ?_
  have hF := st.nof hp
  have s1 : Sto P (upd H p (.dK [])) ms F S := st.free hp
  have s2 : Sto (P.wp ((p, .dK []) :: P.pv)) (upd H p (.dK [])) ms F S := ⟨s1.sub, s1.len, s1.has, s1.inj, fun n a c e1 e2 => (s1.cell n a c e1 e2).wp, fun z hz => by
    rcases List.mem_cons.mp hz with rfl | hz
    · exact ⟨upd_same, hF, fun n e => absurd hp (st.has n p e)⟩
    · exact s1.prv z hz⟩
  refine h4 ((p, .dK []) :: P.pv) σ env ms F _ S _ ⟨hs.1, fun i d e => let ⟨v, a, b⟩ := hs.2 i d e; ⟨v, a, b.wp⟩⟩ s2 ?_
  unfold rowF at q
  cases q1 : fs env S with
  | bad =>
    rw [q1] at q
    exact q
  | exc c S1 =>
    rw [q1] at q
    intro H' ms' F' nx st'
    exact q H' ms' F' nx ⟨st'.sub, st'.len, st'.has, st'.inj, fun n a c e1 e2 => CellOk.wp (P := P.wp ((p, .dK []) :: P.pv)) (pv := P.pv) (st'.cell n a c e1 e2), fun z hz => st'.prv z (List.mem_cons_of_mem _ hz)⟩
  | ok l S1 =>
    rw [q1] at q
    intro us H' ms' F' nx st' rl ps e
    subst e
    have qd : Post P ms F false Q (ExW P W σ) (dispR l S1) := q
    clear q
    unfold dispR at qd
    cases q2 : pairsD l with
    | none =>
      rw [q2] at qd
      exact qd.elim
    | some prs =>
      rw [q2] at qd
      dsimp only at qd
      by_cases c : prs.length ≤ 15
      · rw [if_pos c] at qd
        obtain ⟨e1, e2⟩ := pairsD_some q2
        subst e1
        have pv' : ∀ z ∈ P.pv, z.1 ≠ p := fun z hz => ne_of_none (st.prv z hz).1 hp
        obtain ⟨g1, g2, g3⟩ := st'.prv (p, .dK []) List.mem_cons_self
        have s3 : Sto P H' ms' F' S1 := ⟨st'.sub, st'.len, st'.has, st'.inj, fun n a c e1 e2 => CellOk.wp (P := P.wp ((p, .dK []) :: P.pv)) (pv := P.pv) (st'.cell n a c e1 e2), fun z hz => st'.prv z (List.mem_cons_of_mem _ hz)⟩
        obtain ⟨kvs, ek, pk⟩ := rep_pairs e2 rl.un
        refine ⟨g1, kvs, ek, by rw [Paired.length pk]; exact c, ?_⟩
        have s4 := s3.own (o := .dK (mergeK [] kvs)) g2 g3 pv'
        obtain ⟨s5, nx2⟩ := s4.adoptD (p := p) (l := prs.foldl (fun acc p => dPut acc p.1 p.2) []) g2 g3 pv' (by rw [upd_same]; exact fun z => nomatch z) ⟨by have := merge_len prs []; rw [List.length_nil] at this; omega, .inl ⟨_, upd_same, pk_merge pk .nil⟩⟩
        refine qd (.ref p) _ _ _ (nx.trans nx2) s5 (.loc ?_)
        rw [← s3.len, List.getElem?_append_right (Nat.le_refl _), Nat.sub_self]
        rfl
      · rw [if_neg c] at qd
        exact qd.elim
end SV
/-! SvM: the soundness of the checker, expressions. -/
namespace SV
open PySem PySem.Spec PyProof.Rows L2
theorem bt_len : bootBuiltins "len" = some (.builtin "len") := by decide +kernel
theorem bt_sorted : bootBuiltins "sorted" = some (.builtin "sorted") := by decide +kernel
theorem bt_list : bootBuiltins "list" = some (.type "list") := by decide +kernel
theorem bt_tuple : bootBuiltins "tuple" = some (.type "tuple") := by decide +kernel
theorem bt_min : bootBuiltins "min" = some (.builtin "min") := by decide +kernel
theorem bt_max : bootBuiltins "max" = some (.builtin "max") := by decide +kernel
theorem bt_sum : bootBuiltins "sum" = some (.builtin "sum") := by decide +kernel
theorem bt_all : bootBuiltins "all" = some (.builtin "all") := by decide +kernel
theorem bt_any : bootBuiltins "any" = some (.builtin "any") := by decide +kernel
theorem bt_int : bootBuiltins "int" = some (.type "int") := by decide +kernel
theorem bt_str : bootBuiltins "str" = some (.type "str") := by decide +kernel
theorem bt_set : bootBuiltins "set" = some (.type "set") := by decide +kernel
theorem bt_bool : bootBuiltins "bool" = some (.type "bool") := by decide +kernel

variable {T : Tab} {Γ : Nat → List D → Store → R D} {X : Cx} {P : Pg} {W : WX}
theorem glb_ok {sc : Scope} {x : Str} (hs : X.env.scope = sc) (h : glb sc x = true) : Gl X x ∧ (x == ("__debug__" : Str)) = false ∧ (x == ("__classdict__" : Str)) = false ∧ x ≠ "__name__" := by
  unfold glb at h
  simp only [Bool.and_eq_true, Bool.not_eq_true', decide_eq_true_eq] at h
  obtain ⟨⟨⟨h1, h2⟩, h3⟩, h4⟩ := h
  refine ⟨?_, h2, h3, fun e => ?_⟩
  · show X.env.scope.names.lookup x = _
    rw [hs]
    exact h1
  · rw [e] at h4
    exact absurd h4 (by decide)
theorem vis_ok {sc : Scope} {x : Str} (hs : X.env.scope = sc) (h : vis sc x = true) : Vis X.env.scope x := by
  rw [hs]
  unfold vis at h
  unfold Vis
  split at h
  · exact .inl ‹_›
  · exact .inr (.inl ‹_›)
  · exact .inr (.inr ‹_›)
  · cases h
theorem name_ok {x : Str} (h : nameOk x = true) : (x == ("__debug__" : Str)) = false ∧ (x == ("__classdict__" : Str)) = false := by
  unfold nameOk at h
  simpa only [Bool.and_eq_true, Bool.not_eq_true'] using h
section
variable {a : Expr} {es : List Expr} {x : Str} {p pos : Pos} {fs : Env → Store → R (List D)}
theorem s_bi {f : Bi} (c : Ctx T Γ X P) (hg : Gl X x) (hdb : (x == ("__debug__" : Str)) = false) (hn : x ≠ "__name__") (hf : f.cl = none) (hx : x = f.nm) (ha : PA X (a :: es) (tA P W fs)) (h : (a :: es).all notStar = true) :
    PE X (.Call (.Name x p) (a :: es) [] pos) (tE P W f.fresh (rowF fs f.app)) := by
  have hm : X.mg x = none := c.blt x (by rw [hx]; cases f <;> first | decide +kernel | cases hf)
  subst hx
  cases f with
  | len => exact s_callB (fun Ex => b_len c.hK) hg hm bt_len ha hn hdb h
  | sorted => exact s_callB (fun Ex => b_sorted c.hK c.units c.calm) hg hm bt_sorted ha hn hdb h
  | list => exact s_callT (fun Ex => b_list c.hK c.calm) hg hm bt_list ha hn hdb h
  | tuple => exact s_callT (fun Ex => b_tuple c.hK) hg hm bt_tuple ha hn hdb h
  | min => exact s_callB (fun Ex => b_min c.hK c.units c.calm) hg hm bt_min ha hn hdb h
  | max => exact s_callB (fun Ex => b_max c.hK c.units c.calm) hg hm bt_max ha hn hdb h
  | sum => exact s_callB (fun Ex => b_sum c.hK c.calm) hg hm bt_sum ha hn hdb h
  | all => exact s_callB (fun Ex => b_all c.hK c.calm) hg hm bt_all ha hn hdb h
  | any => exact s_callB (fun Ex => b_any c.hK c.calm) hg hm bt_any ha hn hdb h
  | int => exact s_callT (fun Ex => b_int) hg hm bt_int ha hn hdb h
  | str => exact s_callT (fun Ex => b_str) hg hm bt_str ha hn hdb h
  | _ => cases hf
theorem s_isiB {fa : Env → Store → R D} {y : Str} {p2 : Pos} {f : Bi} (c : Ctx T Γ X P) (hg : Gl X "isinstance") (hg2 : Gl X y) (hn2 : y ≠ "__name__") (hdb2 : (y == ("__debug__" : Str)) = false) (hf : f.cl = some y) (ha : PE X a (tE P W false fa)) (h : notStar a = true) :
    PE X (.Call (.Name "isinstance" p) [a, .Name y p2] [] pos) (tE P W false fun env S => (fa env S).bind fun x S => f.app [x] S) := by
  have hm : X.mg "isinstance" = none := c.blt _ (by decide +kernel)
  have hm2 : X.mg y = none := c.blt y (by cases f <;> first | (cases hf; decide +kernel) | cases hf)
  cases f with
  | isInt =>
    cases hf
    exact s_isi (b_isi c.hK (fun _ _ => rfl) PySem.W.isinstance_int_data) hg hm hg2 hm2 bt_int ha hn2 hdb2 h
  | isBool =>
    cases hf
    exact s_isi (b_isi c.hK (fun _ _ => rfl) PySem.W.isinstance_bool_data) hg hm hg2 hm2 bt_bool ha hn2 hdb2 h
  | isStr =>
    cases hf
    exact s_isi (b_isi c.hK (fun _ _ => rfl) PySem.W.isinstance_str_data) hg hm hg2 hm2 bt_str ha hn2 hdb2 h
  | isTuple =>
    cases hf
    exact s_isi (b_isi c.hK (fun _ _ => rfl) PySem.W.isinstance_tuple_data) hg hm hg2 hm2 bt_tuple ha hn2 hdb2 h
  | isList =>
    cases hf
    exact s_isi (b_isi c.hK (fun _ _ => rfl) PySem.W.isinstance_list_data) hg hm hg2 hm2 bt_list ha hn2 hdb2 h
  | _ => cases hf
end
section
variable {o : Expr} {es : List Expr} {apos cpos : Pos} {fo : Env → Store → R D} {fs : Env → Store → R (List D)}
theorem recv_str {m : Mt} (h : m = .strip ∨ m = .split ∨ m = .join ∨ m = .scount ∨ m = .find ∨ m = .sindex) (d : D) (S : Store) (c : m.recv d S = true) : ∃ z, d = .str z := by
  rcases h with rfl | rfl | rfl | rfl | rfl | rfl <;> cases d <;> first | exact ⟨_, rfl⟩ | cases c
theorem ty_lcount (H : Hp) (ms : List Addr) (F : Hp) (S : Store) (x : V) (d : D) (st : Sto P H ms F S) (r : Rep P ms F x d) (c : Mt.lcount.recv d S = true) : Ty X "list" x H := by
  cases r with
  | lst h1 h2 => exact ty_of (.inl ⟨rfl, _, .inl (.inl (st.sub _ _ h1))⟩)
  | @loc a n e =>
    cases q : S[n]? with
    | none => simp [Mt.recv, q] at c
    | some z =>
      cases z with
      | lst l =>
        obtain ⟨_, xs, h1, _⟩ := st.cell _ _ _ e q
        exact ty_of (.inl ⟨rfl, xs, .inl (.inl h1)⟩)
      | _ => simp [Mt.recv, q] at c
  | _ => cases c
theorem ty_lindex (H : Hp) (ms : List Addr) (F : Hp) (S : Store) (x : V) (d : D) (st : Sto P H ms F S) (r : Rep P ms F x d) (c : Mt.lindex.recv d S = true) : Ty X "list" x H := by
  cases r with
  | lst h1 h2 => exact ty_of (.inl ⟨rfl, _, .inl (.inl (st.sub _ _ h1))⟩)
  | @loc a n e =>
    cases q : S[n]? with
    | none => simp [Mt.recv, q] at c
    | some z =>
      cases z with
      | lst l =>
        obtain ⟨_, xs, h1, _⟩ := st.cell _ _ _ e q
        exact ty_of (.inl ⟨rfl, xs, .inl (.inl h1)⟩)
      | _ => simp [Mt.recv, q] at c
  | _ => cases c
theorem ty_tup' {m : Mt} (hm : m = .tcount ∨ m = .tindex) (H : Hp) (ms : List Addr) (F : Hp) (S : Store) (x : V) (d : D) (st : Sto P H ms F S) (r : Rep P ms F x d) (c : m.recv d S = true) : Ty X "tuple" x H := by
  cases r with
  | tup h1 h2 h3 => exact ty_tup st h1 h2
  | _ => rcases hm with rfl | rfl <;> cases c
theorem s_mt {e : Expr} {m : Mt} (c : Ctx T Γ X P) (hh : m.has = true) (hp : m ≠ .pop) (ho : PE X o (tE P W false fo)) (ha : PA X (e :: es) (tA P W fs)) (hb : baseOk o = true) (hl : (apos.endLine == cpos.line) = true) (hs : (e :: es).all notStar = true) (hz : (e :: es).length < 29) :
    PE X (.Call (.Attribute o m.nm apos) (e :: es) [] cpos) (tE P W m.fresh (mthF m fo fs)) := by
  cases m with
  | strip => exact s_mth PySem.F.plainAttrs_str PySem.F.slot_str_strip PySem.F.type_str_strip (fun Ex => m_strip) (ty_str (recv_str (.inl rfl))) ho ha hb hl hs hz
  | split => exact s_mth PySem.F.plainAttrs_str PySem.F.slot_str_split PySem.F.type_str_split (fun Ex => m_split) (ty_str (recv_str (.inr (.inl rfl)))) ho ha hb hl hs hz
  | join => exact s_mth PySem.F.plainAttrs_str PySem.F.slot_str_join PySem.F.type_str_join (fun Ex => m_join c.hK) (ty_str (recv_str (.inr (.inr (.inl rfl))))) ho ha hb hl hs hz
  | scount => exact s_mth PySem.F.plainAttrs_str PySem.F.slot_str_count PySem.F.type_str_count (fun Ex => m_scount) (ty_str (recv_str (.inr (.inr (.inr (.inl rfl)))))) ho ha hb hl hs hz
  | find => exact s_mth PySem.F.plainAttrs_str PySem.F.slot_str_find PySem.F.type_str_find (fun Ex => m_find) (ty_str (recv_str (.inr (.inr (.inr (.inr (.inl rfl))))))) ho ha hb hl hs hz
  | lcount => exact s_mth PySem.F.plainAttrs_list PySem.F.slot_list_count PySem.F.type_list_count (fun Ex => m_lcount c.hK c.units) ty_lcount ho ha hb hl hs hz
  | tcount => exact s_mth PySem.F.plainAttrs_tuple PySem.F.slot_tuple_count PySem.F.type_tuple_count (fun Ex => m_tcount c.hK c.units) (ty_tup' (.inl rfl)) ho ha hb hl hs hz
  | tindex => exact s_mth PySem.F.plainAttrs_tuple PySem.F.slot_tuple_index PySem.F.type_tuple_index (fun Ex => m_tindex) (ty_tup' (.inr rfl)) ho ha hb hl hs hz
  | append => exact s_mth PySem.F.plainAttrs_list PySem.F.slot_list_append PySem.F.type_list_append (fun Ex => m_append) (ty_cell (recv_cell (.inl rfl))) ho ha hb hl hs hz
  | extend => exact s_mth PySem.F.plainAttrs_list PySem.F.slot_list_extend PySem.F.type_list_extend (fun Ex => m_extend) (ty_cell (recv_cell (.inr (.inl rfl)))) ho ha hb hl hs hz
  | popAt => exact s_mth PySem.F.plainAttrs_list PySem.F.slot_list_pop PySem.F.type_list_pop (fun Ex => m_popAt) (ty_cell (recv_cell (.inr (.inr (.inr (.inl rfl)))))) ho ha hb hl hs hz
  | pop => exact absurd rfl hp
  | sindex => exact s_mth PySem.F.plainAttrs_str PySem.F.slot_str_index PySem.F.type_str_index (fun Ex => m_sindex) (ty_str (recv_str (.inr (.inr (.inr (.inr (.inr rfl))))))) ho ha hb hl hs hz
  | remove => exact s_mth PySem.F.plainAttrs_list PySem.F.slot_list_remove PySem.F.type_list_remove (fun Ex => m_remove c.hK c.units) (ty_cell (recv_cell (.inr (.inr (.inr (.inr rfl)))))) ho ha hb hl hs hz
  | get => exact s_mth PySem.F.plainAttrs_dict PySem.F.slot_dict_get PySem.F.type_dict_get (fun Ex => m_get c.hPr c.hPw c.units) ty_dct ho ha hb hl hs hz
  | lindex => exact s_mth PySem.F.plainAttrs_list PySem.F.slot_list_index PySem.F.type_list_index (fun Ex => m_lindex c.hK) ty_lindex ho ha hb hl hs hz
theorem s_pop (c : Ctx T Γ X P) (ho : PE X o (tE P W false fo)) (hb : baseOk o = true) (hl : (apos.endLine == cpos.line) = true) : PE X (.Call (.Attribute o Mt.pop.nm apos) [] [] cpos) (tE P W false (mthF .pop fo fun _ S => .ok [] S)) :=
  s_mth0 PySem.F.plainAttrs_list PySem.F.slot_list_pop PySem.F.type_list_pop (fun Ex => m_pop) (ty_cell (recv_cell (.inr (.inr (.inl rfl))))) ho hb hl
end
/-- the context of a comprehension's block -/
theorem Ctx.blk (c : Ctx T Γ X P) (pv : List (Addr × HO)) (s : Shared) (H : Hp) (scope : Scope) (cenv : PySem.Env) (fp : List Addr) : Ctx T Γ (X.blk s H scope cenv fp) (P.wp pv) :=
  ⟨c.hK, c.hPr, c.hPw, c.units, c.calm, c.nd, c.blt, c.csts, c.fns⟩
theorem Ctx.wp (c : Ctx T Γ X P) (pv : List (Addr × HO)) : Ctx T Γ X (P.wp pv) := ⟨c.hK, c.hPr, c.hPw, c.units, c.calm, c.nd, c.blt, c.csts, c.fns⟩
theorem set_ok {iter : Expr} {env : PySem.Env} (h : notSet iter = true) : ∀ x, foldedSetIterable iter env x = pure x := by
  intro x
  cases iter <;> first | rfl | cases h
theorem test_ok {e : Expr} {env : PySem.Env} (h : plainT e = true) : ∀ whole, isTrue e env whole = (do let v ← whole; standAt e.pos; holding [v] (truthy v)) := by
  intro whole
  cases e <;> first | rfl | cases h
theorem neg_test {e : Expr} {p : Pos} {env : PySem.Env} : ∀ whole, isTrue (.UnaryOp .USub e p) env whole = (do let v ← whole; standAt (Expr.UnaryOp .USub e p).pos; holding [v] (truthy v)) := fun _ => rfl
end SV
/-! SvN: the soundness of the checker, expressions: the induction. -/
namespace SV
open PySem PySem.Spec PyProof.Rows L2
variable {T : Tab} {Γ : Nat → List D → Store → R D}
theorem cst_ok {X : Cx} {P : Pg} {W : WX} {d : D} {c : Const} {j : Nat} {pos : Pos} (h : cstIs d c = true) : PE X (.Constant c j pos) (tE P W false fun _ S => .ok d S) := by
  cases d <;> cases c <;> first | cases h | skip
  · exact s_cst pe_non fun _ _ => .non
  · have h := of_decide_eq_true h
    subst h
    exact s_cst pe_bl fun _ _ => .bl _
  · have h := of_decide_eq_true h
    subst h
    exact s_cst pe_int fun _ _ => .int _
  · have h := of_decide_eq_true h
    subst h
    exact s_cst pe_str fun _ _ => .str _
theorem op_ok {X : Cx} {P : Pg} {o : Op2} {p : Operator} (h : o.mt p = true) : OpR X (binaryOp p) (rv2 P true o.app) := by
  cases o <;> cases p <;> first | cases h | skip
  · exact o_add
  · exact o_sub
  · exact o_mul
  · exact o_mod
  · exact o_pow
theorem cm_ok {X : Cx} {P : Pg} {o : Cm} {p : CmpOp} (c : Ctx T Γ X P) (h : o.mt p = true) : OpR X (compareOp p) (rv2 P false (cmA o)) := by
  cases o <;> cases p <;> first | cases h | skip
  · exact o_eq c.hK c.units
  · exact o_ne c.hK c.units
  · exact o_lt c.hK c.units
  · exact o_le c.hK c.units
  · exact o_gt c.hK c.units
  · exact o_ge c.hK c.units
  · exact o_in c.hPr c.hPw c.hK c.units
  · exact o_notin c.hPr c.hPw c.hK c.units
  · exact o_is
  · exact o_isnot
theorem loc_ok {cl : Bool} {sc : Scope} {x : Str} (h : locOk cl sc x = true) : Loc sc x ∧ (cl = true ∨ sc.names.lookup x = some .local) := by
  unfold locOk at h
  simp only [Bool.or_eq_true, Bool.and_eq_true, decide_eq_true_eq] at h
  rcases h with h | ⟨h1, h2⟩
  · exact ⟨.inl h, .inr h⟩
  · exact ⟨.inr h2, .inl h1⟩
theorem tgt_okC {cl : Bool} {N : List Str} {sc : Scope} {tg : Tg} {t : Expr} (h : tgOk cl N sc tg t = true) : (∀ i, tg = .one i → ∃ x p, t = .Name x p ∧ N[i]? = some x ∧ locOk cl sc x = true) ∧ tg.ok = true ∧
    (∀ i j, tg = .two i j → ∃ x p y q a b, t = .Tuple [.Name x p, .Name y q] a b ∧ N[i]? = some x ∧ locOk cl sc x = true ∧ N[j]? = some y ∧ locOk cl sc y = true) := by
  unfold tgOk at h
  split at h
  · simp only [Bool.and_eq_true, decide_eq_true_eq] at h
    exact ⟨fun i e => by cases e; exact ⟨_, _, rfl, h⟩, rfl, fun i j e => nomatch e⟩
  · simp only [Bool.and_eq_true, decide_eq_true_eq] at h
    obtain ⟨⟨⟨⟨h1, h2⟩, h3⟩, h4⟩, h5⟩ := h
    exact ⟨fun i e => (nomatch e), h5, fun i j e => by cases e; exact ⟨_, _, _, _, _, _, rfl, h1, h2, h3, h4⟩⟩
  · cases h
/-- a target within the block -/
theorem tgt_ok {cl : Bool} {X : Cx} {K : PySem.W.Frag} {N : List Str} {sc : Scope} {tg : Tg} {t : Expr} (hK : K = X.K) (hc : X.calm = true) (hnd : X.N.Nodup) (hN : X.N = N) (hs : X.env.scope = sc) (hf : cl = true → ∀ x, X.fn x = true) (h : tgOk cl N sc tg t = true) : PG X t (gT K tg) := by
  subst hN hs hK
  obtain ⟨h1, h2, h3⟩ := tgt_okC h
  have fl : ∀ {x : Str}, locOk cl X.env.scope x = true → X.fn x = true ∨ X.env.scope.names.lookup x = some .local := fun hx => (loc_ok hx).2.imp (fun z => hf z _) id
  cases tg with
  | one i =>
    obtain ⟨x, p, rfl, k1, k2⟩ := h1 i rfl
    exact pg_name hnd k1 (loc_ok k2).1 (fl k2)
  | two i j =>
    obtain ⟨x, p, y, q, a, b, rfl, k1, k2, k3, k4⟩ := h3 i j rfl
    exact pg_tup hc (pgs_cons (pg_name hnd k1 (loc_ok k2).1 (fl k2)) (pgs_cons (pg_name hnd k3 (loc_ok k4).1 (fl k4)) pgs_nil))
def SoundS (Γ : Nat → List D → Store → R D) (X : Cx) (P : Pg) (W : WX) (es : Es) (l : List Expr) : Prop := PA X l (tA P W (evs Γ es)) ∧ (l = [] → evs Γ es = fun _ S => .ok [] S) ∧ (∀ a, l = [a] → ∃ fe, PE X a (tE P W false fe) ∧ (evs Γ es = fun env S => (fe env S).bind fun x S => .ok [x] S) ∧ notStar a = true)
theorem soundS_cons {Γ : Nat → List D → Store → R D} {X : Cx} {P : Pg} {W : WX} {e : E} {es : Es} {a : Expr} {l : List Expr} (h : notStar a = true) (k : PE X a (tE P W false (ev Γ e))) (ks : SoundS Γ X P W es l) : SoundS Γ X P W (.cons e es) (a :: l) := by
  refine ⟨?_, fun z => absurd z (List.cons_ne_nil _ _), fun b z => ?_⟩
  · have e1 : evs Γ (.cons e es) = fun env S => (ev Γ e env S).bind fun x S => (evs Γ es env S).bind fun l S => .ok (x :: l) S := by
      funext env S
      rw [evs]
    rw [e1]
    exact s_cons k ks.1 (star_cons h)
  · cases z
    refine ⟨_, k, ?_, h⟩
    funext env S
    rw [evs, ks.2.1 rfl]
    rfl
/-- an expression, as a value and as a test -/
def SoundE (T : Tab) (Γ : Nat → List D → Store → R D) (c : E) : Prop := ∀ (X : Cx) (P : Pg) (W : WX) (N : List Str) (sc : Scope) (e : Expr), Ctx T Γ X P → Takes X W → X.N = N → X.env.scope = sc → chk T N sc c e = true →
  PE X e (tE P W (c.fresh T) (ev Γ c)) ∧ (tOk e = true → PT X e (tT P W (ev Γ c))) ∧ (isBO e = true → PW X e (tT P W (ev Γ c)))
theorem notT {X : Cx} {P : Pg} {W : WX} {e : Expr} {fr : Bool} {f : Env → Store → R D} (h : PE X e (tE P W fr f)) (ht : plainT e = true) :
    PE X e (tE P W fr f) ∧ (tOk e = true → PT X e (tT P W f)) ∧ (isBO e = true → PW X e (tT P W f)) := ⟨h, fun _ => s_valT h.ord (test_ok ht), fun q => by
  cases e <;> first | (cases ht; done) | (cases q; done)⟩
theorem s_mtN {X : Cx} {P : Pg} {W : WX} {o : Expr} {as : List Expr} {apos cpos : Pos} {fo : Env → Store → R D} {fs : Env → Store → R (List D)} {m : Mt} (hne : as = [] → False) (c : Ctx T Γ X P) (hh : m.has = true) (hp : m ≠ .pop) (ho : PE X o (tE P W false fo)) (ha : PA X as (tA P W fs)) (hb : baseOk o = true) (hl : (apos.endLine == cpos.line) = true) (hs : as.all notStar = true) (hz : as.length < 29) :
    PE X (.Call (.Attribute o m.nm apos) as [] cpos) (tE P W m.fresh (mthF m fo fs)) := by
  cases as with
  | nil => exact absurd rfl hne
  | cons a as => exact s_mt c hh hp ho ha hb hl hs hz
set_option maxHeartbeats 4000000 in
mutual
theorem sE : ∀ c : E, SoundE T Γ c
  | .var i, X, P, W, N, sc, e, c, tk, hN, hs, h => by
    unfold chk at h
    split at h
    · simp only [Bool.and_eq_true, decide_eq_true_eq] at h
      obtain ⟨⟨h1, h2⟩, h3⟩ := h
      exact notT (s_var (by rw [hN]; exact h1) (vis_ok hs h2) (name_ok h3).1 (name_ok h3).2) rfl
    · cases h
  | .snap i, X, P, W, N, sc, e, c, tk, hN, hs, h => by
    unfold chk at h
    split at h
    · simp only [Bool.and_eq_true, decide_eq_true_eq] at h
      obtain ⟨⟨h1, h2⟩, h3⟩ := h
      exact notT (s_snap (by rw [hN]; exact h1) (vis_ok hs h2) (name_ok h3).1 (name_ok h3).2) rfl
    · cases h
  | .cst d, X, P, W, N, sc, e, c, tk, hN, hs, h => by
    unfold chk at h
    split at h
    · exact notT (cst_ok h) rfl
    · cases h
  | .glb x d, X, P, W, N, sc, e, c, tk, hN, hs, h => by
    unfold chk at h
    split at h
    · simp only [Bool.and_eq_true, decide_eq_true_eq] at h
      obtain ⟨⟨⟨h1, h2⟩, h3⟩, h4⟩ := h
      subst h1
      obtain ⟨g1, g2, g3, g4⟩ := glb_ok hs h2
      cases q : T.csts.lookup x with
      | none =>
        rw [q] at h4
        rw [← h4] at h3
        cases h3
      | some d' =>
        rw [q] at h4
        obtain ⟨u, v, m1, m2, m3⟩ := c.csts x d' q
        have m4 : flatOf d = some v := by rw [← h4]; exact m3
        exact notT (s_cst (pe_glob g1 m1 m2 g2) fun ms F => flat_rep m4) rfl
    · cases h
  | .op o a b, X, P, W, N, sc, e, c, tk, hN, hs, h => by
    unfold chk at h
    split at h
    · simp only [Bool.and_eq_true] at h
      obtain ⟨⟨h1, h2⟩, h3⟩ := h
      exact notT (s_op (op_ok h1) (sE a X P W N sc _ c tk hN hs h2).1.ord (sE b X P W N sc _ c tk hN hs h3).1.ord) rfl
    · cases h
  | .neg a, X, P, W, N, sc, e, c, tk, hN, hs, h => by
    unfold chk at h
    split at h
    · have k := s_neg (pos := ‹Pos›) (sE a X P W N sc _ c tk hN hs h).1.ord
      exact ⟨k, fun _ => s_valT k neg_test, fun q => by cases q⟩
    · cases h
  | .cmp o a b, X, P, W, N, sc, e, c, tk, hN, hs, h => by
    unfold chk at h
    split at h
    · simp only [Bool.and_eq_true, Bool.not_eq_true'] at h
      obtain ⟨⟨⟨h1, h2⟩, h3⟩, h4⟩ := h
      have ka := (sE a X P W N sc _ c tk hN hs h3).1.ord
      have kb := (sE b X P W N sc _ c tk hN hs h4).1.ord
      exact ⟨s_cmp (cm_ok c h1) ka kb h2, fun _ => s_cmpT (cm_ok c h1) ka kb h2, fun q => by cases q⟩
    · cases h
  | .chn o o' a b d, X, P, W, N, sc, e, c, tk, hN, hs, h => by
    unfold chk at h
    split at h
    · simp only [Bool.and_eq_true, Bool.not_eq_true'] at h
      obtain ⟨⟨⟨⟨⟨h1, h2⟩, h3⟩, h4⟩, h5⟩, h6⟩ := h
      have ka := (sE a X P W N sc _ c tk hN hs h4).1.ord
      have kb := (sE b X P W N sc _ c tk hN hs h5).1.ord
      have kd := (sE d X P W N sc _ c tk hN hs h6).1.ord
      exact ⟨s_chn (cm_ok c h1) (cm_ok c h2) ka kb kd h3, fun _ => s_chnT (cm_ok c h1) (cm_ok c h2) ka kb kd h3, fun q => by cases q⟩
    · cases h
  | .not a, X, P, W, N, sc, e, c, tk, hN, hs, h => by
    unfold chk at h
    split at h
    · simp only [Bool.and_eq_true] at h
      obtain ⟨h1, h2⟩ := h
      have k := sE a X P W N sc _ c tk hN hs h2
      exact ⟨s_not k.1.ord, fun _ => s_notT (k.2.1 h1), fun q => by cases q⟩
    · cases h
  | .and a b, X, P, W, N, sc, e, c, tk, hN, hs, h => by
    unfold chk at h
    split at h
    · simp only [Bool.and_eq_true] at h
      obtain ⟨⟨⟨h1, h2⟩, h3⟩, h4⟩ := h
      have ka := sE a X P W N sc _ c tk hN hs h3
      split at h4
      · have kb := sE b X P W N sc _ c tk hN hs h4
        exact ⟨s_and (p2 := ‹Pos›) ka.1.ord (pe_one kb.1.ord), fun _ => (s_andT (ka.2.1 h1) (pw_and1 (kb.2.1 h2))).pt, fun _ => s_andT (ka.2.1 h1) (pw_and1 (kb.2.1 h2))⟩
      · have kb := sE b X P W N sc _ c tk hN hs h4
        exact ⟨s_and (p2 := ‹Pos›) ka.1.ord kb.1.ord, fun _ => (s_andT (ka.2.1 h1) (kb.2.2 rfl)).pt, fun _ => s_andT (ka.2.1 h1) (kb.2.2 rfl)⟩
    · cases h
  | .or a b, X, P, W, N, sc, e, c, tk, hN, hs, h => by
    unfold chk at h
    split at h
    · simp only [Bool.and_eq_true] at h
      obtain ⟨⟨⟨h1, h2⟩, h3⟩, h4⟩ := h
      have ka := sE a X P W N sc _ c tk hN hs h3
      split at h4
      · have kb := sE b X P W N sc _ c tk hN hs h4
        exact ⟨s_or (p2 := ‹Pos›) ka.1.ord (pe_one kb.1.ord), fun _ => (s_orT (ka.2.1 h1) (pw_or1 (kb.2.1 h2))).pt, fun _ => s_orT (ka.2.1 h1) (pw_or1 (kb.2.1 h2))⟩
      · have kb := sE b X P W N sc _ c tk hN hs h4
        exact ⟨s_or (p2 := ‹Pos›) ka.1.ord kb.1.ord, fun _ => (s_orT (ka.2.1 h1) (kb.2.2 rfl)).pt, fun _ => s_orT (ka.2.1 h1) (kb.2.2 rfl)⟩
    · cases h
  | .ite d a b, X, P, W, N, sc, e, c, tk, hN, hs, h => by
    unfold chk at h
    split at h
    · simp only [Bool.and_eq_true] at h
      obtain ⟨⟨⟨h1, h2⟩, h3⟩, h4⟩ := h
      exact ⟨s_ite ((sE d X P W N sc _ c tk hN hs h2).2.1 h1) (sE a X P W N sc _ c tk hN hs h3).1.ord (sE b X P W N sc _ c tk hN hs h4).1.ord, (fun z => by cases z), (fun z => by cases z)⟩
    · cases h
  | .tup es, X, P, W, N, sc, e, c, tk, hN, hs, h => by
    unfold chk at h
    split at h
    · exact notT (s_tup (sS es X P W N sc _ c tk hN hs h).1) rfl
    · cases h
  | .lst es, X, P, W, N, sc, e, c, tk, hN, hs, h => by
    unfold chk at h
    split at h
    · exact notT (s_lst (sS es X P W N sc _ c tk hN hs h).1) rfl
    · cases h
  | .idx a b, X, P, W, N, sc, e, c, tk, hN, hs, h => by
    unfold chk at h
    split at h
    · simp only [Bool.and_eq_true] at h
      obtain ⟨⟨h1, h2⟩, h3⟩ := h
      exact notT (s_idx c.hPr c.hPw c.units c.hK (sE a X P W N sc _ c tk hN hs h2).1.ord (sE b X P W N sc _ c tk hN hs h3).1.ord h1) rfl
    · cases h
  | .sl a lo hi, X, P, W, N, sc, e, c, tk, hN, hs, h => by
    unfold chk at h
    split at h
    · simp only [Bool.and_eq_true] at h
      obtain ⟨⟨h1, h2⟩, h3⟩ := h
      exact notT (s_sl c.hK (sE a X P W N sc _ c tk hN hs h1).1.ord (sO lo X P W N sc _ c tk hN hs h2) (sO hi X P W N sc _ c tk hN hs h3)) rfl
    · cases h
  | .rev _, _, _, _, _, _, _, _, _, _, _, h => by
    unfold chk at h
    cases h
  | .dict es, X, P, W, N, sc, e, c, tk, hN, hs, h => by
    unfold chk at h
    split at h
    · simp only [Bool.and_eq_true, decide_eq_true_eq] at h
      have k := sD es X P W N sc _ _ c tk hN hs h.2
      rename_i ks vs pos
      by_cases hne : ks = []
      · subst hne
        have hvs : vs = [] ∧ evs Γ es = fun _ S => .ok [] S := by
          cases es with
          | nil =>
            have h2 := h.2
            unfold chkd at h2
            cases vs with
            | nil => exact ⟨rfl, by funext env S; rw [evs]⟩
            | cons _ _ => cases h2
          | cons a es =>
            have h2 := h.2
            cases es with
            | nil => unfold chkd at h2; cases h2
            | cons b es => unfold chkd at h2; cases h2
        obtain ⟨rfl, he⟩ := hvs
        have e1 : ev Γ (.dict es) = rowF (fun _ S => .ok [] S) dispR := by
          funext env S
          show (evs Γ es env S).bind _ = _
          rw [he]
          rfl
        have e2 : (E.dict es).fresh T = false := rfl
        rw [e1, e2]
        exact notT s_dict0 rfl
      · exact notT (s_disp k hne h.1) rfl
    · cases h
  | .call f es, X, P, W, N, sc, e, c, tk, hN, hs, h => by
    unfold chk at h
    split at h
    · simp only [Bool.and_eq_true, decide_eq_true_eq] at h
      obtain ⟨⟨⟨h1, h2⟩, h3⟩, h4⟩ := h
      obtain ⟨g1, g2, g3, g4⟩ := glb_ok hs h2
      exact notT (s_call tk g1 g2 (c.fns f _ h1) (sS es X P W N sc _ c tk hN hs h4).1 h3) rfl
    · cases h
  | .bi f es, X, P, W, N, sc, e, c, tk, hN, hs, h => by
    unfold chk at h
    split at h
    · simp only [Bool.and_eq_true, decide_eq_true_eq] at h
      obtain ⟨⟨⟨h1, h2⟩, h3⟩, h4⟩ := h
      obtain ⟨g1, g2, g3, g4⟩ := glb_ok hs h2
      cases q : f.cl with
      | none =>
        rw [q] at h4
        exact notT (s_bi c g1 g2 g4 q h1 (sS es X P W N sc _ c tk hN hs h4).1 h3) rfl
      | some y =>
        rw [q] at h4
        dsimp only at h4
        split at h4
        · simp only [Bool.and_eq_true, decide_eq_true_eq] at h4
          obtain ⟨⟨k1, k2⟩, k3⟩ := h4
          subst k1
          obtain ⟨y1, y2, y3, y4⟩ := glb_ok hs k2
          have hx : f.nm = "isinstance" ∧ f.fresh = false := by cases f <;> first | exact ⟨rfl, rfl⟩ | cases q
          rw [h1, hx.1] at g1
          have hxx := h1.trans hx.1
          obtain ⟨fe, k4, k5, k6⟩ := (sS es X P W N sc _ c tk hN hs k3).2.2 _ rfl
          have k8 : ev Γ (.bi f es) = fun env S => (fe env S).bind fun x S => f.app [x] S := by
            funext env S
            show (evs Γ es env S).bind _ = _
            rw [k5]
            dsimp only
            cases fe env S <;> rfl
          have k9 : (E.bi f es).fresh T = false := hx.2
          rw [k9, hxx, k8]
          exact notT (s_isiB c g1 y1 y4 y2 q k4 k6) rfl
        · cases h4
    · cases h
  | .mth m o es, X, P, W, N, sc, e, c, tk, hN, hs, h => by
    unfold chk at h
    split at h
    · simp only [Bool.and_eq_true, decide_eq_true_eq] at h
      obtain ⟨⟨⟨⟨⟨⟨⟨⟨h1, h2⟩, h9⟩, h3⟩, h4⟩, h5⟩, h6⟩, h7⟩, h8⟩ := h
      subst h2
      have ko := (sE o X P W N sc _ c tk hN hs h7).1.ord
      have ks := sS es X P W N sc _ c tk hN hs h8
      split at h9
      · have h9 := of_decide_eq_true h9
        subst h9
        have k8 : ev Γ (.mth .pop o es) = mthF .pop (ev Γ o) fun _ S => .ok [] S := by
          funext env S
          show (ev Γ o env S).bind _ = _
          rw [ks.2.1 rfl]
          rfl
        rw [k8]
        exact notT (s_pop c ko h3 h4) rfl
      · rename_i hne
        exact notT (s_mtN hne c h1 (of_decide_eq_true h9) ko ks.1 h3 h4 h5 h6) rfl
    · cases h
  | .lc elt tg it cond, X, P, W, N, sc, e, c, tk, hN, hs, h => by
    unfold chk at h
    split at h
    · simp only [Bool.and_eq_true, decide_eq_true_eq] at h
      obtain ⟨⟨⟨⟨⟨⟨h1, h2⟩, h3⟩, h4⟩, h5⟩, h6⟩, h7⟩ := h
      subst h1
      have hb := blkOk_by h2
      have hok := (tgt_okC h3).2.1
      refine notT (s_lc (own := tgOwn N tg) c.hK c.calm c.nd hok (sI it X P W N sc tg _ _ c tk hN hs h5) (by rw [hN, hs]; exact hb) (by cases tg <;> rfl) (fun s H C cl fp => tgt_ok (cl := false) (sc := relS _ sc) c.hK c.calm c.nd hN (by rw [← hs]; rfl) (fun z => by cases z) h3) (fun s H C cl fp => ?_)
        (fun s H C cl fp => s_ex fun pv => (sE elt _ _ _ N (relS _ sc) _ (c.blk pv s H _ _ fp) takes0 hN (by rw [← hs]; rfl) h7).1.ord) (set_ok h4)) rfl
      split at h6
      · exact s_noif
      · simp only [Bool.and_eq_true] at h6
        exact pts_one (s_tx fun pv => (sE _ _ _ _ N (relS _ sc) _ (c.blk pv s H _ _ fp) takes0 hN (by rw [← hs]; rfl) h6.2).2.1 h6.1)
      · cases h6
    · cases h
  | .cell a, X, P, W, N, sc, e, c, tk, hN, hs, h => by
    unfold chk at h
    simp only [Bool.and_eq_true] at h
    obtain ⟨h1, h2⟩ := h
    have k := sE a X P W N sc e c tk hN hs h2
    rw [h1.1] at k
    exact notT (s_cell k.1) h1.2
  | .sset a, X, P, W, N, sc, e, c, tk, hN, hs, h => by
    unfold chk at h
    split at h
    · simp only [Bool.and_eq_true, decide_eq_true_eq] at h
      obtain ⟨⟨⟨⟨⟨h1, h2⟩, h3⟩, h4⟩, h5⟩, h6⟩ := h
      subst h1 h3
      exact notT (s_sset c.hK c.units c.calm (glb_ok hs h2).1 (c.blt _ (by decide +kernel)) bt_sorted (glb_ok hs h4).1 (c.blt _ (by decide +kernel)) bt_set h5 (sE a X P W N sc _ c tk hN hs h6).1.ord) rfl
    · cases h
  | .lset a, X, P, W, N, sc, e, c, tk, hN, hs, h => by
    unfold chk at h
    split at h
    · simp only [Bool.and_eq_true, decide_eq_true_eq] at h
      obtain ⟨⟨⟨⟨⟨h1, h2⟩, h3⟩, h4⟩, h5⟩, h6⟩ := h
      subst h1 h3
      exact notT (s_lset c.hK c.calm (glb_ok hs h2).1 (c.blt _ (by decide +kernel)) bt_len (glb_ok hs h4).1 (c.blt _ (by decide +kernel)) bt_set h5 (sE a X P W N sc _ c tk hN hs h6).1.ord) rfl
    · cases h
theorem sS : ∀ es : Es, ∀ (X : Cx) (P : Pg) (W : WX) (N : List Str) (sc : Scope) (l : List Expr), Ctx T Γ X P → Takes X W → X.N = N → X.env.scope = sc → chks T N sc es l = true → SoundS Γ X P W es l
  | .nil, X, P, W, N, sc, l, c, tk, hN, hs, h => by
    unfold chks at h
    split at h
    · exact ⟨s_nil, fun _ => rfl, fun a z => nomatch z⟩
    · cases h
  | .cons e es, X, P, W, N, sc, l, c, tk, hN, hs, h => by
    unfold chks at h
    split at h
    · simp only [Bool.and_eq_true] at h
      obtain ⟨⟨h1, h2⟩, h3⟩ := h
      exact soundS_cons h1 (sE e X P W N sc _ c tk hN hs h2).1.ord (sS es X P W N sc _ c tk hN hs h3)
    · cases h
theorem sD : ∀ es : Es, ∀ (X : Cx) (P : Pg) (W : WX) (N : List Str) (sc : Scope) (ks : List (Option Expr)) (vs : List Expr), Ctx T Γ X P → Takes X W → X.N = N → X.env.scope = sc → chkd T N sc es ks vs = true → PairsOk X P W (evs Γ es) ks vs
  | .nil, X, P, W, N, sc, ks, vs, c, tk, hN, hs, h => by
    unfold chkd at h
    split at h
    · have e : evs Γ .nil = fun _ S => .ok [] S := by funext env S; rw [evs]
      rw [e]
      exact pairs_nil
    · cases h
  | .cons _ .nil, X, P, W, N, sc, ks, vs, c, tk, hN, hs, h => by
    unfold chkd at h
    cases h
  | .cons a (.cons b es), X, P, W, N, sc, ks, vs, c, tk, hN, hs, h => by
    unfold chkd at h
    split at h
    · simp only [Bool.and_eq_true] at h
      obtain ⟨⟨h1, h2⟩, h3⟩ := h
      have e : evs Γ (.cons a (.cons b es)) = fun env S => (ev Γ a env S).bind fun x S => ((ev Γ b env S).bind fun y S => (evs Γ es env S).bind fun l S => .ok (y :: l) S).bind fun l S => .ok (x :: l) S := by
        have e1 : evs Γ (.cons b es) = fun env S => (ev Γ b env S).bind fun y S => (evs Γ es env S).bind fun l S => .ok (y :: l) S := by
          funext env S
          rw [evs]
        funext env S
        rw [evs, e1]
      rw [e]
      exact pairs_cons (fun pv => (sE a X (P.wp pv) W N sc _ (c.wp pv) tk hN hs h1).1.ord) (fun pv => (sE b X (P.wp pv) W N sc _ (c.wp pv) tk hN hs h2).1.ord) (sD es X P W N sc _ _ c tk hN hs h3)
    · cases h
theorem sO : ∀ o : Eo, ∀ (X : Cx) (P : Pg) (W : WX) (N : List Str) (sc : Scope) (l : Option Expr), Ctx T Γ X P → Takes X W → X.N = N → X.env.scope = sc → chko T N sc o l = true → PO X l (tO P W (evo Γ o))
  | .none, X, P, W, N, sc, l, c, tk, hN, hs, h => by
    unfold chko at h
    split at h
    · exact s_onone
    · cases h
  | .some e, X, P, W, N, sc, l, c, tk, hN, hs, h => by
    unfold chko at h
    split at h
    · exact s_osome (sE e X P W N sc _ c tk hN hs h).1.ord
    · cases h
theorem sI : ∀ it : It, ∀ (X : Cx) (P : Pg) (W : WX) (N : List Str) (sc : Scope) (tg : Tg) (t e : Expr), Ctx T Γ X P → Takes X W → X.N = N → X.env.scope = sc → chki T N sc it e = true → PI X t e (tI P W tg (evi Γ it))
  | .e a, X, P, W, N, sc, tg, t, e, c, tk, hN, hs, h => by
    unfold chki at h
    exact s_iter c.hK (sE a X P W N sc _ c tk hN hs h).1.ord
  | .rng1 a, X, P, W, N, sc, tg, t, e, c, tk, hN, hs, h => by
    unfold chki at h
    split at h
    · simp only [Bool.and_eq_true, decide_eq_true_eq] at h
      obtain ⟨⟨⟨h1, h2⟩, h3⟩, h4⟩ := h
      obtain ⟨g1, g2, g3, g4⟩ := glb_ok hs h2
      subst h1
      exact s_rng1 g1 (c.blt _ (by decide +kernel)) (sE a X P W N sc _ c tk hN hs h4).1.ord h3
    · cases h
  | .rng2 a b, X, P, W, N, sc, tg, t, e, c, tk, hN, hs, h => by
    unfold chki at h
    split at h
    · simp only [Bool.and_eq_true, decide_eq_true_eq] at h
      obtain ⟨⟨⟨⟨⟨h1, h2⟩, h3⟩, h5⟩, h4⟩, h6⟩ := h
      obtain ⟨g1, g2, g3, g4⟩ := glb_ok hs h2
      subst h1
      exact s_rng2 g1 (c.blt _ (by decide +kernel)) (sE a X P W N sc _ c tk hN hs h4).1.ord (sE b X P W N sc _ c tk hN hs h6).1.ord h3 h5
    · cases h
  | .rng3 _ _ _, _, _, _, _, _, _, _, _, _, _, _, _, h => by
    unfold chki at h
    cases h
  | .zip _ _, _, _, _, _, _, _, _, _, _, _, _, _, h => by
    unfold chki at h
    cases h
  | .enum _, _, _, _, _, _, _, _, _, _, _, _, _, h => by
    unfold chki at h
    cases h
end
end SV
/-! SvO: statements: the code, its evaluator, the checker. -/
namespace SV
open PySem PySem.Spec PyProof.Rows L2

mutual
inductive C where
  | pass
  | expr (e : E)
  | set (i : Nat) (e : E)
  | setT (i j : Nat) (e : E)
  | par (i j : Nat) (a b : E)
  | put (o i v : E)
  | ret (e : E)
  | retN
  | ifs (c : E) (a b : Cs)
  | for (tg : Tg) (it : It) (b : Cs)
  | whl (c : E) (b : Cs)
  | brk
  | cnt
  | never
inductive Cs where
  | nil
  | cons (c : C) (cs : Cs)
end
/-- how a statement ends -/
inductive Fl where
  | nx (env : Env)
  | ret (d : D)
  | bk (env : Env)
  | ct (env : Env)
open Classical in
noncomputable def forLoop (g : Option (Nat × Cell)) (st : D → Env → Option Env) (f : Env → Store → R Fl) : List D → Env → Store → R Fl
  | [], env, S => if Good g S then .ok (.nx env) S else .bad
  | x :: xs, env, S => if Good g S then (match st x env with
    | none => .bad
    | some env => (f env S).bind fun r S => match r with
      | .nx env => forLoop g st f xs env S
      | .ct env => forLoop g st f xs env S
      | .bk env => .ok (.nx env) S
      | .ret d => .ok (.ret d) S) else .bad
def whlLoop (c : Env → Store → R D) (f : Env → Store → R Fl) : Nat → Env → Store → R Fl
  | 0, _, _ => .bad
  | n + 1, env, S => (c env S).bind fun d S => match d with
    | .bl true => (f env S).bind fun r S => match r with
      | .nx env => whlLoop c f n env S
      | .ct env => whlLoop c f n env S
      | .bk env => .ok (.nx env) S
      | .ret d => .ok (.ret d) S
    | .bl false => .ok (.nx env) S
    | _ => .bad
section
variable (Γ : Nat → List D → Store → R D) (fu : Nat)
mutual
noncomputable def xc : C → Env → Store → R Fl
  | .pass, env, S => .ok (.nx env) S
  | .expr e, env, S => (ev Γ e env S).bind fun _ S => .ok (.nx env) S
  | .set i e, env, S => (ev Γ e env S).bind fun x S => .ok (.nx (env.set i (some x))) S
  | .setT i j e, env, S => (ev Γ e env S).bind fun x S => match (Tg.two i j).set x env with
    | some env => .ok (.nx env) S
    | none => .bad
  | .par i j a b, env, S => (evs Γ (.cons a (.cons b .nil)) env S).bind fun l S => match l with
    | [x, y] => .ok (.nx ((env.set i (some x)).set j (some y))) S
    | _ => .bad
  | .put o i v, env, S => (putF (ev Γ o) (ev Γ i) (ev Γ v) env S).bind fun _ S => .ok (.nx env) S
  | .ret e, env, S => (ev Γ e env S).bind fun x S => .ok (.ret x) S
  | .retN, env, S => .ok (.ret .non) S
  | .ifs c a b, env, S => (ev Γ c env S).bind fun x S => match x with
    | .bl true => xcs a env S
    | .bl false => xcs b env S
    | _ => .bad
  | .for tg it b, env, S => (evi Γ it env S).bind fun src S => forLoop src.guard tg.set (fun env S => xcs b env S) src.items env S
  | .whl c b, env, S => whlLoop (fun env S => ev Γ c env S) (fun env S => xcs b env S) fu env S
  | .brk, env, S => .ok (.bk env) S
  | .cnt, env, S => .ok (.ct env) S
  | .never, _, _ => .bad
noncomputable def xcs : Cs → Env → Store → R Fl
  | .nil, env, S => .ok (.nx env) S
  | .cons c cs, env, S => (xc c env S).bind fun r S => match r with
    | .nx env => xcs cs env S
    | r => .ok r S
end
end

/-! ### the checker -/
def isLc : Expr → Bool
  | .ListComp .. => true
  | _ => false
/-- a value that is stored as it is made -/
def swapsOk (sc : Scope) (x : Str) (py : Pos) : Expr → Bool
  | .ListComp _ _ scope pos => decide (sc.names.lookup x = some .cell) || (decide (sc.names.lookup x = some .local) && (match sc.kind with | .function => true | _ => false) && (py.line == pos.line) && !(scope.names.any fun (n, k) => n == x && (k == .local || k == .cell)))
  | .SetComp .. => false
  | .DictComp .. => false
  | _ => true
def noComp : Expr → Bool
  | .ListComp .. => false
  | .SetComp .. => false
  | .DictComp .. => false
  | _ => true
def noTup : Expr → Bool
  | .Tuple .. => false
  | .List .. => false
  | .ListComp .. => false
  | .SetComp .. => false
  | .DictComp .. => false
  | _ => true
section
variable (T : Tab) (N : List Str) (sc : Scope) (fr : Bool)
mutual
def chkC : C → Stmt → Bool
  | .pass, s => match s with
    | .Pass _ => true
    | _ => false
  | .expr e, s => match s with
    | .Expr x _ => noComp x && chk T N sc e x
    | _ => false
  | .set i e, s => match s with
    | .Assign [.Name x p] v _ => decide (N[i]? = some x) && locOk true sc x && swapsOk sc x p v && chk T N sc e v
    | _ => false
  | .setT i j e, s => match s with
    | .Assign [t] v _ => tgOk true N sc (.two i j) t && noTup v && chk T N sc e v
    | _ => false
  | .par i j a b, s => match s with
    | .Assign [.Tuple [.Name x p, .Name y q] _ _] (.Tuple [u, v] _ _) _ => (decide (N[i]? = some x) && decide (sc.names.lookup x = some .local) && decide (N[j]? = some y) && decide (sc.names.lookup y = some .local)) && ((i != j) && !(x == y) && (match sc.kind with | .function => true | _ => false) && (p.line == q.line)) &&
      (notStar u && notStar v && !([u, v].all (foldedForSure 8)) && !([u, v].all (constantsAlone 8))) && (chk T N sc a u && chk T N sc b v)
    | _ => false
  | .put o i v, s => match s with
    | .Assign [.Subscript x y _] z _ => noComp z && chk T N sc o x && chk T N sc i y && chk T N sc v z
    | _ => false
  | .ret e, s => match s with
    | .Return (some x) _ => (!fr || e.fresh T) && chk T N sc e x
    | _ => false
  | .retN, s => match s with
    | .Return none _ => true
    | _ => false
  | .ifs c a b, s => match s with
    | .If t x y _ => tOk t && chk T N sc c t && chkCs a x && chkCs b y
    | _ => false
  | .for tg it b, s => match s with
    | .For t i x [] _ => tgOk true N sc tg t && notSet i && chki T N sc it i && chkCs b x
    | _ => false
  | .whl c b, s => match s with
    | .While t x [] _ => tOk t && chk T N sc c t && chkCs b x
    | _ => false
  | .brk, s => match s with
    | .Break _ => true
    | _ => false
  | .cnt, s => match s with
    | .Continue _ => true
    | _ => false
  | .never, _ => true
def chkCs : Cs → List Stmt → Bool
  | .nil, l => match l with
    | [] => true
    | _ => false
  | .cons c cs, l => match l with
    | s :: l => chkC c s && chkCs cs l
    | _ => false
end
end

/-! ### what a statement asks -/
variable {X : Cx} {P : Pg} {W : WX} {ms ms' : List Addr} {F F' : Hp} {T : Tab} {Γ : Nat → List D → Store → R D}
def FlK (P : Pg) (ms : List Addr) (F : Hp) (q : L2.St → Hp → Prop) (env : Env) (S : Store) : Prop :=
  ∀ σ' H' ms' F', Nx ms F ms' F' → Slots P ms' F' σ' env → Sto P H' ms' F' S → q σ' H'
def PostS (P : Pg) (W : WX) (fr : Bool) (ms : List Addr) (F : Hp) (A : Ends) : R Fl → Prop
  | .ok (.nx env) S => FlK P ms F A.nx env S
  | .ok (.bk env) S => FlK P ms F A.bk env S
  | .ok (.ct env) S => FlK P ms F A.ct env S
  | .ok (.ret d) S => Val P ms F fr A.rt d S
  | .exc c S => ∀ H' ms' F', Nx ms F ms' F' → Sto P H' ms' F' S → ∀ σ', ExW P W σ' c H'
  | .bad => False
theorem FlK.nxt {q : L2.St → Hp → Prop} {env : Env} {S : Store} (x : Nx ms F ms' F') (h : FlK P ms F q env S) : FlK P ms' F' q env S := fun σ' H' m2 F2 nx => h σ' H' m2 F2 (x.trans nx)
theorem PostS.nxt {fr : Bool} {A : Ends} {r : R Fl} (x : Nx ms F ms' F') (h : PostS P W fr ms F A r) : PostS P W fr ms' F' A r := match r, h with
  | .ok (.nx env) S, h => FlK.nxt (P := P) (q := A.nx) x h
  | .ok (.bk env) S, h => FlK.nxt (P := P) (q := A.bk) x h
  | .ok (.ct env) S, h => FlK.nxt (P := P) (q := A.ct) x h
  | .ok (.ret d) S, h => Val.nx x h
  | .exc c S, h => fun H2 m2 F2 nx st => h H2 m2 F2 (x.trans nx) st
  | .bad, h => h
def tS (P : Pg) (W : WX) (fr : Bool) (f : Env → Store → R Fl) : TS := fun A σ H => ∃ env ms F S, Slots P ms F σ env ∧ Sto P H ms F S ∧ PostS P W fr ms F A (f env S)
theorem _root_.L2.PS.imq {s : Stmt} {t t' : TS} (h : PS X s t) (k : ∀ A σ H, t' A σ H → t A σ H) : PS X s t' := ⟨fun pins s σ H A I q => h.run pins s σ H A I (k A σ H q)⟩
theorem _root_.L2.PSs.imq {s : List Stmt} {t t' : TS} (h : PSs X s t) (k : ∀ A σ H, t' A σ H → t A σ H) : PSs X s t' := ⟨fun pins s σ H A I q => h.run pins s σ H A I (k A σ H q)⟩
/-- an expression ahead -/
theorem PostS.bindE {fr fr2 : Bool} {A : Ends} {Q : VK} {σ : L2.St} {r : R D} {g : D → Store → R Fl} (h : PostS P W fr ms F A (r.bind g))
    (k : ∀ d S, PostS P W fr ms F A (g d S) → Val P ms F fr2 Q d S) : Post P ms F fr2 Q (ExW P W σ) r := match r, h with
  | .ok d S, h => k d S h
  | .exc c S, h => fun H' ms' F' nx st => h H' ms' F' nx st σ
  | .bad, h => h
section
variable {fr : Bool} {e : Expr} {f : Env → Store → R D} {pos : Pos}
theorem z_pass : PS X (.Pass pos) (tS P W fr fun env S => .ok (.nx env) S) := ps_pass.imq fun A σ H ⟨env, ms, F, S, hs, st, h⟩ => h σ H ms F (Nx.refl _ _) hs st
theorem z_brk : PS X (.Break pos) (tS P W fr fun env S => .ok (.bk env) S) := ps_break.imq fun A σ H ⟨env, ms, F, S, hs, st, h⟩ => h σ H ms F (Nx.refl _ _) hs st
theorem z_cnt : PS X (.Continue pos) (tS P W fr fun env S => .ok (.ct env) S) := ps_continue.imq fun A σ H ⟨env, ms, F, S, hs, st, h⟩ => h σ H ms F (Nx.refl _ _) hs st
theorem z_never {s : Stmt} : PS X s (tS P W fr fun _ _ => .bad) := ps_never.imq fun A σ H ⟨env, ms, F, S, hs, st, h⟩ => h
theorem swaps_none (h : noComp e = true) : swapsWith e none pos.line X.env = pure false := by
  cases e <;> first | rfl | cases h
theorem z_expr (hn : noComp e = true) (h : PE X e (tE P W false f)) : PS X (.Expr e pos) (tS P W fr fun env S => (f env S).bind fun _ S => .ok (.nx env) S) :=
  (ps_expr h (swaps_none hn)).imq fun A σ H ⟨env, ms, F, S, hs, st, h⟩ => ⟨env, ms, F, S, hs, st, h.bindE fun d S k => fun v H' ms' F' nx st' r => k σ H' ms' F' nx (hs.mono nx) st'⟩
theorem z_ret (h : PE X e (tE P W fr f)) : PS X (.Return (some e) pos) (tS P W fr fun env S => (f env S).bind fun x S => .ok (.ret x) S) :=
  (ps_ret h).imq fun A σ H ⟨env, ms, F, S, hs, st, h⟩ => ⟨env, ms, F, S, hs, st, h.bindE fun d S k => k⟩
theorem z_retN : PS X (.Return none pos) (tS P W fr fun env S => .ok (.ret .non) S) := ps_retN.imq fun A σ H ⟨env, ms, F, S, hs, st, h⟩ => by
  have h : Val P ms F fr A.rt .non S := h
  have h2 : Ord P ms F A.rt .non S := by cases fr <;> exact h
  exact h2 _ H ms F (Nx.refl _ _) st .non
theorem z_put {o i v : Expr} {p2 : Pos} {fo fi fv : Env → Store → R D} (c1 : P.prog = X.prog) (c2 : P.w = X.w) (hu : X.A.units + 64 < cLine) (hn : noComp v = true) (ho : PE X o (tE P W false fo)) (hi : PE X i (tE P W false fi)) (hv : PE X v (tE P W false fv)) :
    PS X (.Assign [.Subscript o i p2] v pos) (tS P W fr fun env S => (putF fo fi fv env S).bind fun _ S => .ok (.nx env) S) := by
  refine ⟨fun pins s σ H A I ⟨env, ms, F, S, hs, st, h⟩ => ?_⟩
  have b3 : ∀ {α β : Type} (r : R α) (f : α → Store → R β) (g : β → Store → R Fl), (r.bind f).bind g = r.bind fun a S => (f a S).bind g := fun r f g => by cases r <;> rfl
  unfold putF at h
  dsimp only at h
  rw [b3] at h
  refine wpAny_Assign_Subscript (thn (hv.run pins s σ H (fun vz H1 => ∃ ms1 F1 S1 dz, Nx ms F ms1 F1 ∧ Sto P H1 ms1 F1 S1 ∧ Rep P ms1 F1 vz dz ∧ PostS P W fr ms1 F1 A (((fo env S1).bind fun x S => (fi env S).bind fun y S => putD x y dz S).bind fun _ S => .ok (.nx env) S)) I
    ⟨env, ms, F, S, hs, st, h.bindE (fr2 := false) fun d S1 k => fun v1 H1 ms1 F1 nx st1 r => ⟨ms1, F1, S1, d, nx, st1, r, PostS.nxt nx k⟩⟩) fun uz s1 ⟨vz, H1, I1, rz, ms1, F1, S1, dz, nx1, st1, rpz, h1⟩ => ?_) (by cases v <;> first | rfl | cases hn)
  rw [b3] at h1
  refine thn (ho.run pins s1 σ H1 (fun vx H2 => ∃ ms2 F2 S2 dx, Nx ms1 F1 ms2 F2 ∧ Sto P H2 ms2 F2 S2 ∧ Rep P ms2 F2 vx dx ∧ PostS P W fr ms2 F2 A (((fi env S2).bind fun y S => putD dx y dz S).bind fun _ S => .ok (.nx env) S)) I1
    ⟨env, ms1, F1, S1, hs.mono nx1, st1, h1.bindE (fr2 := false) fun d S2 k => fun v1 H2 ms2 F2 nx st2 r => ⟨ms2, F2, S2, d, nx, st2, r, PostS.nxt nx k⟩⟩) fun ux s2 ⟨vx, H2, I2, rx, ms2, F2, S2, dx, nx2, st2, rpx, h2⟩ => ?_
  rw [b3] at h2
  refine thn (hi.run pins s2 σ H2 (fun vy H3 => ∃ ms3 F3 S3 dy, Nx ms2 F2 ms3 F3 ∧ Sto P H3 ms3 F3 S3 ∧ Rep P ms3 F3 vy dy ∧ PostS P W fr ms3 F3 A ((putD dx dy dz S3).bind fun _ S => .ok (.nx env) S)) I2
    ⟨env, ms2, F2, S2, (hs.mono nx1).mono nx2, st2, h2.bindE (fr2 := false) fun d S3 k => fun v1 H3 ms3 F3 nx st3 r => ⟨ms3, F3, S3, d, nx, st3, r, PostS.nxt nx k⟩⟩) fun uy s3 ⟨vy, H3, I3, ry, ms3, F3, S3, dy, nx3, st3, rpy, h3⟩ => ?_
  have q : PostU P ms3 F3 (fun H' => ∃ ms' F' S', Nx ms3 F3 ms' F' ∧ Sto P H' ms' F' S' ∧ PostS P W fr ms' F' A (.ok (.nx env) S')) (ExW P W σ) (putD dx dy dz S3) := by
    cases q1 : putD dx dy dz S3 with
    | bad =>
      rw [q1] at h3
      exact h3
    | exc c S4 =>
      rw [q1] at h3
      exact fun H' ms' F' nx st' => h3 H' ms' F' nx st' σ
    | ok u S4 =>
      rw [q1] at h3
      intro H' ms' F' nx st'
      exact ⟨ms', F', S4, nx, st', PostS.nxt nx h3⟩
  refine thn (put_run rfl rfl hu c1 c2 I3 st3 ((rpx.mono nx3)) rpy ((rpz.mono nx2).mono nx3) rx ry rz q) fun _ s4 ⟨H4, I4, ms4, F4, S4, nx4, st4, h4⟩ => ?_
  exact ⟨σ, H4, I4, h4 σ H4 ms4 F4 (Nx.refl _ _) ((((hs.mono nx1).mono nx2).mono nx3).mono nx4) st4⟩
def setF (i : Nat) (f : Env → Store → R D) : Env → Store → R Fl := fun env S => (f env S).bind fun x S => .ok (.nx (env.set i (some x))) S
theorem t_set {i : Nat} {A : Ends} {σ : L2.St} {H : Hp} (h : tS P W fr (setF i f) A σ H) : tAsg (tE P W false f) (gName i) A σ H := by
  obtain ⟨env, ms, F, S, hs, st, h⟩ := h
  exact ⟨env, ms, F, S, hs, st, h.bindE fun d S k => fun v H' ms' F' nx st' r => k _ H' ms' F' nx ((hs.mono nx).set r) st'⟩
theorem swaps_name {x : Str} {p : Pos} (h : noComp e = true) : swapsWith e (some (.Name x p)) pos.line X.env = pure false := by
  cases e <;> first | rfl | cases h
theorem z_set {i : Nat} {x : Str} {p : Pos} (hN : X.N.Nodup) (hi : X.N[i]? = some x) (hx : Loc X.env.scope x) (hf : X.fn x = true ∨ X.env.scope.names.lookup x = some .local) (hn : swapsWith e (some (.Name x p)) pos.line X.env = pure false) (h : PE X e (tE P W false f)) : PS X (.Assign [.Name x p] e pos) (tS P W fr (setF i f)) :=
  (ps_set hN hi hx h hn hf).imq fun A σ H q => t_set q
theorem z_setT {N : List Str} {sc : Scope} {i j : Nat} {t : Expr} (hK : P.K = X.K) (hc : X.calm = true) (hnd : X.N.Nodup) (hN : X.N = N) (hs : X.env.scope = sc) (hf : ∀ x, X.fn x = true) (ht : tgOk true N sc (.two i j) t = true) (hn : noTup e = true) (h : PE X e (tE P W false f)) :
    PS X (.Assign [t] e pos) (tS P W fr fun env S => (f env S).bind fun x S => match (Tg.two i j).set x env with
    | some env => .ok (.nx env) S
    | none => .bad) := by
  have hg := tgt_ok hK hc hnd hN hs (fun _ => hf) ht
  obtain ⟨-, hij, h3⟩ := tgt_okC ht
  obtain ⟨x, p, y, q, a, b, rfl, -⟩ := h3 i j rfl
  refine (ps_asg h hg (by cases e <;> first | rfl | cases hn) (by cases e <;> first | rfl | cases hn)).imq fun A σ H ⟨env, ms, F, S, hs, st, h⟩ => ⟨env, ms, F, S, hs, st, h.bindE fun d S k => fun v H' ms' F' nx st' r => ?_⟩
  cases qs : (Tg.two i j).set d env with
  | none =>
    rw [qs] at k
    exact k.elim
  | some env' =>
    rw [qs] at k
    cases d with
    | tup l =>
      match l, qs with
      | [u, w], qs =>
        cases qs
        cases r with
        | tup r1 r2 r3 =>
          cases r3 with
          | cons ra t1 =>
            cases t1 with
            | cons rb t2 =>
              cases t2
              exact ⟨_, _, rfl, .inl (.inr ⟨_, st'.sub _ _ r1⟩), rfl, _, _, rfl, _, _, rfl, rfl, k _ H' ms' F' nx (((hs.mono nx).set ra).set rb) st'⟩
      | [], qs => cases qs
      | [_], qs => cases qs
      | _ :: _ :: _ :: _, qs => cases qs
    | _ => cases qs
theorem par_sw {u v : Expr} {x y : Str} {p q pt pt2 : Pos} {kt k2 : Nat} (hk : X.env.scope.kind = .function) (hx : X.env.scope.names.lookup x = some .local) (hy : X.env.scope.names.lookup y = some .local) (hl : (p.line == q.line) = true) (hn : (x == y) = false) (s1 : notStar u = true) (s2 : notStar v = true)
    (f : [u, v].all (foldedForSure 8) = false) (c : [u, v].all (constantsAlone 8) = false) : swappedStores [.Tuple [.Name x p, .Name y q] kt pt] (.Tuple [u, v] k2 pt2) X.env = pure (some [x, y]) := by
  have kx : X.env.kindOf x = some .local := hx
  have ky : X.env.kindOf y = some .local := hy
  have hb : X.env.blockKind = .function := by unfold Env.blockKind; rw [hk]; rfl
  have hl2 : (q.line == p.line) = true := by
    rw [beq_iff_eq] at hl ⊢
    exact hl.symm
  have hn2 : x ≠ y := fun e => by
    rw [e] at hn
    simp at hn
  have l1 : ((some NameKind.local : Option NameKind) == some NameKind.local) = true := by decide
  have ff : ((NameKind.local : NameKind) == NameKind.local) = true := by decide
  unfold swappedStores
  simp only [hb, kx, ky, List.any_cons, List.any_nil, f, c, List.filterMap_cons, List.filterMap_nil, List.head?_cons, Option.map_some, Option.getD_some, Expr.pos, hl2, l1, beq_self_eq_true, Bool.and_self, List.length_cons, List.length_nil]
  have ed : ([x, y] : List Str).eraseDups = [x, y] := by
    have hyx : (y == x) = false := by
      rw [beq_eq_false_iff_ne]
      exact fun e => hn2 e.symm
    simp [List.eraseDups_cons, hyx]
  rw [if_neg (by decide), if_neg (fun hh => by
    rw [Bool.or_eq_true, Bool.or_false] at hh
    rcases hh with hh | hh
    · cases u <;> first | (cases s1; done) | (cases hh; done)
    · cases v <;> first | (cases s2; done) | (cases hh; done))]
  simp only [ed, if_true, List.length_cons, List.length_nil]
  rfl
theorem z_par {i j : Nat} {x y : Str} {u v : Expr} {px py pt pt2 : Pos} {kt k2 : Nat} {fs : Env → Store → R (List D)} (hc : X.calm = true) (hN : X.N.Nodup) (hi : X.N[i]? = some x) (hj : X.N[j]? = some y) (hij : i ≠ j) (hx : X.env.scope.names.lookup x = some .local) (hy : X.env.scope.names.lookup y = some .local)
    (hw : swappedStores [.Tuple [.Name x px, .Name y py] kt pt] (.Tuple [u, v] k2 pt2) X.env = pure (some [x, y])) (ha : PA X [u, v] (tA P W fs)) :
    PS X (.Assign [.Tuple [.Name x px, .Name y py] kt pt] (.Tuple [u, v] k2 pt2) pos) (tS P W fr fun env S => (fs env S).bind fun l S => match l with
    | [x, y] => .ok (.nx ((env.set i (some x)).set j (some y))) S
    | _ => .bad) := by
  refine (ps_par hc hN hi hj hij hx hy ha hw).imq fun A σ H ⟨env, ms, F, S, hs, st, h⟩ => ⟨env, ms, F, S, hs, st, ?_⟩
  dsimp only at h
  cases q : fs env S with
  | bad =>
    rw [q] at h
    exact h
  | exc c S1 =>
    rw [q] at h
    exact fun H' ms' F' nx st' => h H' ms' F' nx st' σ
  | ok l S1 =>
    rw [q] at h
    refine fun vs H1 ms1 F1 nx st1 rl => ?_
    match l, rl, h with
    | [d1, d2], .cons r1 (.cons r2 .nil), h => exact ⟨_, _, rfl, h _ H1 ms1 F1 nx (((hs.mono nx).set r1).set r2) st1⟩
    | [], _, h => exact h.elim
    | [_], _, h => exact h.elim
    | _ :: _ :: _ :: _, _, h => exact h.elim
theorem z_ifs {c : Expr} {a b : List Stmt} {fa fb : Env → Store → R Fl} (hc : PT X c (tT P W f)) (ha : PSs X a (tS P W fr fa)) (hb : PSs X b (tS P W fr fb)) :
    PS X (.If c a b pos) (tS P W fr fun env S => (f env S).bind fun x S => match x with
    | .bl true => fa env S
    | .bl false => fb env S
    | _ => .bad) :=
  (ps_if hc ha hb).imq fun A σ H ⟨env, ms, F, S, hs, st, h⟩ => ⟨env, ms, F, S, hs, st, h.bindE fun d S k => fun v H' ms' F' nx st' r => by
    cases r with
    | bl b =>
      refine ⟨b, rfl, ?_⟩
      cases b with
      | true => exact iteT ⟨env, ms', F', S, hs.mono nx, st', k.nxt nx⟩
      | false => exact iteF ⟨env, ms', F', S, hs.mono nx, st', k.nxt nx⟩
    | _ => exact k.elim⟩
theorem z_nil : PSs X [] (tS P W fr fun env S => .ok (.nx env) S) := pss_nil.imq fun A σ H ⟨env, ms, F, S, hs, st, h⟩ => h σ H ms F (Nx.refl _ _) hs st
theorem z_cons {s : Stmt} {l : List Stmt} {fa fb : Env → Store → R Fl} (ha : PS X s (tS P W fr fa)) (hb : PSs X l (tS P W fr fb)) :
    PSs X (s :: l) (tS P W fr fun env S => (fa env S).bind fun r S => match r with
    | .nx env => fb env S
    | r => .ok r S) :=
  (pss_cons ha hb).imq fun A σ H ⟨env, ms, F, S, hs, st, h⟩ => ⟨env, ms, F, S, hs, st, by
    dsimp only at h
    cases q : fa env S with
    | bad =>
      rw [q] at h
      exact h
    | exc c S1 =>
      rw [q] at h
      exact h
    | ok r S1 =>
      rw [q] at h
      cases r with
      | nx env1 => exact fun σ' H' ms' F' nx hs' st' => ⟨env1, ms', F', S1, hs', st', PostS.nxt nx h⟩
      | ret d => exact h
      | bk env1 => exact h
      | ct env1 => exact h⟩
end
end SV
/-! SvP: loops; the soundness of the checker of statements. -/
namespace SV
open PySem PySem.Spec PyProof.Rows L2
variable {X : Cx} {P : Pg} {W : WX} {T : Tab} {Γ : Nat → List D → Store → R D} {fr : Bool} {pos : Pos}
/-- the target stored, in the frame -/
theorem tgt_here {tg : Tg} {d : D} {env env' : Env} {x : V} {σ : L2.St} {ms : List Addr} {F H : Hp} {Q : L2.St → Hp → Prop} (e : tg.set d env = some env') (hs : Slots P ms F σ env) (r : ItemR P ms F H tg x d)
    (h : ∀ σ2, Slots P ms F σ2 env' → Q σ2 H) : gT P.K tg x σ H Q := by
  cases tg with
  | one i =>
    cases e
    exact h _ (hs.set r)
  | two i j =>
    have key : ∀ a b, d = .tup [a, b] → env' = (env.set i (some a)).set j (some b) → gT P.K (.two i j) x σ H Q := fun a b e1 e2 => by
      obtain ⟨T, xs, rfl, sq, rl⟩ := r _ e1
      subst e2
      cases rl with
      | cons r1 t =>
        cases t with
        | cons r2 t2 =>
          cases t2
          exact ⟨T, _, rfl, sq, rfl, _, _, rfl, _, _, rfl, rfl, h _ ((hs.set r1).set r2)⟩
    cases d with
    | tup l =>
      match l, e with
      | [a, b], e => exact key a b rfl (Option.some.inj e).symm
      | [], e => cases e
      | [_], e => cases e
      | _ :: _ :: _ :: _, e => cases e
    | _ => cases e
theorem z_for {iter tgE : Expr} {body : List Stmt} {tg : Tg} {fi : Env → Store → R Src} {fb : Env → Store → R Fl} (hp : PassesOwn (model X.prog X.w) X.A X.env X.xe) (hc : X.calm = true) (hi : PI X tgE iter (tI P W tg fi)) (hg : PG X tgE (gT P.K tg)) (hb : PSs X body (tS P W fr fb))
    (hs : ∀ x, foldedSetIterable iter X.env x = pure x) : PS X (.For tgE iter body [] pos) (tS P W fr fun env S => (fi env S).bind fun src S => forLoop src.guard tg.set fb src.items env S) := by
  refine (ps_for hp hc hi hg hb hs).imq fun A σ H ⟨env, ms, F, S, sl, st, h⟩ => ⟨env, ms, F, S, sl, st, ?_⟩
  dsimp only at h
  cases q : fi env S with
  | bad =>
    rw [q] at h
    exact h
  | exc c S1 =>
    rw [q] at h
    exact fun H' ms' F' nx st' => h H' ms' F' nx st' σ
  | ok src S1 =>
    rw [q] at h
    dsimp only [R.bind_ok] at h
    refine fun J H1 ms1 F1 nx st1 it => ?_
    refine ⟨fun i m σ' H' => m = src.items.length - i ∧ i ≤ src.items.length ∧ ∃ env' ms' F' S', Nx ms1 F1 ms' F' ∧ Slots P ms' F' σ' env' ∧ Sto P H' ms' F' S' ∧
      PostS P W fr ms' F' A (forLoop src.guard tg.set fb (src.items.drop i) env' S'), ⟨_, rfl, Nat.zero_le _, env, ms1, F1, S1, Nx.refl _ _, sl.mono nx, st1, PostS.nxt nx h⟩, ?_⟩
    rintro i m σ2 H2 ⟨rfl, hi2, env2, ms2, F2, S2, nx2, sl2, st2, fin2⟩
    by_cases hlt : i < src.items.length
    · right
      rw [List.drop_eq_getElem_cons hlt] at fin2
      have gd : Good src.guard S2 := by
        unfold forLoop at fin2
        by_cases g : Good src.guard S2
        · exact g
        · rw [if_neg g] at fin2
          exact fin2.elim
      unfold forLoop at fin2
      rw [if_pos gd] at fin2
      have it2 := it P.pv i H2 ms2 F2 S2 nx2 st2 gd
      obtain ⟨go, yl⟩ := it2.1 src.items[i] (getO hlt)
      refine ⟨go, fun σ' H' => ∃ env' ms' F' S', Nx ms1 F1 ms' F' ∧ Slots P ms' F' σ' env' ∧ Sto P H' ms' F' S' ∧
        PostS P W fr ms' F' A (forLoop src.guard tg.set fb (src.items.drop (i + 1)) env' S'), fun σ' H' hh => ⟨_, by omega, rfl, hlt, hh⟩, fun x H3 hy => ?_⟩
      obtain ⟨st3, rx⟩ := yl x H3 hy
      cases qs : tg.set src.items[i] env2 with
      | none =>
        rw [qs] at fin2
        exact fin2.elim
      | some env' =>
        rw [qs] at fin2
        dsimp only at fin2
        refine tgt_here qs sl2 rx fun σ3 sl3 => ⟨env', ms2, F2, S2, sl3, st3, ?_⟩
        cases qb : fb env' S2 with
        | bad =>
          rw [qb] at fin2
          exact fin2
        | exc cc S3 =>
          rw [qb] at fin2
          exact fin2
        | ok r S3 =>
          rw [qb] at fin2
          dsimp only [R.bind_ok] at fin2
          cases r with
          | nx env3 => exact fun σ4 H4 ms4 F4 nx4 sl4 st4 => ⟨env3, ms4, F4, S3, nx2.trans nx4, sl4, st4, PostS.nxt nx4 fin2⟩
          | ct env3 => exact fun σ4 H4 ms4 F4 nx4 sl4 st4 => ⟨env3, ms4, F4, S3, nx2.trans nx4, sl4, st4, PostS.nxt nx4 fin2⟩
          | bk env3 => exact fin2
          | ret d => exact fin2
    · left
      have e : i = src.items.length := by omega
      subst e
      rw [List.drop_length] at fin2
      unfold forLoop at fin2
      by_cases gd : Good src.guard S2
      · rw [if_pos gd] at fin2
        exact ⟨(it P.pv src.items.length H2 ms2 F2 S2 nx2 st2 gd).2 (Nat.le_refl _), fin2 σ2 H2 ms2 F2 (Nx.refl _ _) sl2 st2⟩
      · rw [if_neg gd] at fin2
        exact fin2.elim
theorem z_whl {c : Expr} {body : List Stmt} {f : Env → Store → R D} {fb : Env → Store → R Fl} {fu : Nat} (hp : PassesOwn (model X.prog X.w) X.A X.env X.xe) (hc : PT X c (tT P W f)) (hb : PSs X body (tS P W fr fb)) :
    PS X (.While c body [] pos) (tS P W fr (whlLoop f fb fu)) := by
  refine (ps_while hp hc hb).imq fun A σ H ⟨env, ms, F, S, sl, st, h⟩ => ?_
  refine ⟨fun m σ' H' => ∃ env' ms' F' S', Slots P ms' F' σ' env' ∧ Sto P H' ms' F' S' ∧ PostS P W fr ms' F' A (whlLoop f fb m env' S'), ⟨fu, env, ms, F, S, sl, st, h⟩, ?_⟩
  rintro m σ2 H2 ⟨env2, ms2, F2, S2, sl2, st2, h2⟩
  cases m with
  | zero => exact h2.elim
  | succ m =>
    unfold whlLoop at h2
    refine ⟨env2, ms2, F2, S2, sl2, st2, h2.bindE fun d S3 k => fun v H3 ms3 F3 nx3 st3 r => ?_⟩
    cases r with
    | bl b =>
      refine ⟨b, rfl, ?_⟩
      cases b with
      | false => exact iteF (k σ2 H3 ms3 F3 nx3 (sl2.mono nx3) st3)
      | true =>
        refine iteT ⟨fun σ' H' => ∃ env' ms' F' S', Slots P ms' F' σ' env' ∧ Sto P H' ms' F' S' ∧ PostS P W fr ms' F' A (whlLoop f fb m env' S'), fun σ' H' hh => ⟨m, Nat.lt_succ_self _, hh⟩, env2, ms3, F3, S3, sl2.mono nx3, st3, ?_⟩
        have k := PostS.nxt nx3 k
        dsimp only at k
        cases qb : fb env2 S3 with
        | bad =>
          rw [qb] at k
          exact k
        | exc cc S4 =>
          rw [qb] at k
          exact k
        | ok r S4 =>
          rw [qb] at k
          dsimp only [R.bind_ok] at k
          cases r with
          | nx env3 => exact fun σ4 H4 ms4 F4 nx4 sl4 st4 => ⟨env3, ms4, F4, S4, sl4, st4, PostS.nxt nx4 k⟩
          | ct env3 => exact fun σ4 H4 ms4 F4 nx4 sl4 st4 => ⟨env3, ms4, F4, S4, sl4, st4, PostS.nxt nx4 k⟩
          | bk env3 => exact k
          | ret d => exact k
    | _ => exact k.elim

/-! ### name = [..] -/
/-- the statement, for whatever the comprehension makes -/
def SetR (X : Cx) (v : Expr) (t : TE) : Prop := ∀ (i : Nat) (y : Str) (py spos : Pos), X.N[i]? = some y → X.env.scope.names.lookup y = some .local → swapsWith v (some (.Name y py)) spos.line X.env = pure true → PS X (.Assign [.Name y py] v spos) (tAsg t (gName i))
theorem setR_chk {N : List Str} {sc : Scope} {fu : Nat} (c : Ctx T Γ X P) (tk : Takes X W) (hN : X.N = N) (hs : X.env.scope = sc) : ∀ {e : E} {v : Expr}, chk T N sc e v = true → isLc v = true → SetR X v (tE P W (e.fresh T) (ev Γ e))
  | .lc elt tg it cond, v, h, hv => by
    unfold chk at h
    split at h
    · simp only [Bool.and_eq_true, decide_eq_true_eq] at h
      obtain ⟨⟨⟨⟨⟨⟨h1, h2⟩, h3⟩, h4⟩, h5⟩, h6⟩, h7⟩ := h
      subst h1
      have hb := blkOk_by h2
      have hok := (tgt_okC h3).2.1
      intro i y py spos g1 g2 g3
      refine s_setLc (own := tgOwn N tg) g1 g2 g3 c.hK c.calm c.nd hok (sI it X P W N sc tg _ _ c tk hN hs h5) (by rw [hN, hs]; exact hb) (by cases tg <;> rfl) (fun s H C cl fp => tgt_ok (cl := false) (sc := relS _ sc) c.hK c.calm c.nd hN (by rw [← hs]; rfl) (fun z => by cases z) h3) (fun s H C cl fp => ?_)
        (fun s H C cl fp => s_ex fun pv => (sE elt _ _ _ N (relS _ sc) _ (c.blk pv s H _ _ fp) takes0 hN (by rw [← hs]; rfl) h7).1.ord) (set_ok h4)
      split at h6
      · exact s_noif
      · simp only [Bool.and_eq_true] at h6
        exact pts_one (s_tx fun pv => (sE _ _ _ _ N (relS _ sc) _ (c.blk pv s H _ _ fp) takes0 hN (by rw [← hs]; rfl) h6.2).2.1 h6.1)
      · cases h6
    · cases h
  | .cell a, v, h, hv => by
    unfold chk at h
    simp only [Bool.and_eq_true] at h
    have k := setR_chk (fu := fu) c tk hN hs h.2 hv
    rw [h.1.1] at k
    intro i y py spos g1 g2 g3
    exact (k i y py spos g1 g2 g3).imq fun A σ H q => t_cell q
  | .var _, v, h, hv => by
    cases v <;> first | (cases hv; done) | (unfold chk at h; cases h; done)
  | .cst _, v, h, hv => by
    cases v <;> first | (cases hv; done) | (unfold chk at h; cases h; done)
  | .glb _ _, v, h, hv => by
    cases v <;> first | (cases hv; done) | (unfold chk at h; cases h; done)
  | .op _ _ _, v, h, hv => by
    cases v <;> first | (cases hv; done) | (unfold chk at h; cases h; done)
  | .neg _, v, h, hv => by
    cases v <;> first | (cases hv; done) | (unfold chk at h; cases h; done)
  | .cmp _ _ _, v, h, hv => by
    cases v <;> first | (cases hv; done) | (unfold chk at h; cases h; done)
  | .chn _ _ _ _ _, v, h, hv => by
    cases v <;> first | (cases hv; done) | (unfold chk at h; cases h; done)
  | .not _, v, h, hv => by
    cases v <;> first | (cases hv; done) | (unfold chk at h; cases h; done)
  | .and _ _, v, h, hv => by
    cases v <;> first | (cases hv; done) | (unfold chk at h; cases h; done)
  | .or _ _, v, h, hv => by
    cases v <;> first | (cases hv; done) | (unfold chk at h; cases h; done)
  | .ite _ _ _, v, h, hv => by
    cases v <;> first | (cases hv; done) | (unfold chk at h; cases h; done)
  | .tup _, v, h, hv => by
    cases v <;> first | (cases hv; done) | (unfold chk at h; cases h; done)
  | .lst _, v, h, hv => by
    cases v <;> first | (cases hv; done) | (unfold chk at h; cases h; done)
  | .idx _ _, v, h, hv => by
    cases v <;> first | (cases hv; done) | (unfold chk at h; cases h; done)
  | .sl _ _ _, v, h, hv => by
    cases v <;> first | (cases hv; done) | (unfold chk at h; cases h; done)
  | .rev _, v, h, hv => by
    cases v <;> first | (cases hv; done) | (unfold chk at h; cases h; done)
  | .call _ _, v, h, hv => by
    cases v <;> first | (cases hv; done) | (unfold chk at h; cases h; done)
  | .bi _ _, v, h, hv => by
    cases v <;> first | (cases hv; done) | (unfold chk at h; cases h; done)
  | .mth _ _ _, v, h, hv => by
    cases v <;> first | (cases hv; done) | (unfold chk at h; cases h; done)
  | .dict _, v, h, hv => by
    cases v <;> first | (cases hv; done) | (unfold chk at h; cases h; done)
  | .snap _, v, h, hv => by
    cases v <;> first | (cases hv; done) | (unfold chk at h; cases h; done)
  | .sset _, v, h, hv => by
    cases v <;> first | (cases hv; done) | (unfold chk at h; cases h; done)
  | .lset _, v, h, hv => by
    cases v <;> first | (cases hv; done) | (unfold chk at h; cases h; done)
theorem sw_cell {e : Expr} {x : Str} {p : Pos} {l : Nat} (he : isLc e = true) (hx : X.env.scope.names.lookup x = some .cell) : swapsWith e (some (.Name x p)) l X.env = pure false := by
  cases e <;> first | (cases he; done) | skip
  have ky : X.env.kindOf x = some .cell := hx
  unfold swapsWith
  simp only [ky, Expr.pos]
  have e1 : ((some NameKind.cell : Option NameKind) == some NameKind.local) = false := by decide
  rw [e1]
  simp
theorem z_setAny {N : List Str} {sc : Scope} {e : E} {v : Expr} {i : Nat} {x : Str} {p : Pos} (c : Ctx T Γ X P) (tk : Takes X W) (hN : X.N = N) (hs : X.env.scope = sc) (hf : ∀ x, X.fn x = true) (h1 : N[i]? = some x) (h2 : locOk true sc x = true) (h3 : swapsOk sc x p v = true) (h4 : chk T N sc e v = true) :
    PS X (.Assign [.Name x p] v pos) (tS P W fr (setF i (ev Γ e))) := by
  have h1' := h1
  rw [← hN] at h1'
  have h2' := (loc_ok h2).1
  rw [← hs] at h2'
  by_cases hv : isLc v = true
  · have h3' : X.env.scope.names.lookup x = some .cell ∨ (X.env.scope.names.lookup x = some .local ∧ swapsWith v (some (.Name x p)) pos.line X.env = pure true) := by
      rw [hs]
      cases v <;> first | (cases hv; done) | skip
      unfold swapsOk at h3
      simp only [Bool.and_eq_true, Bool.or_eq_true, decide_eq_true_eq, Bool.not_eq_true'] at h3
      rcases h3 with h3 | ⟨⟨⟨k0, k1⟩, k2⟩, k3⟩
      · exact .inl h3
      · refine .inr ⟨k0, sw_true ?_ (by rw [hs]; exact k0) k2 k3⟩
        rw [hs]
        split at k1
        · assumption
        · cases k1
    rcases h3' with hc | ⟨hl, hsw⟩
    · exact z_set c.nd h1' h2' (.inl (hf _)) (sw_cell hv hc) (sE e X P W N sc v c tk hN hs h4).1.ord
    · have k := setR_chk (fu := 0) c tk hN hs h4 hv
      refine (k i x p pos h1' hl hsw).imq fun A σ H q => ?_
      obtain ⟨env, ms, F, S, hs, st, h⟩ := t_set q
      exact ⟨env, ms, F, S, hs, st, h.weak⟩
  · have hn : noComp v = true := by
      cases v <;> first | rfl | (exact absurd rfl hv) | cases h3
    exact z_set c.nd h1' h2' (.inl (hf _)) (swaps_name hn) (sE e X P W N sc v c tk hN hs h4).1.ord

/-- what stands around, for statements -/
structure CtxS (T : Tab) (Γ : Nat → List D → Store → R D) (X : Cx) (P : Pg) (W : WX) (N : List Str) (sc : Scope) : Prop extends Ctx T Γ X P where
  tk : Takes X W
  hN : X.N = N
  hs : X.env.scope = sc
  hp : PassesOwn (model X.prog X.w) X.A X.env X.xe
  hf : ∀ x, X.fn x = true
mutual
theorem sC {N : List Str} {sc : Scope} {fu : Nat} (c : CtxS T Γ X P W N sc) : ∀ (k : C) (s : Stmt), chkC T N sc fr k s = true → PS X s (tS P W fr (xc Γ fu k))
  | .pass, s, h => by
    unfold chkC at h
    split at h
    · exact z_pass
    · cases h
  | .expr e, s, h => by
    unfold chkC at h
    split at h
    · simp only [Bool.and_eq_true] at h
      exact z_expr h.1 (sE e X P W N sc _ c.toCtx c.tk c.hN c.hs h.2).1.ord
    · cases h
  | .set i e, s, h => by
    unfold chkC at h
    split at h
    · simp only [Bool.and_eq_true, decide_eq_true_eq] at h
      obtain ⟨⟨⟨h1, h2⟩, h3⟩, h4⟩ := h
      exact z_setAny c.toCtx c.tk c.hN c.hs c.hf h1 h2 h3 h4
    · cases h
  | .setT i j e, s, h => by
    unfold chkC at h
    split at h
    · simp only [Bool.and_eq_true] at h
      obtain ⟨⟨h1, h2⟩, h3⟩ := h
      exact z_setT c.hK c.calm c.nd c.hN c.hs c.hf h1 h2 (sE e X P W N sc _ c.toCtx c.tk c.hN c.hs h3).1.ord
    · cases h
  | .par i j a b, s, h => by
    unfold chkC at h
    split at h
    · simp only [Bool.and_eq_true, decide_eq_true_eq, Bool.not_eq_true', bne_iff_ne] at h
      obtain ⟨⟨⟨⟨⟨⟨a1, a2⟩, a3⟩, a4⟩, ⟨⟨b1, b2⟩, b3⟩, b4⟩, ⟨⟨c1, c2⟩, c3⟩, c4⟩, d1, d2⟩ := h
      have hk : X.env.scope.kind = .function := by
        rw [c.hs]
        split at b3
        · assumption
        · cases b3
      rw [← c.hN] at a1 a3
      rw [← c.hs] at a2 a4
      have pa := (sS (.cons a (.cons b .nil)) X P W N sc [_, _] c.toCtx c.tk c.hN c.hs (by
        simp only [chks, Bool.and_eq_true]
        exact ⟨⟨c1, d1⟩, ⟨c2, d2⟩, trivial⟩)).1
      exact z_par c.calm c.nd a1 a3 b1 a2 a4 (par_sw hk a2 a4 b4 b2 c1 c2 c3 c4) pa
    · cases h
  | .put o i v, s, h => by
    unfold chkC at h
    split at h
    · simp only [Bool.and_eq_true] at h
      obtain ⟨⟨⟨h1, h2⟩, h3⟩, h4⟩ := h
      exact z_put c.hPr c.hPw c.units h1 (sE o X P W N sc _ c.toCtx c.tk c.hN c.hs h2).1.ord (sE i X P W N sc _ c.toCtx c.tk c.hN c.hs h3).1.ord (sE v X P W N sc _ c.toCtx c.tk c.hN c.hs h4).1.ord
    · cases h
  | .ret e, s, h => by
    unfold chkC at h
    split at h
    · simp only [Bool.and_eq_true, Bool.or_eq_true, Bool.not_eq_true'] at h
      have k := (sE e X P W N sc _ c.toCtx c.tk c.hN c.hs h.2).1
      rcases h.1 with h1 | h1
      · subst h1
        exact z_ret k.ord
      · rw [h1] at k
        cases fr with
        | false => exact z_ret k.ord
        | true => exact z_ret k
    · cases h
  | .retN, s, h => by
    unfold chkC at h
    split at h
    · exact z_retN
    · cases h
  | .ifs d a b, s, h => by
    unfold chkC at h
    split at h
    · simp only [Bool.and_eq_true] at h
      obtain ⟨⟨⟨h1, h2⟩, h3⟩, h4⟩ := h
      exact z_ifs ((sE d X P W N sc _ c.toCtx c.tk c.hN c.hs h2).2.1 h1) (sCs c a _ h3) (sCs c b _ h4)
    · cases h
  | .for tg it b, s, h => by
    unfold chkC at h
    split at h
    · simp only [Bool.and_eq_true] at h
      obtain ⟨⟨⟨h1, h2⟩, h3⟩, h4⟩ := h
      exact z_for c.hp c.calm (sI it X P W N sc tg _ _ c.toCtx c.tk c.hN c.hs h3) (tgt_ok c.hK c.calm c.nd c.hN c.hs (fun _ => c.hf) h1) (sCs c b _ h4) (set_ok h2)
    · cases h
  | .whl d b, s, h => by
    unfold chkC at h
    split at h
    · simp only [Bool.and_eq_true] at h
      obtain ⟨⟨h1, h2⟩, h3⟩ := h
      exact z_whl c.hp ((sE d X P W N sc _ c.toCtx c.tk c.hN c.hs h2).2.1 h1) (sCs c b _ h3)
    · cases h
  | .brk, s, h => by
    unfold chkC at h
    split at h
    · exact z_brk
    · cases h
  | .cnt, s, h => by
    unfold chkC at h
    split at h
    · exact z_cnt
    · cases h
  | .never, s, h => z_never
theorem sCs {N : List Str} {sc : Scope} {fu : Nat} (c : CtxS T Γ X P W N sc) : ∀ (k : Cs) (s : List Stmt), chkCs T N sc fr k s = true → PSs X s (tS P W fr (xcs Γ fu k))
  | .nil, s, h => by
    unfold chkCs at h
    split at h
    · exact z_nil
    · cases h
  | .cons k ks, s, h => by
    unfold chkCs at h
    split at h
    · simp only [Bool.and_eq_true] at h
      exact z_cons (sC c k _ h.1) (sCs c ks _ h.2)
    · cases h
end
end SV
/-! SvQ: defs; the master theorem. -/
namespace SV
open PySem PySem.Spec PyProof.Rows L2
variable {P : Pg} {ms ms' : List Addr} {F F' H H' : Hp}

/-! ### the store cut down -/
mutual
theorem Rep.cut {n : Nat} : ∀ {v : V} {d : D}, Rep P ms F v d → D.lo n d = true → Rep P (ms.take n) F v d
  | _, _, .non, _ => .non
  | _, _, .bl b, _ => .bl b
  | _, _, .int i, _ => .int i
  | _, _, .str s, _ => .str s
  | _, _, .tup h e r, k => .tup h e (RepL.cut r (by unfold D.lo at k; exact k))
  | _, _, .lst h r, k => .lst h (RepL.cut r (by unfold D.lo at k; exact k))
  | _, _, .scr h, _ => .scr h
  | _, _, .loc h, k => .loc (by
    unfold D.lo at k
    rw [List.getElem?_take_of_lt (of_decide_eq_true k)]
    exact h)
  | _, _, .fn h, _ => .fn h
  | _, _, .dctv h e r, k => .dctv h e (RepL.cut r (by unfold D.lo at k; exact k))
  | _, _, .exn h, _ => .exn h
theorem RepL.cut {n : Nat} : ∀ {v : List V} {d : List D}, RepL P ms F v d → D.los n d = true → RepL P (ms.take n) F v d
  | _, _, .nil, _ => .nil
  | _, _, .cons h t, k => by
    unfold D.los at k
    rw [Bool.and_eq_true] at k
    exact .cons (Rep.cut h k.1) (RepL.cut t k.2)
end
theorem Nx.cut {n : Nat} (x : Nx ms F ms' F') (h : ms.length ≤ n) : Nx ms F (ms'.take n) F' := ⟨fun k a e => by
  have hk : k < ms.length := (List.getElem?_eq_some_iff.mp e).1
  rw [List.getElem?_take_of_lt (by omega)]
  exact x.pre k a e, x.sub⟩
theorem take_some {α : Type} {l : List α} {n k : Nat} {a : α} (h : (l.take n)[k]? = some a) : k < n ∧ l[k]? = some a := by
  by_cases hk : k < n
  · rw [List.getElem?_take_of_lt hk] at h
    exact ⟨hk, h⟩
  · rw [List.getElem?_eq_none (by rw [List.length_take]; omega)] at h
    cases h
theorem pk_cut {n : Nat} {kvs : List (Key × V)} {l : List (D × D)} (h : Paired (PK P ms F) kvs l) : (∀ p ∈ l, D.lo n p.1 = true ∧ D.lo n p.2 = true) → Paired (PK P (ms.take n) F) kvs l := by
  induction h with
  | nil => exact fun _ => .nil
  | cons h t ih => exact fun lo => .cons ⟨h.1, h.2.cut (lo _ List.mem_cons_self).2⟩ (ih fun p hp => lo p (List.mem_cons_of_mem _ hp))
theorem pn_cut {n : Nat} {kvs : List (NestedKey × Addr × V)} {l : List (D × D)} (h : Paired (PN P ms F) kvs l) : (∀ p ∈ l, D.lo n p.1 = true ∧ D.lo n p.2 = true) → Paired (PN P (ms.take n) F) kvs l := by
  induction h with
  | nil => exact fun _ => .nil
  | cons h t ih => exact fun lo => .cons ⟨h.1.cut (lo _ List.mem_cons_self).1, h.2.1, h.2.2.1, h.2.2.2.1, h.2.2.2.2.cut (lo _ List.mem_cons_self).2⟩ (ih fun p hp => lo p (List.mem_cons_of_mem _ hp))
theorem Sto.cut {S : Store} {n : Nat} (h : Sto P H ms F S) (hc : (S.take n).all (Cell.lo n) = true) : Sto P H (ms.take n) F (S.take n) := by
  have tk : ∀ {k : Nat}, k < n → (S.take n)[k]? = S[k]? := fun hk => List.getElem?_take_of_lt hk
  refine ⟨h.sub, by rw [List.length_take, List.length_take, h.len], fun k a e => h.has k a (take_some e).2, fun k j a e1 e2 => ?_, fun k a c e1 e2 => ?_, fun p hp => ?_⟩
  · have t1 := take_some e1
    have t2 := take_some e2
    rw [tk t1.1, tk t2.1]
    exact h.inj k j a t1.2 t2.2
  · have t1 := take_some e1
    have t2 := take_some e2
    have q := h.cell k a c t1.2 t2.2
    have lo : c.lo n = true := List.all_eq_true.mp hc c (List.mem_of_getElem? e2)
    cases c with
    | lst l =>
      obtain ⟨h1, xs, h2, h3⟩ := q
      exact ⟨h1, xs, h2, h3.cut lo⟩
    | dct l =>
      obtain ⟨hf, hl, ⟨kvs, h1, h2⟩ | ⟨hs, kvs, h1, h2⟩⟩ := q
      · have lo' : ∀ p ∈ l, D.lo n p.1 = true ∧ D.lo n p.2 = true := fun p hp => by
          have := List.all_eq_true.mp lo p hp
          rwa [Bool.and_eq_true] at this
        exact ⟨hf, hl, .inl ⟨kvs, h1, pk_cut h2 lo'⟩⟩
      · have lo' : ∀ p ∈ l, D.lo n p.1 = true ∧ D.lo n p.2 = true := fun p hp => by
          have := List.all_eq_true.mp lo p hp
          rwa [Bool.and_eq_true] at this
        exact ⟨hf, hl, .inr ⟨hs, kvs, h1, pn_cut h2 lo'⟩⟩
    | obj c l => exact q
    | dead => trivial
  · obtain ⟨p1, p2, p3⟩ := h.prv p hp
    refine ⟨p1, p2, fun k e => ?_⟩
    have t1 := take_some e
    rw [tk t1.1]
    exact p3 k t1.2
theorem Fresh.cut {S : Store} {n : Nat} {p : Addr} {l : List D} (h : Fresh P H ms F S p l) (hl : D.los n l = true) : Fresh P H (ms.take n) F (S.take n) p l := by
  obtain ⟨h3, h4, ⟨xs, h1, h2⟩, h5⟩ := h
  refine ⟨h3, fun k e => ?_, ⟨xs, h1, h2.cut hl⟩, h5⟩
  have t1 := take_some e
  rw [List.getElem?_take_of_lt t1.1]
  exact h4 k t1.2
/-- the cells that a def has made are forgotten -/
def fin (n : Nat) : R D → R D
  | .ok d S => if (D.lo n d && (S.take n).all (Cell.lo n)) = true then .ok d (S.take n) else .ok d S
  | .exc c S => if (S.take n).all (Cell.lo n) = true then .exc c (S.take n) else .exc c S
  | .bad => .bad
theorem Post.fin {fr : Bool} {Q : VK} {Ex : XQ} {r : R D} (h : Post P ms F fr Q Ex (SV.fin ms.length r)) : Post P ms F fr Q Ex r := by
  cases r with
  | bad => exact h
  | exc c S =>
    change Post P ms F fr Q Ex (if _ then _ else _) at h
    split at h
    · next k => exact fun H' ms' F' nx st => h H' _ F' (nx.cut (Nat.le_refl _)) (st.cut k)
    · exact h
  | ok d S =>
    change Post P ms F fr Q Ex (if _ then _ else _) at h
    split at h
    · next k =>
      rw [Bool.and_eq_true] at k
      have ho : ∀ (h2 : Ord P ms F Q d (S.take ms.length)), Ord P ms F Q d S := fun h2 v H' ms' F' nx st r => h2 v H' _ F' (nx.cut (Nat.le_refl _)) (st.cut k.2) (r.cut k.1)
      have h2 : Val P ms F fr Q d (S.take ms.length) := h
      show Val P ms F fr Q d S
      unfold Val at h2 ⊢
      split
      · next l =>
        have k1 := k.1
        unfold D.lo at k1
        exact fun p H' ms' F' nx st f => h2 p H' _ F' (nx.cut (Nat.le_refl _)) (st.cut k.2) (f.cut k1)
      · next q =>
        split at h2
        · exact absurd rfl (q _ rfl)
        · exact ho h2
    · exact h

/-! ### the defs -/
/-- the scope of a def, looked at -/
def scopeC (N ps : List Str) (sc : Scope) : Bool :=
  (decide (sc.kind = .function) && (sc.isCoroutine == false) && (sc.isGenerator == false)) && (decide N.Nodup && decide (N.take ps.length = ps)) &&
    ((ps.all fun x => decide (sc.names.lookup x = some .local ∨ sc.names.lookup x = some .cell)) && (sc.names.all fun y => decide (y.2 ≠ .free)))
theorem scopeC_ok {N ps : List Str} {sc : Scope} (h : scopeC N ps sc = true) : FnScope N ps sc := by
  unfold scopeC at h
  simp only [Bool.and_eq_true, beq_iff_eq, decide_eq_true_eq, List.all_eq_true] at h
  obtain ⟨⟨⟨⟨a1, a2⟩, a3⟩, b1, b2⟩, c1, c2⟩ := h
  exact ⟨a1, a2, a3, b1, b2, c1, c2⟩
/-- a def's code -/
structure Fd where
  ar : Nat
  sl : Nat
  fresh : Bool
  body : Cs
/-- a def of a law's text: its place in the table of codes -/
structure Row where
  i : Nat
  name : Str
  st : Stmt
  ps : List Str
  N : List Str
def toD : R Fl → R D
  | .ok (.nx _) S => .ok .non S
  | .ok (.ret d) S => .ok d S
  | .ok _ _ => .bad
  | .exc c S => .exc c S
  | .bad => .bad
section
variable (G : Nat → Option Fd) (fu : Nat)
/-- what a def answers, at so many levels -/
noncomputable def run : Nat → Nat → List D → Store → R D
  | 0, _, _, _ => .bad
  | n + 1, i, ds, S => match G i with
    | none => .bad
    | some r => if ds.length = r.ar then fin S.length (toD (xcs (run n) fu r.body (ds.map some ++ List.replicate (r.sl - ds.length) none) S)) else .bad
def frOf (i : Nat) : Bool := match G i with
  | some r => r.fresh
  | none => false
def rowAt (rows : List Row) (i : Nat) : Option Row := rows.find? fun r => r.i == i
def tabOf (rows : List Row) (csts : List (Str × D)) : Tab := ⟨fun i => (rowAt rows i).map (·.name), frOf G, csts⟩
def Row.ok (T : Tab) (r : Row) : Bool := match G r.i with
  | some d => decide (d.ar = r.ps.length) && decide (d.sl = r.N.length) && scopeC r.N r.ps (defScope r.st) && chkCs T r.N (defScope r.st) d.fresh d.body (defBody r.st)
  | none => false
end
theorem slots_start {vs : List V} {ds : List D} {N : List Str} (r : RepL P ms F vs ds) : Slots P ms F (L2.start N vs) (ds.map some ++ List.replicate (N.length - ds.length) none) := by
  refine ⟨by simp [L2.start, r.length], fun i d e => ?_⟩
  by_cases hi : i < ds.length
  · rw [List.getElem?_append_left (by simpa using hi), List.getElem?_map] at e
    cases q : ds[i]? with
    | none => rw [q] at e; cases e
    | some d' =>
      rw [q] at e
      cases e
      obtain ⟨v, h1, h2⟩ := r.get q
      refine ⟨v, ?_, h2⟩
      unfold L2.start
      rw [List.getElem?_append_left (by simpa [r.length] using hi), List.getElem?_map, h1]
      rfl
  · rw [List.getElem?_append_right (by simpa using hi), List.getElem?_replicate] at e
    split at e <;> cases e
section
variable {prog : Program} {w : World} {K : PySem.W.Frag} {mg : Str → Option Value} {base : Heap} {rows : List Row} {csts : List (Str × D)} {fu : Nat} {G : Nat → Option Fd}
/-- what is known of a def -/
structure Known (K : PySem.W.Frag) (mg : Str → Option Value) (r : Row) (f : Addr) (fd : FuncData) : Prop where
  fn : Fun K r.name r.name r.st f fd
  mgf : mg r.name = some (.ref f)
  bd : Binds K fd r.ps []
def bltNames : List Str := ["len", "sorted", "list", "tuple", "min", "max", "sum", "all", "any", "int", "str", "isinstance", "bool", "range", "set"]
/-- what is known of the whole -/
structure Whole (prog : Program) (w : World) (G : Nat → Option Fd) (P : Pg) (K : PySem.W.Frag) (mg : Str → Option Value) (rows : List Row) (csts : List (Str × D)) : Prop where
  hK : P.K = K
  hPr : P.prog = prog
  hPw : P.w = w
  hmg : P.mg = mg
  blt : ∀ x ∈ bltNames, mg x = none
  cst : ∀ x d, csts.lookup x = some d → ∃ u v, mg x = some u ∧ RelV v u ∧ flatOf d = some v
  ok : ∀ r ∈ rows, r.ok G (tabOf G rows csts) = true
  def_ : ∀ r ∈ rows, ∃ f fd, Known K mg r f fd
theorem master (Wh : Whole prog w G P K mg rows csts) : ∀ (n : Nat) (r : Row), r ∈ rows → ∀ (f : Addr) (fd : FuncData), Known K mg r f fd →
    FnOk prog w K mg base (L2.CX prog w) n f fd r.ps (spOf P (frOf G r.i) (run G fu n r.i)) := by
  intro n
  induction n with
  | zero =>
    intro r hr f fd hk
    exact ⟨fun vs H Q E h => by obtain ⟨_, _, _, _, _, _, _, h⟩ := h; exact h.elim, fun A outer s H args us vs Q E _ _ _ _ h => by obtain ⟨_, _, _, _, _, _, _, h⟩ := h; exact h.elim⟩
  | succ n ih =>
    intro r hm f fd hk
    have ho := Wh.ok r hm
    unfold Row.ok at ho
    cases hG : G r.i with
    | none => rw [hG] at ho; cases ho
    | some d =>
      rw [hG] at ho
      simp only [Bool.and_eq_true, decide_eq_true_eq] at ho
      obtain ⟨⟨⟨h1, h2⟩, h3⟩, h4⟩ := ho
      have scp := scopeC_ok h3
      have hfr : frOf G r.i = d.fresh := by unfold frOf; rw [hG]
      rw [hfr]
      refine hk.fn.okX scp (fun vs H Q E h => ?_) (fun cdv A outer s H vs Q E hroom h => ?_)
      · obtain ⟨pv, ms, F, S, ds, st, rl, h⟩ := h
        unfold run at h
        rw [hG] at h
        dsimp only at h
        by_cases hl : ds.length = d.ar
        · rw [rl.length, hl, h1]
        · rw [if_neg hl] at h
          exact h.elim
      · obtain ⟨pv, ms, F, S, ds, st, rl, h⟩ := h
        unfold run at h
        rw [hG] at h
        dsimp only at h
        by_cases hl : ds.length = d.ar
        · rw [if_pos hl, ← st.len] at h
          have h := Post.fin h
          rw [h2] at h
          refine ⟨tS (P.wp pv) (fun cls d _ H => E cls d H) d.fresh (xcs (run G fu n) fu d.body), sCs ⟨⟨?_, ?_, ?_, ?_, rfl, scp.nd, ?_, ?_, ?_⟩, takes_of rfl rfl rfl rfl, rfl, rfl, passes_of rfl, fun _ => rfl⟩ _ _ h4, ?_⟩
          · exact Wh.hK
          · exact Wh.hPr
          · exact Wh.hPw
          · exact hroom.units
          · exact Wh.blt
          · exact Wh.cst
          · intro j x hj
            have hj' : (rowAt rows j).map (·.name) = some x := hj
            cases q : rowAt rows j with
            | none => rw [q] at hj'; cases hj'
            | some r2 =>
              rw [q] at hj'
              cases hj'
              have m2 : r2 ∈ rows := List.mem_of_find?_eq_some q
              have e2 : r2.i = j := by
                have := List.find?_some q
                simpa using this
              obtain ⟨f2, fd2, k2⟩ := Wh.def_ r2 m2
              refine ⟨n, f2, fd2, r2.ps, ?_, k2.mgf, k2.fn.kp, k2.bd, hroom⟩
              refine (ih r2 m2 f2 fd2 k2).imp fun vs H Q E hh => ?_
              obtain ⟨pv2, ms2, F2, S2, ds2, st2, rl2, hh⟩ := hh
              rw [e2]
              exact ⟨pv2, ms2, F2, S2, ds2, st2, rl2.un.un, hh⟩
          · refine ⟨_, ms, F, S, slots_start rl.wp, st, ?_⟩
            cases q : xcs (run G fu n) fu d.body (ds.map some ++ List.replicate (r.N.length - ds.length) none) S with
            | bad =>
              rw [q] at h
              exact h
            | exc c S1 =>
              rw [q] at h
              intro H' ms' F' nx st' σ' C hC
              exact h H' ms' F' nx st' C hC
            | ok fl S1 =>
              rw [q] at h
              cases fl with
              | nx env1 =>
                intro σ' H' ms' F' nx sl' st'
                have h2 : Val (P.wp pv) ms F d.fresh Q .non S1 := h
                have h3 : Ord (P.wp pv) ms F Q .non S1 := by
                  unfold Val at h2
                  split at h2
                  · next e => cases e
                  · exact h2
                exact h3 _ H' ms' F' nx st' .non
              | ret d => exact h
              | bk env1 => exact h.elim
              | ct env1 => exact h.elim
        · rw [if_neg hl] at h
          exact h.elim

/-! ### the law -/
def lawSp (K : PySem.W.Frag) : Sp := fun vs H Q _ => ∃ (a : Addr) (ns : List Int), vs = [.ref a] ∧ SqL K H a (ns.map V.int) ∧ ns.length ≤ 63 ∧ ∀ H', Q (.bl true) H'
/-- what a law's proof in plain Lean has to give -/
def Plain (G : Nat → Option Fd) (fu n i : Nat) : Prop := ∀ ns : List Int, ns.length ≤ 63 → ∃ S', run G fu n i [.scr ns] [] = .ok (.bl true) S'
theorem law_ok {cls : Nat → Str} (Wh : Whole prog w G ⟨K, mg, cls, prog, w, []⟩ K mg rows csts) {n : Nat} {r : Row} (hr : r ∈ rows) {f : Addr} {fd : FuncData} (hk : Known K mg r f fd) (pl : Plain G fu n r.i) :
    FnOk prog w K mg base (L2.CX prog w) n f fd r.ps (lawSp K) :=
  (master (fu := fu) Wh n r hr f fd hk).imp fun vs H Q E ⟨a, ns, e, hS, hl, q⟩ => by
    subst e
    obtain ⟨S', h⟩ := pl ns hl
    refine ⟨[], [], H, [], [.scr ns], ⟨Same.refl _, rfl, fun k a e => by simp at e, fun k j a e => by simp at e, fun k a c e => by simp at e, fun p hp => by cases hp⟩, .cons (.scr hS) .nil, ?_⟩
    rw [h]
    have h2 : Ord (Pg.wp ⟨K, mg, cls, prog, w, []⟩ []) [] H Q (.bl true) S' := fun v H' ms' F' nx st r => by
      cases r
      exact q H'
    exact h2.val
theorem cx_none {prog : Program} {w : World} (H : Hp) (s : Shared) (e : Value) (s' : Shared) (h : L2.CX prog w [] H s (fun _ _ _ => False) e s') : False := by
  obtain ⟨_, _, _, _, _, _, _, _, _, _, _, _, z⟩ := h
  exact z.elim
/-- a def's facts, as the kit finds them -/
def DefF (K : PySem.W.Frag) (x : Str) (st : Stmt) : Prop := ∃ (f : Addr) (oc : Value) (od : Option Addr) (kV doc pm : Value) (an : Option Addr) (cd ct : Value) (sl : Array (Option Value)),
  PySem.W.nsIn K mainGlobals x = some (some (.ref f)) ∧ K.lookup f = some ⟨oc, od, .func (PySem.W.fnOf x x (defArgs st) (defBody st) (defScope st) .none kV doc pm an cd ct), sl⟩ ∧ PySem.W.codeIn K cd x = true ∧ PySem.W.keepIn K (.ref f) = true
theorem defF_mk {x : Str} {st : Stmt} {f : Addr} {oc : Value} {od : Option Addr} {kV doc pm : Value} {an : Option Addr} {cd ct : Value} {sl : Array (Option Value)} (a : PySem.W.nsIn K mainGlobals x = some (some (.ref f)))
    (l : K.lookup f = some ⟨oc, od, .func (PySem.W.fnOf x x (defArgs st) (defBody st) (defScope st) .none kV doc pm an cd ct), sl⟩) (c : PySem.W.codeIn K cd x = true) (k : PySem.W.keepIn K (.ref f) = true) : DefF K x st := ⟨f, oc, od, kV, doc, pm, an, cd, ct, sl, a, l, c, k⟩
/-- how a def's arguments bind -/
def BindF (r : Row) : Prop := ∀ (kV doc pm : Value) (an : Option Addr) (cdv ct : Value) (us : List Value), us.length = r.ps.length → bindArgs (PySem.W.fnOf r.name r.name (defArgs r.st) (defBody r.st) (defScope r.st) .none kV doc pm an cdv ct) ⟨us, []⟩ = pure (r.ps.zip us)
theorem known_of {h : Heap} {r : Row} (X : K.In h) (Gm : h.Ns mainGlobals mg) (d : DefF K r.name r.st) (b : BindF r) : ∃ f fd, Known K mg r f fd := by
  obtain ⟨f, oc, od, kV, doc, pm, an, cd, ct, sl, h1, h2, h3, h4⟩ := d
  have F := fun_mk h2 h3 h4
  exact ⟨f, _, F, PySem.W.mg_of X Gm h1, F.binds b⟩
/-- a constant of the module -/
def CstF (K : PySem.W.Frag) (x : Str) (d : D) : Prop := match d with
  | .int i => ∃ t, PySem.W.nsIn K mainGlobals x = some (some (.int i t))
  | .str z => ∃ t, PySem.W.nsIn K mainGlobals x = some (some (.str z t))
  | _ => False
theorem cstI_mk {x : Str} {i : Int} {t : Tok} (a : PySem.W.nsIn K mainGlobals x = some (some (.int i t))) : CstF K x (.int i) := ⟨t, a⟩
theorem cstS_mk {x z : Str} {t : Tok} (a : PySem.W.nsIn K mainGlobals x = some (some (.str z t))) : CstF K x (.str z) := ⟨t, a⟩
theorem cst_of {h : Heap} {x : Str} {d : D} (X : K.In h) (Gm : h.Ns mainGlobals mg) (c : CstF K x d) : ∃ u v, mg x = some u ∧ RelV v u ∧ flatOf d = some v := by
  cases d with
  | int i =>
    obtain ⟨t, e⟩ := c
    exact ⟨_, .int i, PySem.W.mg_of X Gm e, ⟨t, rfl⟩, rfl⟩
  | str z =>
    obtain ⟨t, e⟩ := c
    exact ⟨_, .str z, PySem.W.mg_of X Gm e, ⟨t, rfl⟩, rfl⟩
  | _ => exact c.elim
theorem lookup_all {Z : Str → D → Prop} : ∀ {l : List (Str × D)}, (∀ p ∈ l, Z p.1 p.2) → ∀ x d, l.lookup x = some d → Z x d
  | (y, e) :: l, h, x, d, q => by
    rw [List.lookup_cons] at q
    cases hb : x == y with
    | true =>
      rw [hb] at q
      cases q
      have e1 : x = y := by simpa using hb
      subst e1
      exact h (x, e) List.mem_cons_self
    | false =>
      rw [hb] at q
      exact lookup_all (fun p hp => h p (List.mem_cons_of_mem _ hp)) x d q
/-- all together -/
theorem all_mk {l : PySem.W.OpenLaw} {h : Heap} {cls : Nat → Str} {n : Nat} {r : Row} {x : Str} {fa : Addr} (X : K.In h) (Gm : h.Ns mainGlobals mg) (hfa : mg r.name = some (.ref fa)) (hr : r ∈ rows) (hx : r.ps = [x])
    (ok : ∀ r ∈ rows, r.ok G (tabOf G rows csts) = true) (df : ∀ r ∈ rows, DefF K r.name r.st ∧ BindF r) (cf : ∀ p ∈ csts, CstF K p.1 p.2) (bf : ∀ x ∈ bltNames, PySem.W.nsIn K mainGlobals x = some none) (pl : Plain G fu n r.i) :
    ∃ fd : FuncData, (∀ (s : Shared) (u : Value), BindsTo s fd ⟨[u], []⟩ [(x, u)]) ∧ ∀ base : Heap, K.In base → base.Ns mainGlobals mg → FnOk l.prog w K mg base (L2.CX l.prog w) n fa fd [x] (lawSp K) := by
  obtain ⟨f, oc, od, kV, doc, pm, an, cd, ct, sl, h1, h2, h3, h4⟩ := (df r hr).1
  have e := hfa.symm.trans (PySem.W.mg_of X Gm h1)
  cases e
  have F := fun_mk h2 h3 h4
  have bd := (df r hr).2
  refine ⟨PySem.W.fnOf r.name r.name (defArgs r.st) (defBody r.st) (defScope r.st) .none kV doc pm an cd ct, fun s u => .of_eq ?_, fun base _ _ => ?_⟩
  · have := bd kV doc pm an cd ct [u] (by rw [hx]; rfl)
    rw [hx] at this
    exact this
  · have Wh : Whole l.prog w G ⟨K, mg, cls, l.prog, w, []⟩ K mg rows csts := ⟨rfl, rfl, rfl, rfl, fun y hy => PySem.W.mg_none_of X Gm (bf y hy), lookup_all fun p hp => cst_of X Gm (cf p hp), ok, fun r2 hr2 => known_of X Gm (df r2 hr2).1 (df r2 hr2).2⟩
    have := law_ok (prog := l.prog) (w := w) (base := base) Wh hr ⟨F, hfa, F.binds bd⟩ pl
    rw [hx] at this
    exact this
end
end SV
/-! SvTab: the codes of the defs (printed by gen.py). -/
namespace SV
open PySem
/-- _law_cell_at -/
def c0 : Fd := ⟨2, 2, false, (.cons (.ifs (.cmp .lt (.var 1) (.bi .len (.cons (.var 0) .nil))) (.cons (.ret (.idx (.var 0) (.var 1))) .nil) (.nil)) (.cons (.ifs (.cmp .eq (.var 0) (.lst .nil)) (.cons (.ret (.cst (.int 0))) .nil) (.nil)) (.cons (.ret (.op .add (.op .mul (.idx (.var 0) (.op .mod (.var 1) (.bi .len (.cons (.var 0) .nil)))) (.cst (.int 31))) (.var 1))) .nil)))⟩
/-- _law_mixed -/
def c1 : Fd := ⟨3, 4, true, (.cons (.set 3 (.op .mod (.op .add (.op .add (.op .mul (.call 0 (.cons (.var 0) (.cons (.var 1) .nil))) (.cst (.int 1103515245))) (.op .mul (.cst (.int 7919)) (.var 1))) (.cst (.int 12345))) (.cst (.int 2147483647)))) (.cons (.ret (.op .mod (.op .mod (.op .mod (.op .pow (.var 3) (.cst (.int 5))) (.cst (.int 2147483647))) (.cst (.int 999983))) (.var 2))) .nil))⟩
/-- _law_draw -/
def c2 : Fd := ⟨3, 3, true, (.cons (.expr (.mth .append (.var 1) (.cons (.cst (.int 0)) .nil))) (.cons (.ret (.call 1 (.cons (.var 0) (.cons (.bi .len (.cons (.var 1) .nil)) (.cons (.var 2) .nil))))) .nil))⟩
/-- _law_pick -/
def c3 : Fd := ⟨3, 3, false, (.cons (.ret (.idx (.var 2) (.call 2 (.cons (.var 0) (.cons (.var 1) (.cons (.bi .len (.cons (.var 2) .nil)) .nil)))))) .nil)⟩
/-- _law_text -/
def c4 : Fd := ⟨4, 7, false, (.cons (.set 4 (.call 3 (.cons (.var 0) (.cons (.var 1) (.cons (.lst (.cons (.cst (.int 1)) (.cons (.cst (.int 2)) (.cons (.cst (.int 2)) (.cons (.cst (.int 3)) (.cons (.cst (.int 3)) (.cons (.cst (.int 3)) .nil))))))) .nil))))) (.cons (.set 5 (.cst (.str ("" : Str)))) (.cons (.for (.one 6) (.rng1 (.op .add (.var 2) (.call 2 (.cons (.var 0) (.cons (.var 1) (.cons (.op .add (.op .sub (.var 3) (.var 2)) (.cst (.int 1))) .nil)))))) (.cons (.set 5 (.op .add (.var 5) (.idx (.cst (.str ("abc" : Str))) (.call 2 (.cons (.var 0) (.cons (.var 1) (.cons (.var 4) .nil))))))) .nil)) (.cons (.ret (.var 5)) .nil))))⟩
/-- _law_like -/
def c5 : Fd := ⟨4, 6, false, (.cons (.set 4 (.op .add (.cst (.int 1)) (.call 3 (.cons (.var 0) (.cons (.var 1) (.cons (.lst (.cons (.cst (.int 1)) (.cons (.cst (.int 1)) (.cons (.cst (.int 2)) (.cons (.cst (.int 2)) (.cons (.cst (.int 3)) .nil)))))) .nil)))))) (.cons (.set 5 (.call 4 (.cons (.var 0) (.cons (.var 1) (.cons (.var 2) (.cons (.cst (.int 4)) .nil)))))) (.cons (.whl (.cmp .lt (.bi .len (.cons (.var 5) .nil)) (.op .sub (.var 3) (.cst (.int 2)))) (.cons (.set 5 (.op .add (.var 5) (.call 3 (.cons (.var 0) (.cons (.var 1) (.cons (.lst (.cons (.sl (.var 5) .none (.some (.cst (.int 2)))) (.cons (.sl (.var 5) .none (.some (.cst (.int 3)))) (.cons (.sl (.var 5) (.some (.cst (.int 1))) (.some (.cst (.int 3)))) (.cons (.cst (.str ("a" : Str))) (.cons (.cst (.str ("b" : Str))) (.cons (.sl (.var 5) (.some (.neg (.cst (.int 2)))) .none) .nil))))))) .nil)))))) .nil)) (.cons (.ret (.tup (.cons (.sl (.var 5) .none (.some (.bi .max (.cons (.var 4) (.cons (.op .sub (.var 3) (.call 2 (.cons (.var 0) (.cons (.var 1) (.cons (.cst (.int 3)) .nil))))) .nil))))) (.cons (.var 4) .nil)))) .nil))))⟩
/-- is_letters -/
def c6 : Fd := ⟨3, 3, false, (.cons (.ret (.and (.bi .isStr (.cons (.var 0) .nil)) (.and (.chn .le .le (.var 1) (.bi .len (.cons (.var 0) .nil)) (.var 2)) (.cmp .eq (.mth .strip (.var 0) (.cons (.glb ("LETTERS" : Str) (.str ("abc" : Str))) .nil)) (.cst (.str ("" : Str))))))) .nil)⟩
/-- need_text -/
def c7 : Fd := ⟨1, 1, false, (.cons (.ifs (.not (.call 6 (.cons (.var 0) (.cons (.cst (.int 1)) (.cons (.glb ("LONG" : Str) (.int 12)) .nil))))) (.cons .never .nil) (.nil)) .nil)⟩
/-- is_whole -/
def c8 : Fd := ⟨3, 3, false, (.cons (.ret (.and (.bi .isInt (.cons (.var 0) .nil)) (.and (.not (.bi .isBool (.cons (.var 0) .nil))) (.chn .le .le (.var 1) (.var 0) (.var 2))))) .nil)⟩
/-- need_width -/
def c9 : Fd := ⟨1, 1, false, (.cons (.ifs (.not (.call 8 (.cons (.var 0) (.cons (.cst (.int 1)) (.cons (.glb ("WIDTH" : Str) (.int 4)) .nil))))) (.cons .never .nil) (.nil)) .nil)⟩
/-- need_seen -/
def c10 : Fd := ⟨2, 2, false, (.cons (.expr (.call 7 (.cons (.var 0) .nil))) (.cons (.expr (.call 9 (.cons (.var 1) .nil))) (.cons (.ifs (.not (.chn .le .le (.cst (.int 1)) (.op .add (.op .sub (.bi .len (.cons (.var 0) .nil)) (.var 1)) (.cst (.int 1))) (.glb ("WINDOWS" : Str) (.int 9)))) (.cons .never .nil) (.nil)) .nil)))⟩
/-- windows_of -/
def c11 : Fd := ⟨2, 3, true, (.cons (.ret (.lc (.sl (.var 0) (.some (.var 2)) (.some (.op .add (.var 2) (.var 1)))) (.one 2) (.rng1 (.op .add (.op .sub (.bi .len (.cons (.var 0) .nil)) (.var 1)) (.cst (.int 1)))) .none)) .nil)⟩
/-- view -/
def c12 : Fd := ⟨2, 2, false, (.cons (.expr (.call 10 (.cons (.var 0) (.cons (.var 1) .nil)))) (.cons (.ret (.tup (.cons (.var 1) (.cons (.bi .tuple (.cons (.bi .sorted (.cons (.call 11 (.cons (.var 0) (.cons (.var 1) .nil))) .nil)) .nil)) .nil)))) .nil))⟩
/-- exchanges_at -/
def c13 : Fd := ⟨4, 7, true, (.cons (.set 4 (.cell (.lst .nil))) (.cons (.for (.one 5) (.rng2 (.op .add (.var 2) (.cst (.int 1))) (.op .add (.var 3) (.cst (.int 1)))) (.cons (.for (.one 6) (.rng2 (.op .add (.var 3) (.cst (.int 1))) (.bi .len (.cons (.var 1) .nil))) (.cons (.ifs (.cmp .eq (.idx (.var 1) (.var 5)) (.idx (.var 1) (.var 6))) (.cons (.expr (.mth .append (.var 4) (.cons (.op .add (.op .add (.op .add (.op .add (.sl (.var 0) .none (.some (.var 2))) (.sl (.var 0) (.some (.var 3)) (.some (.var 6)))) (.sl (.var 0) (.some (.var 5)) (.some (.var 3)))) (.sl (.var 0) (.some (.var 2)) (.some (.var 5)))) (.sl (.var 0) (.some (.var 6)) .none)) .nil))) .nil) (.nil)) .nil)) .nil)) (.cons (.ret (.snap 4)) .nil)))⟩
/-- exchanges_of -/
def c14 : Fd := ⟨2, 8, true, (.cons (.set 2 (.op .add (.op .sub (.bi .len (.cons (.var 0) .nil)) (.var 1)) (.cst (.int 2)))) (.cons (.set 3 (.lc (.sl (.var 0) (.some (.var 4)) (.some (.op .sub (.op .add (.var 4) (.var 1)) (.cst (.int 1))))) (.one 4) (.rng1 (.var 2)) .none)) (.cons (.set 5 (.cell (.lst .nil))) (.cons (.for (.one 6) (.rng1 (.var 2)) (.cons (.for (.one 7) (.rng2 (.op .add (.var 6) (.cst (.int 1))) (.var 2)) (.cons (.ifs (.cmp .eq (.idx (.var 3) (.var 6)) (.idx (.var 3) (.var 7))) (.cons (.expr (.mth .extend (.var 5) (.cons (.call 13 (.cons (.var 0) (.cons (.var 3) (.cons (.var 6) (.cons (.var 7) .nil))))) .nil))) .nil) (.nil)) .nil)) .nil)) (.cons (.ret (.snap 5)) .nil)))))⟩
/-- turns_of -/
def c15 : Fd := ⟨2, 4, true, (.cons (.set 2 (.op .add (.op .sub (.bi .len (.cons (.var 0) .nil)) (.var 1)) (.cst (.int 1)))) (.cons (.ifs (.cmp .ne (.sl (.var 0) .none (.some (.op .sub (.var 1) (.cst (.int 1))))) (.sl (.var 0) (.some (.var 2)) .none)) (.cons (.ret (.lst .nil)) .nil) (.nil)) (.cons (.ret (.lc (.op .add (.op .add (.sl (.var 0) (.some (.var 3)) (.some (.var 2))) (.sl (.var 0) .none (.some (.var 3)))) (.sl (.var 0) (.some (.var 3)) (.some (.op .sub (.op .add (.var 3) (.var 1)) (.cst (.int 1)))))) (.one 3) (.rng2 (.cst (.int 1)) (.var 2)) .none)) .nil)))⟩
/-- next_to -/
def c16 : Fd := ⟨2, 4, true, (.cons (.set 2 (.sset (.op .add (.call 14 (.cons (.var 0) (.cons (.var 1) .nil))) (.call 15 (.cons (.var 0) (.cons (.var 1) .nil)))))) (.cons (.ret (.lc (.var 3) (.one 3) (.e (.var 2)) (.some (.cmp .ne (.var 3) (.var 0))))) .nil))⟩
/-- exchanged -/
def c17 : Fd := ⟨2, 2, true, (.cons (.expr (.call 12 (.cons (.var 0) (.cons (.var 1) .nil)))) (.cons (.ret (.call 16 (.cons (.var 0) (.cons (.var 1) .nil)))) .nil))⟩
/-- alike -/
def c18 : Fd := ⟨3, 3, false, (.cons (.ret (.cmp .eq (.call 12 (.cons (.var 0) (.cons (.var 2) .nil))) (.call 12 (.cons (.var 1) (.cons (.var 2) .nil))))) .nil)⟩
/-- law_k17 -/
def c19 : Fd := ⟨1, 7, false, (.cons (.set 1 (.cell (.lst .nil))) (.cons (.setT 2 3 (.call 5 (.cons (.var 0) (.cons (.var 1) (.cons (.cst (.int 2)) (.cons (.cst (.int 10)) .nil)))))) (.cons (.set 4 (.call 17 (.cons (.var 2) (.cons (.var 3) .nil)))) (.cons (.ifs (.cmp .ne (.lc (.var 5) (.one 5) (.e (.var 4)) (.some (.or (.not (.call 18 (.cons (.var 2) (.cons (.var 5) (.cons (.var 3) .nil))))) (.cmp .eq (.var 5) (.var 2))))) (.lst .nil)) (.cons (.ret (.cst (.bl false))) .nil) (.nil)) (.cons (.ifs (.cmp .ne (.lc (.var 5) (.one 5) (.e (.sl (.var 4) .none (.some (.cst (.int 6))))) (.some (.cmp .notin (.var 2) (.call 17 (.cons (.var 5) (.cons (.var 3) .nil)))))) (.lst .nil)) (.cons (.ret (.cst (.bl false))) .nil) (.nil)) (.cons (.set 6 (.cell (.call 17 (.cons (.var 2) (.cons (.var 3) .nil))))) (.cons (.expr (.mth .append (.var 6) (.cons (.cst (.str ("a" : Str))) .nil))) (.cons (.ret (.cmp .eq (.call 17 (.cons (.var 2) (.cons (.var 3) .nil))) (.var 4))) .nil))))))))⟩
/-- _law_row -/
def c20 : Fd := ⟨2, 3, true, (.cons (.ret (.lc (.sl (.var 0) (.some (.var 2)) (.some (.op .sub (.op .add (.var 2) (.var 1)) (.cst (.int 1))))) (.one 2) (.rng1 (.op .add (.op .sub (.bi .len (.cons (.var 0) .nil)) (.var 1)) (.cst (.int 2)))) .none)) .nil)⟩
/-- _law_stretches -/
def c21 : Fd := ⟨4, 8, true, (.cons (.set 4 (.cell (.lst .nil))) (.cons (.for (.one 5) (.rng2 (.var 2) (.var 3)) (.cons (.for (.one 6) (.rng1 (.var 2)) (.cons (.ifs (.cmp .eq (.idx (.var 1) (.var 6)) (.idx (.var 1) (.var 5))) (.cons (.set 7 (.op .add (.sl (.var 0) .none (.some (.var 6))) (.sl (.var 0) (.some (.var 5)) (.some (.var 3))))) (.cons (.set 7 (.op .add (.var 7) (.sl (.var 0) (.some (.var 2)) (.some (.var 5))))) (.cons (.expr (.mth .append (.var 4) (.cons (.op .add (.op .add (.var 7) (.sl (.var 0) (.some (.var 6)) (.some (.var 2)))) (.sl (.var 0) (.some (.var 3)) .none)) .nil))) .nil))) (.nil)) .nil)) .nil)) (.cons (.ret (.snap 4)) .nil)))⟩
/-- _law_moved -/
def c22 : Fd := ⟨2, 9, true, (.cons (.set 2 (.call 20 (.cons (.var 0) (.cons (.var 1) .nil)))) (.cons (.set 3 (.cell (.lst .nil))) (.cons (.for (.one 4) (.rng1 (.bi .len (.cons (.var 2) .nil))) (.cons (.for (.one 5) (.rng1 (.var 4)) (.cons (.ifs (.cmp .eq (.idx (.var 2) (.var 5)) (.idx (.var 2) (.var 4))) (.cons (.expr (.mth .extend (.var 3) (.cons (.call 21 (.cons (.var 0) (.cons (.var 2) (.cons (.var 5) (.cons (.var 4) .nil))))) .nil))) .nil) (.nil)) .nil)) .nil)) (.cons (.ifs (.cmp .eq (.idx (.var 2) (.cst (.int 0))) (.idx (.var 2) (.neg (.cst (.int 1))))) (.cons (.set 6 (.op .mul (.sl (.var 0) .none (.some (.op .sub (.bi .len (.cons (.var 2) .nil)) (.cst (.int 1))))) (.cst (.int 3)))) (.cons (.expr (.mth .extend (.var 3) (.cons (.lc (.sl (.var 6) (.some (.var 7)) (.some (.op .add (.var 7) (.bi .len (.cons (.var 0) .nil))))) (.one 7) (.rng2 (.cst (.int 1)) (.op .sub (.bi .len (.cons (.var 2) .nil)) (.cst (.int 1)))) .none) .nil))) .nil)) (.nil)) (.cons (.ret (.sset (.lc (.var 8) (.one 8) (.e (.var 3)) (.some (.cmp .ne (.var 8) (.var 0)))))) .nil)))))⟩
/-- law_k16 -/
def c23 : Fd := ⟨1, 6, false, (.cons (.set 1 (.cell (.lst .nil))) (.cons (.set 2 (.call 2 (.cons (.var 0) (.cons (.var 1) (.cons (.cst (.int 5)) .nil))))) (.cons (.setT 3 4 (.call 5 (.cons (.var 0) (.cons (.var 1) (.cons (.cst (.int 2)) (.cons (.cst (.int 9)) .nil)))))) (.cons (.ifs (.cmp .eq (.var 2) (.cst (.int 0))) (.cons (.par 3 4 (.sl (.var 3) .none (.some (.cst (.int 5)))) (.cst (.int 1))) .nil) (.nil)) (.cons (.ifs (.cmp .ne (.call 17 (.cons (.var 3) (.cons (.var 4) .nil))) (.call 22 (.cons (.var 3) (.cons (.var 4) .nil)))) (.cons (.ret (.cst (.bl false))) .nil) (.nil)) (.cons (.set 5 (.ite (.cmp .ge (.bi .len (.cons (.var 3) .nil)) (.op .mul (.cst (.int 2)) (.var 4))) (.op .add (.sl (.var 3) .none (.some (.op .add (.op .sub (.bi .len (.cons (.var 3) .nil)) (.var 4)) (.cst (.int 1))))) (.sl (.var 3) .none (.some (.op .sub (.var 4) (.cst (.int 1)))))) (.var 3))) (.cons (.ret (.cmp .eq (.call 17 (.cons (.var 5) (.cons (.var 4) .nil))) (.call 22 (.cons (.var 5) (.cons (.var 4) .nil))))) .nil)))))))⟩
/-- _law_mixed -/
def c24 : Fd := ⟨3, 4, true, (.cons (.set 3 (.op .mod (.op .mul (.op .add (.op .add (.call 0 (.cons (.var 0) (.cons (.var 1) .nil))) (.op .mul (.cst (.int 7919)) (.var 1))) (.cst (.int 1))) (.cst (.int 48271))) (.cst (.int 2147483647)))) (.cons (.ret (.op .mod (.op .mod (.op .add (.op .add (.op .mul (.var 3) (.var 3)) (.op .mul (.cst (.int 7)) (.var 3))) (.var 1)) (.cst (.int 2147483629))) (.var 2))) .nil))⟩
/-- _law_draw -/
def c25 : Fd := ⟨3, 3, true, (.cons (.expr (.mth .append (.var 1) (.cons (.cst (.int 0)) .nil))) (.cons (.ret (.call 24 (.cons (.var 0) (.cons (.bi .len (.cons (.var 1) .nil)) (.cons (.var 2) .nil))))) .nil))⟩
/-- _law_pick -/
def c26 : Fd := ⟨3, 3, false, (.cons (.ret (.idx (.var 2) (.call 25 (.cons (.var 0) (.cons (.var 1) (.cons (.bi .len (.cons (.var 2) .nil)) .nil)))))) .nil)⟩
/-- _law_text -/
def c27 : Fd := ⟨4, 7, false, (.cons (.set 4 (.call 26 (.cons (.var 0) (.cons (.var 1) (.cons (.lst (.cons (.cst (.int 1)) (.cons (.cst (.int 2)) (.cons (.cst (.int 2)) (.cons (.cst (.int 3)) (.cons (.cst (.int 3)) (.cons (.cst (.int 3)) .nil))))))) .nil))))) (.cons (.set 5 (.cst (.str ("" : Str)))) (.cons (.for (.one 6) (.rng1 (.op .add (.var 2) (.call 25 (.cons (.var 0) (.cons (.var 1) (.cons (.op .add (.op .sub (.var 3) (.var 2)) (.cst (.int 1))) .nil)))))) (.cons (.set 5 (.op .add (.var 5) (.idx (.cst (.str ("abc" : Str))) (.call 25 (.cons (.var 0) (.cons (.var 1) (.cons (.var 4) .nil))))))) .nil)) (.cons (.ret (.var 5)) .nil))))⟩
/-- _law_seen -/
def c28 : Fd := ⟨2, 4, false, (.cons (.set 2 (.cell (.lst .nil))) (.cons (.for (.one 3) (.rng1 (.bi .len (.cons (.var 0) .nil))) (.cons (.ifs (.cmp .le (.op .add (.var 3) (.var 1)) (.bi .len (.cons (.var 0) .nil))) (.cons (.expr (.mth .append (.var 2) (.cons (.sl (.var 0) (.some (.var 3)) (.some (.op .add (.var 3) (.var 1)))) .nil))) .nil) (.nil)) .nil)) (.cons (.ret (.bi .tuple (.cons (.bi .sorted (.cons (.var 2) .nil)) .nil))) .nil)))⟩
/-- _law_view -/
def c29 : Fd := ⟨3, 10, false, (.cons (.set 3 (.op .add (.cst (.int 1)) (.call 25 (.cons (.var 0) (.cons (.var 1) (.cons (.cst (.int 4)) .nil)))))) (.cons (.set 4 (.call 27 (.cons (.var 0) (.cons (.var 1) (.cons (.var 3) (.cons (.op .sub (.op .add (.var 3) (.var 2)) (.cst (.int 1))) .nil)))))) (.cons (.set 5 (.bi .list (.cons (.call 28 (.cons (.var 4) (.cons (.var 3) .nil))) .nil))) (.cons (.for (.one 6) (.rng1 (.call 26 (.cons (.var 0) (.cons (.var 1) (.cons (.lst (.cons (.cst (.int 0)) (.cons (.cst (.int 0)) (.cons (.cst (.int 0)) (.cons (.cst (.int 1)) (.cons (.cst (.int 2)) .nil)))))) .nil))))) (.cons (.set 7 (.call 25 (.cons (.var 0) (.cons (.var 1) (.cons (.op .add (.bi .len (.cons (.var 5) .nil)) (.cst (.int 1))) .nil))))) (.cons (.set 8 (.cst (.str ("" : Str)))) (.cons (.for (.one 9) (.rng1 (.var 3)) (.cons (.set 8 (.op .add (.var 8) (.idx (.cst (.str ("abc" : Str))) (.call 25 (.cons (.var 0) (.cons (.var 1) (.cons (.cst (.int 3)) .nil))))))) .nil)) (.cons (.set 5 (.op .add (.op .add (.sl (.var 5) .none (.some (.var 7))) (.call 26 (.cons (.var 0) (.cons (.var 1) (.cons (.lst (.cons (.lst (.cons (.var 8) .nil)) (.cons (.lst .nil) (.cons (.op .add (.lst (.cons (.var 8) .nil)) (.sl (.var 5) (.some (.var 7)) (.some (.op .add (.var 7) (.cst (.int 1)))))) .nil)))) .nil))))) (.sl (.var 5) (.some (.op .add (.var 7) (.cst (.int 1)))) .none))) .nil))))) (.cons (.set 5 (.sl (.var 5) .none (.some (.var 2)))) (.cons (.ifs (.cmp .eq (.var 5) (.lst .nil)) (.cons (.set 5 (.lst (.cons (.op .mul (.cst (.str ("c" : Str))) (.var 3)) .nil))) .nil) (.nil)) (.cons (.ret (.tup (.cons (.var 3) (.cons (.bi .tuple (.cons (.bi .sorted (.cons (.var 5) .nil)) .nil)) .nil)))) .nil)))))))⟩
/-- ring_windows -/
def c30 : Fd := ⟨2, 4, true, (.cons (.set 2 (.op .mul (.var 0) (.op .add (.var 1) (.cst (.int 1))))) (.cons (.ret (.lc (.sl (.var 2) (.some (.var 3)) (.some (.op .add (.var 3) (.var 1)))) (.one 3) (.rng1 (.bi .len (.cons (.var 0) .nil))) .none)) .nil))⟩
/-- ring_view -/
def c31 : Fd := ⟨2, 2, false, (.cons (.expr (.call 7 (.cons (.var 0) .nil))) (.cons (.expr (.call 9 (.cons (.var 1) .nil))) (.cons (.ifs (.cmp .gt (.bi .len (.cons (.var 0) .nil)) (.glb ("WINDOWS" : Str) (.int 9))) (.cons .never .nil) (.nil)) (.cons (.ret (.tup (.cons (.var 1) (.cons (.bi .tuple (.cons (.bi .sorted (.cons (.call 30 (.cons (.var 0) (.cons (.var 1) .nil))) .nil)) .nil)) .nil)))) .nil))))⟩
/-- is_view -/
def c32 : Fd := ⟨1, 2, false, (.cons (.ifs (.or (.not (.bi .isTuple (.cons (.var 0) .nil))) (.or (.cmp .ne (.bi .len (.cons (.var 0) .nil)) (.cst (.int 2))) (.not (.call 8 (.cons (.idx (.var 0) (.cst (.int 0))) (.cons (.cst (.int 1)) (.cons (.glb ("WIDTH" : Str) (.int 4)) .nil))))))) (.cons (.ret (.cst (.bl false))) .nil) (.nil)) (.cons (.ifs (.or (.not (.bi .isTuple (.cons (.idx (.var 0) (.cst (.int 1))) .nil))) (.not (.chn .le .le (.cst (.int 1)) (.bi .len (.cons (.idx (.var 0) (.cst (.int 1))) .nil)) (.glb ("WINDOWS" : Str) (.int 9))))) (.cons (.ret (.cst (.bl false))) .nil) (.nil)) (.cons (.ifs (.not (.bi .all (.cons (.lc (.call 6 (.cons (.var 1) (.cons (.idx (.var 0) (.cst (.int 0))) (.cons (.idx (.var 0) (.cst (.int 0))) .nil)))) (.one 1) (.e (.idx (.var 0) (.cst (.int 1)))) .none) .nil))) (.cons (.ret (.cst (.bl false))) .nil) (.nil)) (.cons (.ret (.cmp .eq (.bi .list (.cons (.idx (.var 0) (.cst (.int 1))) .nil)) (.bi .sorted (.cons (.idx (.var 0) (.cst (.int 1))) .nil)))) .nil))))⟩
/-- need_view -/
def c33 : Fd := ⟨1, 1, false, (.cons (.ifs (.not (.call 32 (.cons (.var 0) .nil))) (.cons .never .nil) (.nil)) .nil)⟩
/-- without -/
def c34 : Fd := ⟨2, 3, true, (.cons (.set 2 (.mth .tindex (.var 0) (.cons (.var 1) .nil))) (.cons (.ret (.op .add (.sl (.var 0) .none (.some (.var 2))) (.sl (.var 0) (.some (.op .add (.var 2) (.cst (.int 1)))) .none))) .nil))⟩
/-- grown -/
def c35 : Fd := ⟨3, 5, true, (.cons (.ifs (.cmp .eq (.var 0) (.tup .nil)) (.cons (.ret (.lst (.cons (.var 1) .nil))) .nil) (.nil)) (.cons (.set 3 (.cell (.lst .nil))) (.cons (.for (.one 4) (.e (.sset (.var 0))) (.cons (.ifs (.cmp .eq (.sl (.var 4) .none (.some (.neg (.cst (.int 1))))) (.sl (.var 1) (.some (.op .add (.op .sub (.bi .len (.cons (.var 1) .nil)) (.var 2)) (.cst (.int 1)))) .none)) (.cons (.expr (.mth .extend (.var 3) (.cons (.call 35 (.cons (.call 34 (.cons (.var 0) (.cons (.var 4) .nil))) (.cons (.op .add (.var 1) (.idx (.var 4) (.neg (.cst (.int 1))))) (.cons (.var 2) .nil)))) .nil))) .nil) (.nil)) .nil)) (.cons (.ret (.snap 3)) .nil))))⟩
/-- rings -/
def c36 : Fd := ⟨1, 7, true, (.cons (.expr (.call 33 (.cons (.var 0) .nil))) (.cons (.setT 1 2 (.var 0)) (.cons (.set 3 (.dict .nil)) (.cons (.for (.one 4) (.e (.call 35 (.cons (.call 34 (.cons (.var 2) (.cons (.idx (.var 2) (.cst (.int 0))) .nil))) (.cons (.idx (.var 2) (.cst (.int 0))) (.cons (.var 1) .nil))))) (.cons (.ifs (.cmp .eq (.sl (.var 4) (.some (.op .add (.op .sub (.bi .len (.cons (.var 4) .nil)) (.var 1)) (.cst (.int 1)))) .none) (.sl (.var 4) .none (.some (.op .sub (.var 1) (.cst (.int 1)))))) (.cons (.set 5 (.sl (.var 4) .none (.some (.bi .len (.cons (.var 2) .nil))))) (.cons (.put (.var 3) (.bi .min (.cons (.lc (.op .add (.sl (.var 5) (.some (.var 6)) .none) (.sl (.var 5) .none (.some (.var 6)))) (.one 6) (.rng1 (.bi .len (.cons (.var 5) .nil))) .none) .nil)) (.cst (.bl true))) .nil)) (.nil)) .nil)) (.cons (.ret (.bi .sorted (.cons (.bi .list (.cons (.var 3) .nil)) .nil))) .nil)))))⟩
/-- turned -/
def c37 : Fd := ⟨1, 2, false, (.cons (.expr (.call 7 (.cons (.var 0) .nil))) (.cons (.ret (.bi .min (.cons (.lc (.op .add (.sl (.var 0) (.some (.var 1)) .none) (.sl (.var 0) .none (.some (.var 1)))) (.one 1) (.rng1 (.bi .len (.cons (.var 0) .nil))) .none) .nil))) .nil))⟩
/-- _law_ring_seen -/
def c38 : Fd := ⟨2, 5, false, (.cons (.set 2 (.cell (.lst .nil))) (.cons (.for (.one 3) (.rng1 (.bi .len (.cons (.var 0) .nil))) (.cons (.expr (.mth .append (.var 2) (.cons (.mth .join (.cst (.str ("" : Str))) (.cons (.lc (.idx (.var 0) (.op .mod (.op .add (.var 3) (.var 4)) (.bi .len (.cons (.var 0) .nil)))) (.one 4) (.rng1 (.var 1)) .none) .nil)) .nil))) .nil)) (.cons (.ret (.bi .tuple (.cons (.bi .sorted (.cons (.var 2) .nil)) .nil))) .nil)))⟩
/-- law_k03 -/
def c39 : Fd := ⟨1, 13, false, (.cons (.set 1 (.cell (.lst .nil))) (.cons (.set 2 (.call 29 (.cons (.var 0) (.cons (.var 1) (.cons (.cst (.int 7)) .nil))))) (.cons (.ifs (.cmp .gt (.call 25 (.cons (.var 0) (.cons (.var 1) (.cons (.cst (.int 3)) .nil)))) (.cst (.int 0))) (.cons (.set 3 (.op .add (.cst (.int 1)) (.call 25 (.cons (.var 0) (.cons (.var 1) (.cons (.cst (.int 4)) .nil)))))) (.cons (.set 4 (.call 27 (.cons (.var 0) (.cons (.var 1) (.cons (.cst (.int 1)) (.cons (.cst (.int 7)) .nil)))))) (.cons (.set 2 (.call 31 (.cons (.var 4) (.cons (.var 3) .nil)))) (.cons (.ifs (.or (.cmp .ne (.var 2) (.tup (.cons (.var 3) (.cons (.call 38 (.cons (.var 4) (.cons (.var 3) .nil))) .nil)))) (.cmp .notin (.call 37 (.cons (.var 4) .nil)) (.call 36 (.cons (.var 2) .nil)))) (.cons (.ret (.cst (.bl false))) .nil) (.nil)) .nil)))) (.nil)) (.cons (.setT 3 5 (.var 2)) (.cons (.set 6 (.lst (.cons (.cst (.str ("" : Str))) .nil))) (.cons (.for (.one 7) (.rng1 (.bi .len (.cons (.var 5) .nil))) (.cons (.set 8 (.cell (.lst .nil))) (.cons (.for (.one 9) (.e (.var 6)) (.cons (.expr (.mth .extend (.var 8) (.cons (.lc (.op .add (.var 9) (.var 10)) (.one 10) (.e (.cst (.str ("abc" : Str)))) (.some (.cmp .isin (.var 10) (.mth .join (.cst (.str ("" : Str))) (.cons (.var 5) .nil))))) .nil))) .nil)) (.cons (.set 6 (.var 8)) .nil)))) (.cons (.set 11 (.cell (.lst .nil))) (.cons (.for (.one 9) (.e (.var 6)) (.cons (.ifs (.and (.cmp .eq (.call 38 (.cons (.var 9) (.cons (.var 3) .nil))) (.var 5)) (.cmp .eq (.var 9) (.bi .min (.cons (.lc (.op .add (.sl (.var 9) (.some (.var 12)) .none) (.sl (.var 9) .none (.some (.var 12)))) (.one 12) (.rng1 (.bi .len (.cons (.var 9) .nil))) .none) .nil)))) (.cons (.expr (.mth .append (.var 11) (.cons (.var 9) .nil))) .nil) (.nil)) .nil)) (.cons (.ret (.cmp .eq (.call 36 (.cons (.var 2) .nil)) (.var 11))) .nil)))))))))⟩
/-- _law_within -/
def c40 : Fd := ⟨3, 5, false, (.cons (.set 3 (.call 28 (.cons (.var 0) (.cons (.var 1) .nil)))) (.cons (.ret (.bi .all (.cons (.lc (.cmp .le (.mth .tcount (.var 3) (.cons (.var 4) .nil)) (.mth .tcount (.var 2) (.cons (.var 4) .nil))) (.one 4) (.e (.var 3)) .none) .nil))) .nil))⟩
/-- _law_all -/
def c41 : Fd := ⟨1, 9, true, (.cons (.setT 1 2 (.var 0)) (.cons (.set 3 (.op .sub (.op .add (.bi .len (.cons (.var 2) .nil)) (.var 1)) (.cst (.int 1)))) (.cons (.set 4 (.lst (.cons (.cst (.str ("" : Str))) .nil))) (.cons (.for (.one 5) (.rng1 (.var 3)) (.cons (.set 6 (.cell (.lst .nil))) (.cons (.for (.one 7) (.e (.var 4)) (.cons (.for (.one 8) (.e (.cst (.str ("abc" : Str)))) (.cons (.ifs (.call 40 (.cons (.op .add (.var 7) (.var 8)) (.cons (.var 1) (.cons (.var 2) .nil)))) (.cons (.expr (.mth .append (.var 6) (.cons (.op .add (.var 7) (.var 8)) .nil))) .nil) (.nil)) .nil)) .nil)) (.cons (.set 4 (.var 6)) .nil)))) (.cons (.ret (.lc (.var 7) (.one 7) (.e (.var 4)) (.some (.cmp .eq (.call 28 (.cons (.var 7) (.cons (.var 1) .nil))) (.var 2))))) .nil)))))⟩
/-- texts_of -/
def c42 : Fd := ⟨1, 5, true, (.cons (.setT 1 2 (.var 0)) (.cons (.set 3 (.cell (.lst .nil))) (.cons (.for (.one 4) (.e (.sset (.var 2))) (.cons (.expr (.mth .extend (.var 3) (.cons (.call 35 (.cons (.call 34 (.cons (.var 2) (.cons (.var 4) .nil))) (.cons (.var 4) (.cons (.var 1) .nil)))) .nil))) .nil)) (.cons (.ret (.bi .sorted (.cons (.var 3) .nil))) .nil))))⟩
/-- texts -/
def c43 : Fd := ⟨1, 1, true, (.cons (.expr (.call 33 (.cons (.var 0) .nil))) (.cons (.ret (.call 42 (.cons (.var 0) .nil))) .nil))⟩
/-- count -/
def c44 : Fd := ⟨4, 7, false, (.cons (.ifs (.cmp .eq (.var 0) (.tup .nil)) (.cons (.ret (.cst (.int 1))) .nil) (.nil)) (.cons (.set 4 (.tup (.cons (.var 0) (.cons (.var 1) .nil)))) (.cons (.ifs (.cmp .notin (.var 4) (.var 3)) (.cons (.set 5 (.cst (.int 0))) (.cons (.for (.one 6) (.e (.sset (.var 0))) (.cons (.ifs (.cmp .eq (.sl (.var 6) .none (.some (.neg (.cst (.int 1))))) (.var 1)) (.cons (.set 5 (.op .add (.var 5) (.call 44 (.cons (.call 34 (.cons (.var 0) (.cons (.var 6) .nil))) (.cons (.sl (.var 6) (.some (.cst (.int 1))) .none) (.cons (.var 2) (.cons (.var 3) .nil))))))) .nil) (.nil)) .nil)) (.cons (.put (.var 3) (.var 4) (.var 5)) .nil))) (.nil)) (.cons (.ret (.idx (.var 3) (.var 4))) .nil))))⟩
/-- how_many_of -/
def c45 : Fd := ⟨1, 6, false, (.cons (.setT 1 2 (.var 0)) (.cons (.set 3 (.dict .nil)) (.cons (.set 4 (.cst (.int 0))) (.cons (.for (.one 5) (.e (.sset (.var 2))) (.cons (.set 4 (.op .add (.var 4) (.call 44 (.cons (.call 34 (.cons (.var 2) (.cons (.var 5) .nil))) (.cons (.sl (.var 5) (.some (.cst (.int 1))) .none) (.cons (.var 1) (.cons (.var 3) .nil))))))) .nil)) (.cons (.ret (.var 4)) .nil)))))⟩
/-- first -/
def c46 : Fd := ⟨1, 10, false, (.cons (.expr (.call 33 (.cons (.var 0) .nil))) (.cons (.ifs (.cmp .eq (.call 45 (.cons (.var 0) .nil)) (.cst (.int 0))) (.cons .never .nil) (.nil)) (.cons (.setT 1 2 (.var 0)) (.cons (.set 3 (.dict .nil)) (.cons (.set 4 (.lc (.var 5) (.one 5) (.e (.sset (.var 2))) (.some (.cmp .gt (.call 44 (.cons (.call 34 (.cons (.var 2) (.cons (.var 5) .nil))) (.cons (.sl (.var 5) (.some (.cst (.int 1))) .none) (.cons (.var 1) (.cons (.var 3) .nil))))) (.cst (.int 0)))))) (.cons (.set 6 (.idx (.var 4) (.cst (.int 0)))) (.cons (.set 2 (.call 34 (.cons (.var 2) (.cons (.var 6) .nil)))) (.cons (.whl (.cmp .ne (.var 2) (.tup .nil)) (.cons (.set 7 (.sl (.var 6) (.some (.op .add (.op .sub (.bi .len (.cons (.var 6) .nil)) (.var 1)) (.cst (.int 1)))) .none)) (.cons (.for (.one 8) (.e (.sset (.var 2))) (.cons (.set 9 (.call 34 (.cons (.var 2) (.cons (.var 8) .nil)))) (.cons (.ifs (.and (.cmp .eq (.sl (.var 8) .none (.some (.neg (.cst (.int 1))))) (.var 7)) (.cmp .gt (.call 44 (.cons (.var 9) (.cons (.sl (.var 8) (.some (.cst (.int 1))) .none) (.cons (.var 1) (.cons (.var 3) .nil))))) (.cst (.int 0)))) (.cons (.set 6 (.op .add (.var 6) (.idx (.var 8) (.neg (.cst (.int 1)))))) (.cons (.set 2 (.var 9)) (.cons .brk .nil))) (.nil)) .nil))) .nil))) (.cons (.ret (.var 6)) .nil)))))))))⟩
-- 47: _law_which: isinstance ValueError
-- 48: _law_ask: stmt try: return first(_law_some) except SlitError as _law_e:
/-- how_many -/
def c49 : Fd := ⟨1, 1, false, (.cons (.expr (.call 33 (.cons (.var 0) .nil))) (.cons (.ret (.call 45 (.cons (.var 0) .nil))) .nil))⟩
/-- law_k02 -/
def c50 : Fd := ⟨1, 5, false, (.cons (.set 1 (.cell (.lst .nil))) (.cons (.set 2 (.call 29 (.cons (.var 0) (.cons (.var 1) (.cons (.cst (.int 9)) .nil))))) (.cons (.ifs (.and (.cmp .eq (.idx (.var 2) (.cst (.int 0))) (.cst (.int 1))) (.cmp .gt (.bi .len (.cons (.idx (.var 2) (.cst (.int 1))) .nil)) (.cst (.int 7)))) (.cons (.set 2 (.tup (.cons (.cst (.int 1)) (.cons (.sl (.idx (.var 2) (.cst (.int 1))) .none (.some (.cst (.int 7)))) .nil)))) .nil) (.nil)) (.cons (.set 3 (.call 41 (.cons (.var 2) .nil))) (.cons (.set 4 (.cell (.call 43 (.cons (.var 2) .nil)))) (.cons (.ifs (.or (.cmp .ne (.var 4) (.var 3)) (.cmp .ne (.call 49 (.cons (.var 2) .nil)) (.bi .len (.cons (.var 3) .nil)))) (.cons (.ret (.cst (.bl false))) .nil) (.nil)) (.cons (.expr (.mth .append (.var 4) (.cons (.cst .non) .nil))) (.cons (.ifs (.cmp .ne (.call 43 (.cons (.var 2) .nil)) (.var 3)) (.cons (.ret (.cst (.bl false))) .nil) (.nil)) (.cons (.ret (.cmp .eq (.call 48 (.cons (.var 2) .nil)) (.ite (.cmp .ne (.var 3) (.lst .nil)) (.idx (.var 3) (.cst (.int 0))) (.tup (.cons (.cst (.str ("refused" : Str))) (.cons (.cst (.int 4)) .nil)))))) .nil)))))))))⟩
/-- _law_seen -/
def c51 : Fd := ⟨2, 3, false, (.cons (.ret (.bi .tuple (.cons (.bi .sorted (.cons (.lc (.sl (.var 0) (.some (.var 2)) (.some (.op .add (.var 2) (.var 1)))) (.one 2) (.rng1 (.bi .len (.cons (.var 0) .nil))) (.some (.cmp .le (.op .add (.var 2) (.var 1)) (.bi .len (.cons (.var 0) .nil))))) .nil)) .nil))) .nil)⟩
/-- _law_view -/
def c52 : Fd := ⟨4, 7, false, (.cons (.set 4 (.ite (.cmp .ne (.var 2) (.cst (.int 2))) (.op .add (.cst (.int 2)) (.call 2 (.cons (.var 0) (.cons (.var 1) (.cons (.cst (.int 3)) .nil))))) (.op .add (.cst (.int 1)) (.call 2 (.cons (.var 0) (.cons (.var 1) (.cons (.cst (.int 4)) .nil))))))) (.cons (.set 5 (.cell (.bi .list (.cons (.call 51 (.cons (.call 4 (.cons (.var 0) (.cons (.var 1) (.cons (.var 4) (.cons (.op .sub (.op .add (.var 4) (.var 3)) (.cst (.int 1))) .nil))))) (.cons (.var 4) .nil))) .nil)))) (.cons (.for (.one 6) (.rng1 (.op .mod (.var 2) (.cst (.int 3)))) (.cons (.put (.var 5) (.call 2 (.cons (.var 0) (.cons (.var 1) (.cons (.bi .len (.cons (.var 5) .nil)) .nil)))) (.call 4 (.cons (.var 0) (.cons (.var 1) (.cons (.var 4) (.cons (.var 4) .nil)))))) .nil)) (.cons (.ret (.tup (.cons (.var 4) (.cons (.bi .tuple (.cons (.bi .sorted (.cons (.var 5) .nil)) .nil)) .nil)))) .nil))))⟩
/-- shift -/
def c53 : Fd := ⟨2, 3, false, (.cons (.for (.one 2) (.rng2 (.cst (.int 1)) (.bi .len (.cons (.var 0) .nil))) (.cons (.ifs (.cmp .eq (.sl (.var 0) (.some (.var 2)) .none) (.sl (.var 1) .none (.some (.op .sub (.bi .len (.cons (.var 0) .nil)) (.var 2))))) (.cons (.ret (.var 2)) .nil) (.nil)) .nil)) (.cons (.ret (.bi .len (.cons (.var 0) .nil))) .nil))⟩
/-- rest_of -/
def c54 : Fd := ⟨3, 9, false, (.cons (.ifs (.cmp .eq (.var 0) (.tup .nil)) (.cons (.ret (.tup (.cons (.cst (.int 0)) (.cons (.cst (.str ("" : Str))) .nil)))) .nil) (.nil)) (.cons (.set 3 (.tup (.cons (.var 0) (.cons (.var 1) .nil)))) (.cons (.ifs (.cmp .notin (.var 3) (.var 2)) (.cons (.set 4 (.cell (.lst .nil))) (.cons (.for (.one 5) (.e (.sset (.var 0))) (.cons (.set 6 (.call 53 (.cons (.var 1) (.cons (.var 5) .nil)))) (.cons (.setT 7 8 (.call 54 (.cons (.call 34 (.cons (.var 0) (.cons (.var 5) .nil))) (.cons (.var 5) (.cons (.var 2) .nil))))) (.cons (.expr (.mth .append (.var 4) (.cons (.tup (.cons (.op .add (.var 7) (.var 6)) (.cons (.op .add (.sl (.var 5) (.some (.op .sub (.bi .len (.cons (.var 5) .nil)) (.var 6))) .none) (.var 8)) .nil))) .nil))) .nil)))) (.cons (.put (.var 2) (.var 3) (.bi .min (.cons (.var 4) .nil))) .nil))) (.nil)) (.cons (.ret (.idx (.var 2) (.var 3))) .nil))))⟩
/-- shortest_of -/
def c55 : Fd := ⟨1, 8, false, (.cons (.setT 1 2 (.var 0)) (.cons (.set 3 (.dict .nil)) (.cons (.set 4 (.cell (.lst .nil))) (.cons (.for (.one 5) (.e (.sset (.var 2))) (.cons (.setT 6 7 (.call 54 (.cons (.call 34 (.cons (.var 2) (.cons (.var 5) .nil))) (.cons (.var 5) (.cons (.var 3) .nil))))) (.cons (.expr (.mth .append (.var 4) (.cons (.tup (.cons (.var 6) (.cons (.op .add (.var 5) (.var 7)) .nil))) .nil))) .nil))) (.cons (.ret (.idx (.bi .min (.cons (.var 4) .nil)) (.cst (.int 1)))) .nil)))))⟩
/-- lacking -/
def c56 : Fd := ⟨1, 3, true, (.cons (.expr (.call 33 (.cons (.var 0) .nil))) (.cons (.set 1 (.cell (.call 11 (.cons (.call 55 (.cons (.var 0) .nil)) (.cons (.idx (.var 0) (.cst (.int 0))) .nil))))) (.cons (.for (.one 2) (.e (.idx (.var 0) (.cst (.int 1)))) (.cons (.expr (.mth .remove (.var 1) (.cons (.var 2) .nil))) .nil)) (.cons (.ret (.bi .sorted (.cons (.var 1) .nil))) .nil))))⟩
/-- shortest -/
def c57 : Fd := ⟨1, 1, false, (.cons (.expr (.call 33 (.cons (.var 0) .nil))) (.cons (.ret (.call 55 (.cons (.var 0) .nil))) .nil))⟩
/-- _law_under -/
def c58 : Fd := ⟨3, 5, false, (.cons (.set 3 (.call 51 (.cons (.var 0) (.cons (.var 1) .nil)))) (.cons (.ret (.bi .all (.cons (.lc (.cmp .le (.mth .tcount (.var 3) (.cons (.var 4) .nil)) (.mth .tcount (.var 2) (.cons (.var 4) .nil))) (.one 4) (.e (.var 3)) .none) .nil))) .nil))⟩
/-- _law_all -/
def c59 : Fd := ⟨1, 8, true, (.cons (.setT 1 2 (.var 0)) (.cons (.set 3 (.lst (.cons (.cst (.str ("" : Str))) .nil))) (.cons (.for (.one 4) (.rng1 (.op .sub (.op .add (.bi .len (.cons (.var 2) .nil)) (.var 1)) (.cst (.int 1)))) (.cons (.set 5 (.cell (.lst .nil))) (.cons (.for (.one 6) (.e (.var 3)) (.cons (.expr (.mth .extend (.var 5) (.cons (.lc (.op .add (.var 6) (.var 7)) (.one 7) (.e (.cst (.str ("abc" : Str)))) (.some (.call 58 (.cons (.op .add (.var 6) (.var 7)) (.cons (.var 1) (.cons (.var 2) .nil)))))) .nil))) .nil)) (.cons (.set 3 (.var 5)) .nil)))) (.cons (.ret (.lc (.var 6) (.one 6) (.e (.var 3)) (.some (.cmp .eq (.call 51 (.cons (.var 6) (.cons (.var 1) .nil))) (.var 2))))) .nil))))⟩
/-- law_k13 -/
def c60 : Fd := ⟨1, 8, false, (.cons (.set 1 (.cell (.lst .nil))) (.cons (.set 2 (.call 2 (.cons (.var 0) (.cons (.var 1) (.cons (.cst (.int 4)) .nil))))) (.cons (.set 3 (.call 2 (.cons (.var 0) (.cons (.var 1) (.cons (.cst (.int 3)) .nil))))) (.cons (.set 4 (.call 52 (.cons (.var 0) (.cons (.var 1) (.cons (.var 3) (.cons (.cst (.int 7)) .nil)))))) (.cons (.ifs (.cmp .lt (.var 2) (.cst (.int 2))) (.cons (.set 5 (.idx (.var 4) (.cst (.int 0)))) (.cons (.set 4 (.tup (.cons (.var 5) (.cons (.bi .tuple (.cons (.bi .sorted (.cons (.lc (.call 4 (.cons (.var 0) (.cons (.var 1) (.cons (.var 5) (.cons (.var 5) .nil))))) (.one 6) (.rng1 (.bi .len (.cons (.idx (.var 4) (.cst (.int 1))) .nil))) .none) .nil)) .nil)) .nil)))) .nil)) (.nil)) (.cons (.set 7 (.call 56 (.cons (.var 4) .nil))) (.cons (.ifs (.or (.not (.bi .isList (.cons (.var 7) .nil))) (.cmp .ne (.var 7) (.bi .sorted (.cons (.var 7) .nil)))) (.cons (.ret (.cst (.bl false))) .nil) (.nil)) (.cons (.ifs (.cmp .ne (.bi .tuple (.cons (.bi .sorted (.cons (.op .add (.var 7) (.bi .list (.cons (.idx (.var 4) (.cst (.int 1))) .nil))) .nil)) .nil)) (.call 51 (.cons (.call 57 (.cons (.var 4) .nil)) (.cons (.idx (.var 4) (.cst (.int 0))) .nil)))) (.cons (.ret (.cst (.bl false))) .nil) (.nil)) (.cons (.ret (.cmp .eq (.cmp .eq (.var 7) (.lst .nil)) (.cmp .ne (.call 59 (.cons (.var 4) .nil)) (.lst .nil)))) .nil)))))))))⟩
/-- _law_three -/
def c61 : Fd := ⟨1, 4, true, (.cons (.set 1 (.cell (.lst .nil))) (.cons (.for (.one 2) (.e (.var 0)) (.cons (.expr (.mth .extend (.var 1) (.cons (.lc (.op .add (.var 2) (.var 3)) (.one 3) (.e (.cst (.str ("abc" : Str)))) .none) .nil))) .nil)) (.cons (.ret (.snap 1)) .nil)))⟩
/-- within -/
def c62 : Fd := ⟨2, 4, false, (.cons (.ifs (.not (.call 6 (.cons (.var 0) (.cons (.cst (.int 1)) (.cons (.glb ("LONG" : Str) (.int 60)) .nil))))) (.cons .never .nil) (.nil)) (.cons (.expr (.call 33 (.cons (.var 1) .nil))) (.cons (.set 2 (.call 11 (.cons (.var 0) (.cons (.idx (.var 1) (.cst (.int 0))) .nil)))) (.cons (.ret (.bi .all (.cons (.lc (.cmp .ge (.mth .lcount (.var 2) (.cons (.var 3) .nil)) (.mth .tcount (.idx (.var 1) (.cst (.int 1))) (.cons (.var 3) .nil))) (.one 3) (.e (.idx (.var 1) (.cst (.int 1)))) .none) .nil))) .nil))))⟩
/-- law_k15 -/
def c63 : Fd := ⟨1, 11, false, (.cons (.set 1 (.cell (.lst .nil))) (.cons (.set 2 (.op .add (.cst (.int 1)) (.call 2 (.cons (.var 0) (.cons (.var 1) (.cons (.cst (.int 3)) .nil)))))) (.cons (.set 3 (.op .add (.cst (.int 1)) (.call 2 (.cons (.var 0) (.cons (.var 1) (.cons (.cst (.int 4)) .nil)))))) (.cons (.set 4 (.tup (.cons (.var 2) (.cons (.bi .tuple (.cons (.bi .sorted (.cons (.lc (.call 4 (.cons (.var 0) (.cons (.var 1) (.cons (.var 2) (.cons (.var 2) .nil))))) (.one 5) (.rng1 (.var 3)) .none) .nil)) .nil)) .nil)))) (.cons (.set 6 (.call 57 (.cons (.var 4) .nil))) (.cons (.set 7 (.lst (.cons (.cst (.str ("" : Str))) .nil))) (.cons (.for (.one 8) (.rng2 (.cst (.int 1)) (.cst (.int 7))) (.cons (.set 7 (.call 61 (.cons (.var 7) .nil))) (.cons (.set 9 (.lc (.var 10) (.one 10) (.e (.var 7)) (.some (.call 62 (.cons (.var 10) (.cons (.var 4) .nil)))))) (.cons (.ifs (.cmp .ne (.var 9) (.lst .nil)) (.cons (.ret (.cmp .eq (.var 6) (.idx (.var 9) (.cst (.int 0))))) .nil) (.nil)) .nil)))) (.cons (.ret (.and (.cmp .gt (.bi .len (.cons (.var 6) .nil)) (.cst (.int 6))) (.call 62 (.cons (.var 6) (.cons (.var 4) .nil))))) .nil))))))))⟩
/-- need_like -/
def c64 : Fd := ⟨3, 3, false, (.cons (.ifs (.cmp .ne (.call 12 (.cons (.var 0) (.cons (.var 2) .nil))) (.call 12 (.cons (.var 1) (.cons (.var 2) .nil)))) (.cons .never .nil) (.nil)) .nil)⟩
/-- ways_from -/
def c65 : Fd := ⟨2, 6, true, (.cons (.set 2 (.dict (.cons (.var 0) (.cons (.lst (.cons (.var 0) .nil)) .nil)))) (.cons (.set 3 (.cell (.lst (.cons (.var 0) .nil)))) (.cons (.whl (.cmp .ne (.var 3) (.lst .nil)) (.cons (.set 4 (.mth .popAt (.var 3) (.cons (.cst (.int 0)) .nil))) (.cons (.for (.one 5) (.e (.call 16 (.cons (.var 4) (.cons (.var 1) .nil)))) (.cons (.ifs (.cmp .notin (.var 5) (.var 2)) (.cons (.put (.var 2) (.var 5) (.op .add (.idx (.var 2) (.var 4)) (.lst (.cons (.var 5) .nil)))) (.cons (.expr (.mth .append (.var 3) (.cons (.var 5) .nil))) .nil)) (.nil)) .nil)) .nil))) (.cons (.ret (.snap 2)) .nil))))⟩
/-- road -/
def c66 : Fd := ⟨3, 3, false, (.cons (.expr (.call 64 (.cons (.var 0) (.cons (.var 1) (.cons (.var 2) .nil))))) (.cons (.ret (.idx (.call 65 (.cons (.var 0) (.cons (.var 2) .nil))) (.var 1))) .nil))⟩
/-- _law_levels -/
def c67 : Fd := ⟨2, 7, true, (.cons (.set 2 (.dict (.cons (.var 0) (.cons (.cst (.int 0)) .nil)))) (.cons (.set 3 (.lst (.cons (.var 0) .nil))) (.cons (.whl (.cmp .ne (.var 3) (.lst .nil)) (.cons (.set 4 (.cell (.lst .nil))) (.cons (.for (.one 5) (.e (.var 3)) (.cons (.expr (.mth .extend (.var 4) (.cons (.lc (.var 6) (.one 6) (.e (.call 22 (.cons (.var 5) (.cons (.var 1) .nil)))) (.some (.cmp .notin (.var 6) (.var 2)))) .nil))) .nil)) (.cons (.for (.one 6) (.e (.var 4)) (.cons (.put (.var 2) (.var 6) (.op .add (.idx (.var 2) (.idx (.var 3) (.cst (.int 0)))) (.cst (.int 1)))) .nil)) (.cons (.set 3 (.sset (.var 4))) .nil))))) (.cons (.ret (.snap 2)) .nil))))⟩
/-- steps -/
def c68 : Fd := ⟨3, 3, true, (.cons (.expr (.call 64 (.cons (.var 0) (.cons (.var 1) (.cons (.var 2) .nil))))) (.cons (.ret (.op .sub (.bi .len (.cons (.idx (.call 65 (.cons (.var 0) (.cons (.var 2) .nil))) (.var 1)) .nil)) (.cst (.int 1)))) .nil))⟩
/-- law_k18 -/
def c69 : Fd := ⟨1, 12, false, (.cons (.set 1 (.cell (.lst .nil))) (.cons (.set 2 (.call 2 (.cons (.var 0) (.cons (.var 1) (.cons (.cst (.int 9973)) .nil))))) (.cons (.setT 3 4 (.call 5 (.cons (.var 0) (.cons (.var 1) (.cons (.cst (.int 2)) (.cons (.cst (.int 8)) .nil)))))) (.cons (.set 5 (.call 43 (.cons (.call 12 (.cons (.var 3) (.cons (.var 4) .nil))) .nil))) (.cons (.set 6 (.idx (.var 5) (.op .mod (.var 2) (.bi .len (.cons (.var 5) .nil))))) (.cons (.set 7 (.call 66 (.cons (.var 3) (.cons (.var 6) (.cons (.var 4) .nil))))) (.cons (.set 8 (.call 67 (.cons (.var 6) (.cons (.var 4) .nil)))) (.cons (.ifs (.or (.cmp .ne (.idx (.var 7) (.cst (.int 0))) (.var 3)) (.or (.cmp .ne (.idx (.var 7) (.neg (.cst (.int 1)))) (.var 6)) (.cmp .ne (.call 68 (.cons (.var 3) (.cons (.var 6) (.cons (.var 4) .nil)))) (.op .sub (.bi .len (.cons (.var 7) .nil)) (.cst (.int 1)))))) (.cons (.ret (.cst (.bl false))) .nil) (.nil)) (.cons (.set 9 (.cell (.lst (.cons (.var 3) .nil)))) (.cons (.whl (.cmp .ne (.idx (.var 9) (.neg (.cst (.int 1)))) (.var 6)) (.cons (.set 10 (.lc (.var 11) (.one 11) (.e (.call 22 (.cons (.idx (.var 9) (.neg (.cst (.int 1)))) (.cons (.var 4) .nil)))) (.some (.cmp .eq (.idx (.var 8) (.var 11)) (.op .sub (.idx (.var 8) (.idx (.var 9) (.neg (.cst (.int 1))))) (.cst (.int 1))))))) (.cons (.expr (.mth .append (.var 9) (.cons (.idx (.var 10) (.cst (.int 0))) .nil))) .nil))) (.cons (.ret (.cmp .eq (.var 7) (.var 9))) .nil)))))))))))⟩
/-- law_k19 -/
def c70 : Fd := ⟨1, 7, false, (.cons (.set 1 (.cell (.lst .nil))) (.cons (.setT 2 3 (.call 5 (.cons (.var 0) (.cons (.var 1) (.cons (.cst (.int 2)) (.cons (.cst (.int 9)) .nil)))))) (.cons (.set 4 (.call 43 (.cons (.call 12 (.cons (.var 2) (.cons (.var 3) .nil))) .nil))) (.cons (.set 5 (.call 67 (.cons (.var 2) (.cons (.var 3) .nil)))) (.cons (.ifs (.cmp .ne (.bi .sorted (.cons (.bi .list (.cons (.var 5) .nil)) .nil)) (.var 4)) (.cons (.ret (.cst (.bl false))) .nil) (.nil)) (.cons (.for (.one 6) (.e (.sl (.var 4) .none (.some (.cst (.int 12))))) (.cons (.ifs (.or (.cmp .ne (.call 68 (.cons (.var 2) (.cons (.var 6) (.cons (.var 3) .nil)))) (.idx (.var 5) (.var 6))) (.cmp .ne (.call 68 (.cons (.var 6) (.cons (.var 2) (.cons (.var 3) .nil)))) (.idx (.var 5) (.var 6)))) (.cons (.ret (.cst (.bl false))) .nil) (.nil)) .nil)) (.cons (.ret (.cmp .eq (.call 68 (.cons (.var 2) (.cons (.var 2) (.cons (.var 3) .nil)))) (.cst (.int 0)))) .nil)))))))⟩
/-- farthest -/
def c71 : Fd := ⟨2, 5, false, (.cons (.expr (.call 12 (.cons (.var 0) (.cons (.var 1) .nil)))) (.cons (.set 2 (.call 65 (.cons (.var 0) (.cons (.var 1) .nil)))) (.cons (.set 3 (.bi .max (.cons (.lc (.bi .len (.cons (.idx (.var 2) (.var 4)) .nil)) (.one 4) (.e (.var 2)) .none) .nil))) (.cons (.ret (.tup (.cons (.op .sub (.var 3) (.cst (.int 1))) (.cons (.bi .min (.cons (.lc (.var 4) (.one 4) (.e (.var 2)) (.some (.cmp .eq (.bi .len (.cons (.idx (.var 2) (.var 4)) .nil)) (.var 3)))) .nil)) .nil)))) .nil))))⟩
/-- law_k20 -/
def c72 : Fd := ⟨1, 7, false, (.cons (.set 1 (.cell (.lst .nil))) (.cons (.setT 2 3 (.call 5 (.cons (.var 0) (.cons (.var 1) (.cons (.cst (.int 2)) (.cons (.cst (.int 9)) .nil)))))) (.cons (.ifs (.cmp .eq (.call 2 (.cons (.var 0) (.cons (.var 1) (.cons (.cst (.int 4)) .nil)))) (.cst (.int 0))) (.cons (.set 2 (.sl (.var 2) .none (.some (.op .add (.var 3) (.cst (.int 1)))))) .nil) (.nil)) (.cons (.set 4 (.call 67 (.cons (.var 2) (.cons (.var 3) .nil)))) (.cons (.set 5 (.bi .max (.cons (.lc (.idx (.var 4) (.var 6)) (.one 6) (.e (.var 4)) .none) .nil))) (.cons (.ret (.cmp .eq (.call 71 (.cons (.var 2) (.cons (.var 3) .nil))) (.tup (.cons (.var 5) (.cons (.bi .min (.cons (.lc (.var 6) (.one 6) (.e (.var 4)) (.some (.cmp .eq (.idx (.var 4) (.var 6)) (.var 5)))) .nil)) .nil))))) .nil))))))⟩
/-- by_all -/
def c73 : Fd := ⟨1, 4, false, (.cons (.ifs (.or (.not (.bi .isList (.cons (.var 0) .nil))) (.or (.not (.chn .le .le (.cst (.int 1)) (.bi .len (.cons (.var 0) .nil)) (.glb ("MANY" : Str) (.int 4)))) (.not (.bi .all (.cons (.lc (.call 32 (.cons (.var 1) .nil)) (.one 1) (.e (.var 0)) .none) .nil))))) (.cons .never .nil) (.nil)) (.cons (.set 2 (.call 42 (.cons (.idx (.var 0) (.cst (.int 0))) .nil))) (.cons (.for (.one 1) (.e (.sl (.var 0) (.some (.cst (.int 1))) .none)) (.cons (.set 2 (.lc (.var 3) (.one 3) (.e (.var 2)) (.some (.cmp .eq (.bi .tuple (.cons (.bi .sorted (.cons (.call 11 (.cons (.var 3) (.cons (.idx (.var 1) (.cst (.int 0))) .nil))) .nil)) .nil)) (.idx (.var 1) (.cst (.int 1))))))) .nil)) (.cons (.ret (.var 2)) .nil))))⟩
-- 74: law_k24: slice step
/-- twins -/
def c75 : Fd := ⟨2, 3, true, (.cons (.ret (.lc (.var 2) (.one 2) (.e (.call 42 (.cons (.call 12 (.cons (.var 0) (.cons (.var 1) .nil))) .nil))) (.some (.cmp .ne (.var 2) (.var 0))))) .nil)⟩
/-- _law_swapped -/
def c76 : Fd := ⟨3, 8, false, (.cons (.set 3 (.call 27 (.cons (.var 0) (.cons (.var 1) (.cons (.op .sub (.var 2) (.cst (.int 1))) (.cons (.op .sub (.var 2) (.cst (.int 1))) .nil)))))) (.cons (.set 4 (.lc (.call 27 (.cons (.var 0) (.cons (.var 1) (.cons (.cst (.int 0)) (.cons (.cst (.int 2)) .nil))))) (.one 5) (.rng1 (.cst (.int 2))) .none)) (.cons (.set 6 (.op .add (.op .add (.op .add (.op .add (.var 3) (.idx (.var 4) (.cst (.int 0)))) (.var 3)) (.idx (.var 4) (.cst (.int 1)))) (.var 3))) (.cons (.set 7 (.op .add (.op .add (.op .add (.op .add (.var 3) (.idx (.var 4) (.cst (.int 1)))) (.var 3)) (.idx (.var 4) (.cst (.int 0)))) (.var 3))) (.cons (.ret (.tup (.cons (.var 6) (.cons (.var 7) .nil)))) .nil)))))⟩
/-- least_width -/
def c77 : Fd := ⟨1, 2, false, (.cons (.expr (.call 10 (.cons (.var 0) (.cons (.cst (.int 1)) .nil)))) (.cons (.for (.one 1) (.rng2 (.cst (.int 1)) (.op .add (.glb ("WIDTH" : Str) (.int 4)) (.cst (.int 1)))) (.cons (.ifs (.and (.cmp .le (.var 1) (.bi .len (.cons (.var 0) .nil))) (.cmp .eq (.call 45 (.cons (.tup (.cons (.var 1) (.cons (.bi .tuple (.cons (.bi .sorted (.cons (.call 11 (.cons (.var 0) (.cons (.var 1) .nil))) .nil)) .nil)) .nil))) .nil)) (.cst (.int 1)))) (.cons (.ret (.var 1)) .nil) (.nil)) .nil)) (.cons (.ret (.cst .non)) .nil)))⟩
-- 78: law_k05: slice step
-- 79: reach: enumerate
/-- excess -/
def c80 : Fd := ⟨2, 6, true, (.cons (.setT 2 3 (.var 0)) (.cons (.set 4 (.bi .len (.cons (.lc (.var 5) (.one 5) (.e (.var 3)) (.some (.cmp .eq (.sl (.var 5) .none (.some (.neg (.cst (.int 1))))) (.var 1)))) .nil))) (.cons (.ret (.op .sub (.var 4) (.bi .len (.cons (.lc (.var 5) (.one 5) (.e (.var 3)) (.some (.cmp .eq (.sl (.var 5) (.some (.cst (.int 1))) .none) (.var 1)))) .nil)))) .nil)))⟩
/-- pieces_of -/
def c81 : Fd := ⟨1, 4, true, (.cons (.setT 1 2 (.var 0)) (.cons (.ret (.sset (.op .add (.lc (.sl (.var 3) .none (.some (.neg (.cst (.int 1))))) (.one 3) (.e (.var 2)) .none) (.lc (.sl (.var 3) (.some (.cst (.int 1))) .none) (.one 3) (.e (.var 2)) .none)))) .nil))⟩
/-- balance -/
def c82 : Fd := ⟨1, 4, true, (.cons (.expr (.call 33 (.cons (.var 0) .nil))) (.cons (.set 1 (.lc (.tup (.cons (.var 2) (.cons (.call 80 (.cons (.var 0) (.cons (.var 2) .nil))) .nil))) (.one 2) (.e (.call 81 (.cons (.var 0) .nil))) .none)) (.cons (.ret (.lc (.var 3) (.one 3) (.e (.var 1)) (.some (.cmp .ne (.idx (.var 3) (.cst (.int 1))) (.cst (.int 0)))))) .nil)))⟩
/-- bar -/
def c83 : Fd := ⟨1, 5, false, (.cons (.expr (.call 33 (.cons (.var 0) .nil))) (.cons (.ifs (.cmp .gt (.call 45 (.cons (.var 0) .nil)) (.cst (.int 0))) (.cons (.ret (.cst .non)) .nil) (.nil)) (.cons (.set 1 (.lc (.var 2) (.one 2) (.e (.call 82 (.cons (.var 0) .nil))) (.some (.cmp .gt (.idx (.var 2) (.cst (.int 1))) (.cst (.int 0)))))) (.cons (.for (.two 3 4) (.e (.var 1)) (.cons (.ifs (.cmp .gt (.var 4) (.cst (.int 1))) (.cons (.ret (.tup (.cons (.cst (.str ("more" : Str))) (.cons (.var 3) .nil)))) .nil) (.nil)) .nil)) (.cons (.ifs (.cmp .gt (.bi .len (.cons (.var 1) .nil)) (.cst (.int 1))) (.cons (.ret (.tup (.cons (.cst (.str ("two" : Str))) (.cons (.idx (.idx (.var 1) (.cst (.int 0))) (.cst (.int 0))) (.cons (.idx (.idx (.var 1) (.cst (.int 1))) (.cst (.int 0))) .nil))))) .nil) (.nil)) (.cons (.ret (.tup (.cons (.cst (.str ("apart" : Str))) (.cons (.call 79 (.cons (.var 0) (.cons (.cst (.int 0)) .nil))) .nil)))) .nil))))))⟩
-- 84: is_apart: enumerate
/-- is_bar -/
def c85 : Fd := ⟨2, 3, false, (.cons (.expr (.call 33 (.cons (.var 0) .nil))) (.cons (.ifs (.or (.not (.bi .isTuple (.cons (.var 1) .nil))) (.or (.not (.chn .le .le (.cst (.int 2)) (.bi .len (.cons (.var 1) .nil)) (.cst (.int 3)))) (.not (.bi .isStr (.cons (.idx (.var 1) (.cst (.int 0))) .nil))))) (.cons (.ret (.cst (.bl false))) .nil) (.nil)) (.cons (.ifs (.cmp .eq (.idx (.var 1) (.cst (.int 0))) (.cst (.str ("apart" : Str)))) (.cons (.ret (.and (.cmp .eq (.bi .len (.cons (.var 1) .nil)) (.cst (.int 2))) (.call 84 (.cons (.var 0) (.cons (.idx (.var 1) (.cst (.int 1))) .nil))))) .nil) (.nil)) (.cons (.ifs (.not (.bi .all (.cons (.lc (.and (.bi .isStr (.cons (.var 2) .nil)) (.cmp .eq (.bi .len (.cons (.var 2) .nil)) (.op .sub (.idx (.var 0) (.cst (.int 0))) (.cst (.int 1))))) (.one 2) (.e (.sl (.var 1) (.some (.cst (.int 1))) .none)) .none) .nil))) (.cons (.ret (.cst (.bl false))) .nil) (.nil)) (.cons (.ifs (.cmp .eq (.idx (.var 1) (.cst (.int 0))) (.cst (.str ("more" : Str)))) (.cons (.ret (.and (.cmp .eq (.bi .len (.cons (.var 1) .nil)) (.cst (.int 2))) (.cmp .gt (.call 80 (.cons (.var 0) (.cons (.idx (.var 1) (.cst (.int 1))) .nil))) (.cst (.int 1))))) .nil) (.nil)) (.cons (.ifs (.or (.cmp .ne (.idx (.var 1) (.cst (.int 0))) (.cst (.str ("two" : Str)))) (.or (.cmp .ne (.bi .len (.cons (.var 1) .nil)) (.cst (.int 3))) (.cmp .eq (.idx (.var 1) (.cst (.int 1))) (.idx (.var 1) (.cst (.int 2)))))) (.cons (.ret (.cst (.bl false))) .nil) (.nil)) (.cons (.ret (.and (.cmp .gt (.call 80 (.cons (.var 0) (.cons (.idx (.var 1) (.cst (.int 1))) .nil))) (.cst (.int 0))) (.cmp .gt (.call 80 (.cons (.var 0) (.cons (.idx (.var 1) (.cst (.int 2))) .nil))) (.cst (.int 0))))) .nil)))))))⟩
-- 86: _law_spoilt: slice step
/-- _law_more -/
def c87 : Fd := ⟨2, 3, true, (.cons (.ret (.op .sub (.bi .len (.cons (.lc (.cst (.int 1)) (.one 2) (.e (.var 0)) (.some (.cmp .eq (.sl (.var 2) .none (.some (.neg (.cst (.int 1))))) (.var 1)))) .nil)) (.bi .len (.cons (.lc (.cst (.int 1)) (.one 2) (.e (.var 0)) (.some (.cmp .eq (.sl (.var 2) (.some (.cst (.int 1))) .none) (.var 1)))) .nil)))) .nil)⟩
-- 88: _law_is_bar: zip
/-- law_k04 -/
def c89 : Fd := ⟨1, 17, false, (.cons (.set 1 (.cell (.lst .nil))) (.cons (.set 2 (.call 29 (.cons (.var 0) (.cons (.var 1) (.cons (.cst (.int 8)) .nil))))) (.cons (.ifs (.cmp .eq (.idx (.var 2) (.cst (.int 0))) (.cst (.int 1))) (.cons (.set 2 (.tup (.cons (.cst (.int 1)) (.cons (.sl (.idx (.var 2) (.cst (.int 1))) .none (.some (.cst (.int 7)))) .nil)))) .nil) (.nil)) (.cons (.setT 3 4 (.var 2)) (.cons (.set 5 (.sset (.op .add (.lc (.sl (.var 6) .none (.some (.neg (.cst (.int 1))))) (.one 6) (.e (.var 4)) .none) (.lc (.sl (.var 6) (.some (.cst (.int 1))) .none) (.one 6) (.e (.var 4)) .none)))) (.cons (.set 7 (.lc (.tup (.cons (.var 8) (.cons (.call 87 (.cons (.var 4) (.cons (.var 8) .nil))) .nil))) (.one 8) (.e (.var 5)) .none)) (.cons (.ifs (.cmp .ne (.call 82 (.cons (.var 2) .nil)) (.lc (.var 9) (.one 9) (.e (.var 7)) (.some (.cmp .ne (.idx (.var 9) (.cst (.int 1))) (.cst (.int 0)))))) (.cons (.ret (.cst (.bl false))) .nil) (.nil)) (.cons (.set 10 (.cmp .eq (.call 41 (.cons (.var 2) .nil)) (.lst .nil))) (.cons (.set 11 (.call 83 (.cons (.var 2) .nil))) (.cons (.ifs (.or (.cmp .ne (.cmp .isnot (.var 11) (.cst .non)) (.var 10)) (.and (.var 10) (.or (.not (.call 88 (.cons (.var 2) (.cons (.var 11) .nil)))) (.cmp .ne (.call 85 (.cons (.var 2) (.cons (.var 11) .nil))) (.cst (.bl true)))))) (.cons (.ret (.cst (.bl false))) .nil) (.nil)) (.cons (.set 12 (.bi .tuple (.cons (.lc (.var 13) (.one 13) (.rng1 (.bi .len (.cons (.var 4) .nil))) (.some (.cmp .eq (.call 25 (.cons (.var 0) (.cons (.var 1) (.cons (.cst (.int 2)) .nil)))) (.cst (.int 0))))) .nil))) (.cons (.set 14 (.cell (.lst (.cons (.tup (.cons (.cst (.str ("more" : Str))) (.cons (.call 26 (.cons (.var 0) (.cons (.var 1) (.cons (.var 5) .nil)))) .nil))) (.cons (.tup (.cons (.cst (.str ("apart" : Str))) (.cons (.var 12) .nil))) .nil))))) (.cons (.expr (.mth .append (.var 14) (.cons (.tup (.cons (.cst (.str ("two" : Str))) (.cons (.call 26 (.cons (.var 0) (.cons (.var 1) (.cons (.var 5) .nil)))) (.cons (.call 26 (.cons (.var 0) (.cons (.var 1) (.cons (.var 5) .nil)))) .nil)))) .nil))) (.cons (.ifs (.or (.cmp .is (.var 11) (.cst .non)) (.cmp .eq (.call 25 (.cons (.var 0) (.cons (.var 1) (.cons (.cst (.int 3)) .nil)))) (.cst (.int 0)))) (.cons (.set 11 (.call 26 (.cons (.var 0) (.cons (.var 1) (.cons (.var 14) .nil))))) .nil) (.nil)) (.cons (.for (.one 15) (.rng1 (.call 25 (.cons (.var 0) (.cons (.var 1) (.cons (.cst (.int 3)) .nil))))) (.cons (.set 11 (.call 86 (.cons (.var 0) (.cons (.var 1) (.cons (.var 11) (.cons (.var 5) .nil)))))) .nil)) (.cons (.set 16 (.call 85 (.cons (.var 2) (.cons (.var 11) .nil)))) (.cons (.ifs (.or (.cmp .ne (.var 16) (.call 88 (.cons (.var 2) (.cons (.var 11) .nil)))) (.not (.bi .isBool (.cons (.var 16) .nil)))) (.cons (.ret (.cst (.bl false))) .nil) (.nil)) (.cons (.ret (.or (.not (.var 16)) (.and (.var 10) (.cmp .eq (.call 49 (.cons (.var 2) .nil)) (.cst (.int 0)))))) .nil))))))))))))))))))⟩
-- 90: _law_which: isinstance ValueError
-- 91: _law_ask: stmt try: return within(_law_text_here, _law_asked) except Sl
/-- _law_has -/
def c92 : Fd := ⟨2, 4, false, (.cons (.set 2 (.call 51 (.cons (.var 0) (.cons (.idx (.var 1) (.cst (.int 0))) .nil)))) (.cons (.for (.one 3) (.e (.idx (.var 1) (.cst (.int 1)))) (.cons (.ifs (.cmp .lt (.mth .tcount (.var 2) (.cons (.var 3) .nil)) (.mth .tcount (.idx (.var 1) (.cst (.int 1))) (.cons (.var 3) .nil))) (.cons (.ret (.cst (.bl false))) .nil) (.nil)) .nil)) (.cons (.ret (.cst (.bl true))) .nil)))⟩
/-- law_k14 -/
def c93 : Fd := ⟨1, 8, false, (.cons (.set 1 (.cell (.lst .nil))) (.cons (.set 2 (.call 2 (.cons (.var 0) (.cons (.var 1) (.cons (.cst (.int 6)) .nil))))) (.cons (.set 3 (.call 3 (.cons (.var 0) (.cons (.var 1) (.cons (.lst (.cons (.cst .non) (.cons (.cst (.str ("" : Str))) (.cons (.cst (.str ("abd" : Str))) (.cons (.op .mul (.cst (.str ("a" : Str))) (.cst (.int 61))) (.cons (.cst (.int 5)) (.cons (.tup (.cons (.cst (.str ("a" : Str))) .nil)) (.cons (.cst (.str ("A" : Str))) .nil)))))))) .nil))))) (.cons (.set 4 (.call 2 (.cons (.var 0) (.cons (.var 1) (.cons (.cst (.int 3)) .nil))))) (.cons (.set 5 (.call 52 (.cons (.var 0) (.cons (.var 1) (.cons (.var 4) (.cons (.cst (.int 7)) .nil)))))) (.cons (.set 6 (.call 57 (.cons (.var 5) .nil))) (.cons (.ifs (.cmp .lt (.var 2) (.cst (.int 2))) (.cons (.set 6 (.call 4 (.cons (.var 0) (.cons (.var 1) (.cons (.cst (.int 1)) (.cons (.cst (.int 30)) .nil)))))) .nil) (.nil)) (.cons (.ifs (.and (.cmp .gt (.var 2) (.cst (.int 3))) (.cmp .gt (.bi .len (.cons (.var 6) .nil)) (.cst (.int 1)))) (.cons (.set 7 (.call 2 (.cons (.var 0) (.cons (.var 1) (.cons (.bi .len (.cons (.var 6) .nil)) .nil))))) (.cons (.set 6 (.op .add (.op .add (.sl (.var 6) .none (.some (.var 7))) (.call 3 (.cons (.var 0) (.cons (.var 1) (.cons (.lst (.cons (.cst (.str ("" : Str))) (.cons (.cst (.str ("" : Str))) (.cons (.cst (.str ("a" : Str))) (.cons (.cst (.str ("b" : Str))) (.cons (.cst (.str ("c" : Str))) .nil)))))) .nil))))) (.sl (.var 6) (.some (.op .add (.var 7) (.cst (.int 1)))) .none))) .nil)) (.nil)) (.cons (.ifs (.or (.cmp .ne (.call 62 (.cons (.var 6) (.cons (.var 5) .nil))) (.call 92 (.cons (.var 6) (.cons (.var 5) .nil)))) (.not (.call 62 (.cons (.call 57 (.cons (.var 5) .nil)) (.cons (.var 5) .nil))))) (.cons (.ret (.cst (.bl false))) .nil) (.nil)) (.cons (.ifs (.or (.cmp .ne (.call 91 (.cons (.var 3) (.cons (.cst .non) .nil))) (.tup (.cons (.cst (.str ("refused" : Str))) (.cons (.cst (.int 0)) .nil)))) (.cmp .ne (.call 91 (.cons (.var 3) (.cons (.var 5) .nil))) (.tup (.cons (.cst (.str ("refused" : Str))) (.cons (.cst (.int 0)) .nil))))) (.cons (.ret (.cst (.bl false))) .nil) (.nil)) (.cons (.ifs (.cmp .ne (.call 91 (.cons (.op .mul (.cst (.str ("b" : Str))) (.cst (.int 60))) (.cons (.var 5) .nil))) (.call 92 (.cons (.op .mul (.cst (.str ("b" : Str))) (.cst (.int 60))) (.cons (.var 5) .nil)))) (.cons (.ret (.cst (.bl false))) .nil) (.nil)) (.cons (.ret (.cmp .eq (.call 91 (.cons (.var 6) (.cons (.tup (.cons (.idx (.var 5) (.cst (.int 0))) (.cons (.op .add (.idx (.var 5) (.cst (.int 1))) (.tup (.cons (.cst (.str ("" : Str))) .nil))) .nil))) .nil))) (.tup (.cons (.cst (.str ("refused" : Str))) (.cons (.cst (.int 2)) .nil))))) .nil))))))))))))⟩
/-- touch -/
def c94 : Fd := ⟨2, 2, false, (.cons (.ret (.or (.cmp .isin (.sl (.var 0) (.some (.cst (.int 1))) .none) (.tup (.cons (.sl (.var 1) (.some (.cst (.int 1))) .none) (.cons (.sl (.var 1) .none (.some (.neg (.cst (.int 1))))) .nil)))) (.cmp .isin (.sl (.var 0) .none (.some (.neg (.cst (.int 1))))) (.tup (.cons (.sl (.var 1) (.some (.cst (.int 1))) .none) (.cons (.sl (.var 1) .none (.some (.neg (.cst (.int 1))))) .nil)))))) .nil)⟩
/-- heaps -/
def c95 : Fd := ⟨1, 8, true, (.cons (.set 1 (.cell (.bi .list (.cons (.idx (.var 0) (.cst (.int 1))) .nil)))) (.cons (.set 2 (.cell (.lst .nil))) (.cons (.whl (.cmp .ne (.var 1) (.lst .nil)) (.cons (.set 3 (.cell (.lst .nil))) (.cons (.set 4 (.cell (.lst (.cons (.mth .popAt (.var 1) (.cons (.cst (.int 0)) .nil)) .nil)))) (.cons (.whl (.cmp .ne (.var 4) (.lst .nil)) (.cons (.set 5 (.mth .pop (.var 4) .nil)) (.cons (.expr (.mth .append (.var 3) (.cons (.var 5) .nil))) (.cons (.set 6 (.lc (.var 7) (.one 7) (.e (.var 1)) (.some (.call 94 (.cons (.var 7) (.cons (.var 5) .nil)))))) (.cons (.set 1 (.cell (.lc (.var 7) (.one 7) (.e (.var 1)) (.some (.not (.call 94 (.cons (.var 7) (.cons (.var 5) .nil)))))))) (.cons (.expr (.mth .extend (.var 4) (.cons (.var 6) .nil))) .nil)))))) (.cons (.expr (.mth .append (.var 2) (.cons (.bi .tuple (.cons (.bi .sorted (.cons (.var 3) .nil)) .nil)) .nil))) .nil))))) (.cons (.ret (.snap 2)) .nil))))⟩
/-- fewest_of -/
def c96 : Fd := ⟨1, 6, false, (.cons (.set 1 (.cst (.int 0))) (.cons (.for (.one 2) (.e (.call 95 (.cons (.var 0) .nil))) (.cons (.set 3 (.lc (.call 80 (.cons (.tup (.cons (.idx (.var 0) (.cst (.int 0))) (.cons (.var 2) .nil))) (.cons (.var 4) .nil))) (.one 4) (.e (.call 81 (.cons (.tup (.cons (.idx (.var 0) (.cst (.int 0))) (.cons (.var 2) .nil))) .nil))) .none)) (.cons (.set 1 (.op .add (.var 1) (.bi .max (.cons (.cst (.int 1)) (.cons (.bi .sum (.cons (.lc (.var 5) (.one 5) (.e (.var 3)) (.some (.cmp .gt (.var 5) (.cst (.int 0))))) .nil)) .nil))))) .nil))) (.cons (.ret (.var 1)) .nil)))⟩
/-- fewest_texts -/
def c97 : Fd := ⟨1, 1, false, (.cons (.expr (.call 33 (.cons (.var 0) .nil))) (.cons (.ret (.call 96 (.cons (.var 0) .nil))) .nil))⟩
/-- _law_trails -/
def c98 : Fd := ⟨2, 8, true, (.cons (.set 2 (.cell (.lst .nil))) (.cons (.set 3 (.cell (.lc (.var 4) (.one 4) (.e (.sset (.var 1))) .none))) (.cons (.whl (.cmp .ne (.var 3) (.lst .nil)) (.cons (.set 5 (.mth .popAt (.var 3) (.cons (.cst (.int 0)) .nil))) (.cons (.set 6 (.cell (.bi .list (.cons (.var 1) .nil)))) (.cons (.for (.one 4) (.e (.call 51 (.cons (.var 5) (.cons (.var 0) .nil)))) (.cons (.expr (.mth .remove (.var 6) (.cons (.var 4) .nil))) .nil)) (.cons (.expr (.mth .append (.var 2) (.cons (.tup (.cons (.var 5) (.cons (.bi .tuple (.cons (.var 6) .nil)) .nil))) .nil))) (.cons (.expr (.mth .extend (.var 3) (.cons (.lc (.op .add (.var 5) (.var 7)) (.one 7) (.e (.cst (.str ("abc" : Str)))) (.some (.call 58 (.cons (.op .add (.var 5) (.var 7)) (.cons (.var 0) (.cons (.var 1) .nil)))))) .nil))) .nil)))))) (.cons (.ret (.bi .sorted (.cons (.var 2) .nil))) .nil))))⟩
/-- _law_covers -/
def c99 : Fd := ⟨3, 6, false, (.cons (.ifs (.cmp .eq (.var 1) (.tup .nil)) (.cons (.ret (.cst (.int 0))) .nil) (.nil)) (.cons (.ifs (.cmp .notin (.var 1) (.var 2)) (.cons (.set 3 (.bi .len (.cons (.var 1) .nil))) (.cons (.for (.two 4 5) (.e (.call 98 (.cons (.var 0) (.cons (.var 1) .nil)))) (.cons (.ifs (.cmp .isin (.idx (.var 1) (.cst (.int 0))) (.call 51 (.cons (.var 4) (.cons (.var 0) .nil)))) (.cons (.set 3 (.bi .min (.cons (.var 3) (.cons (.op .add (.cst (.int 1)) (.call 99 (.cons (.var 0) (.cons (.var 5) (.cons (.var 2) .nil))))) .nil)))) .nil) (.nil)) .nil)) (.cons (.put (.var 2) (.var 1) (.var 3)) .nil))) (.nil)) (.cons (.ret (.idx (.var 2) (.var 1))) .nil)))⟩
/-- law_k27 -/
def c100 : Fd := ⟨1, 9, false, (.cons (.set 1 (.cell (.lst .nil))) (.cons (.set 2 (.call 2 (.cons (.var 0) (.cons (.var 1) (.cons (.cst (.int 4)) .nil))))) (.cons (.set 3 (.call 2 (.cons (.var 0) (.cons (.var 1) (.cons (.cst (.int 3)) .nil))))) (.cons (.set 4 (.call 52 (.cons (.var 0) (.cons (.var 1) (.cons (.var 3) (.cons (.cst (.int 6)) .nil)))))) (.cons (.set 5 (.bi .max (.cons (.cst (.int 2)) (.cons (.idx (.var 4) (.cst (.int 0))) .nil)))) (.cons (.set 6 (.call 51 (.cons (.call 4 (.cons (.var 0) (.cons (.var 1) (.cons (.var 5) (.cons (.op .add (.var 5) (.cst (.int 2))) .nil))))) (.cons (.var 5) .nil)))) (.cons (.ifs (.cmp .eq (.var 2) (.cst (.int 0))) (.cons (.set 6 (.op .add (.var 6) (.call 51 (.cons (.call 4 (.cons (.var 0) (.cons (.var 1) (.cons (.var 5) (.cons (.op .add (.var 5) (.cst (.int 3))) .nil))))) (.cons (.var 5) .nil))))) .nil) (.nil)) (.cons (.ifs (.cmp .eq (.var 2) (.cst (.int 1))) (.cons (.set 6 (.bi .tuple (.cons (.lc (.call 4 (.cons (.var 0) (.cons (.var 1) (.cons (.var 5) (.cons (.var 5) .nil))))) (.one 7) (.rng1 (.op .add (.cst (.int 1)) (.call 2 (.cons (.var 0) (.cons (.var 1) (.cons (.cst (.int 6)) .nil)))))) .none) .nil))) .nil) (.nil)) (.cons (.ifs (.and (.cmp .gt (.var 2) (.cst (.int 1))) (.cmp .gt (.idx (.var 4) (.cst (.int 0))) (.cst (.int 1)))) (.cons (.set 6 (.idx (.var 4) (.cst (.int 1)))) .nil) (.nil)) (.cons (.set 4 (.tup (.cons (.var 5) (.cons (.bi .tuple (.cons (.bi .sorted (.cons (.var 6) .nil)) .nil)) .nil)))) (.cons (.set 8 (.call 97 (.cons (.var 4) .nil))) (.cons (.ifs (.cmp .ne (.cmp .eq (.var 8) (.cst (.int 1))) (.cmp .gt (.call 49 (.cons (.var 4) .nil)) (.cst (.int 0)))) (.cons (.ret (.cst (.bl false))) .nil) (.nil)) (.cons (.ret (.cmp .eq (.var 8) (.call 99 (.cons (.var 5) (.cons (.idx (.var 4) (.cst (.int 1))) (.cons (.dict .nil) .nil)))))) .nil)))))))))))))⟩
/-- _law_over -/
def c101 : Fd := ⟨2, 3, false, (.cons (.ret (.idx (.lc (.var 2) (.one 2) (.rng2 (.cst (.int 1)) (.op .add (.bi .len (.cons (.var 0) .nil)) (.cst (.int 1)))) (.some (.cmp .eq (.sl (.var 0) (.some (.var 2)) .none) (.sl (.var 1) .none (.some (.op .sub (.bi .len (.cons (.var 0) .nil)) (.var 2))))))) (.cst (.int 0)))) .nil)⟩
-- 102: _law_go_on: op _law_mask >> _law_at & 1
-- 103: _law_short: op 1 << len(_law_windows)
/-- law_k12 -/
def c104 : Fd := ⟨1, 9, false, (.cons (.set 1 (.cell (.lst .nil))) (.cons (.set 2 (.call 2 (.cons (.var 0) (.cons (.var 1) (.cons (.cst (.int 4)) .nil))))) (.cons (.set 3 (.call 2 (.cons (.var 0) (.cons (.var 1) (.cons (.cst (.int 3)) .nil))))) (.cons (.set 4 (.call 52 (.cons (.var 0) (.cons (.var 1) (.cons (.var 3) (.cons (.cst (.int 7)) .nil)))))) (.cons (.ifs (.cmp .eq (.var 2) (.cst (.int 0))) (.cons (.set 5 (.idx (.var 4) (.cst (.int 0)))) (.cons (.set 4 (.tup (.cons (.var 5) (.cons (.bi .tuple (.cons (.bi .sorted (.cons (.lc (.call 4 (.cons (.var 0) (.cons (.var 1) (.cons (.var 5) (.cons (.var 5) .nil))))) (.one 6) (.rng1 (.bi .len (.cons (.idx (.var 4) (.cst (.int 1))) .nil))) .none) .nil)) .nil)) .nil)))) .nil)) (.nil)) (.cons (.set 7 (.call 57 (.cons (.var 4) .nil))) (.cons (.ifs (.cmp .ne (.var 7) (.call 103 (.cons (.var 4) .nil))) (.cons (.ret (.cst (.bl false))) .nil) (.nil)) (.cons (.set 8 (.call 59 (.cons (.var 4) .nil))) (.cons (.ret (.or (.cmp .eq (.var 8) (.lst .nil)) (.cmp .eq (.var 7) (.idx (.var 8) (.cst (.int 0)))))) .nil)))))))))⟩
/-- _law_blurred -/
def c105 : Fd := ⟨4, 7, false, (.cons (.set 4 (.lc (.cell (.bi .list (.cons (.var 5) .nil))) (.one 5) (.e (.idx (.var 2) (.cst (.int 1)))) .none)) (.cons (.for (.one 6) (.rng1 (.call 2 (.cons (.var 0) (.cons (.var 1) (.cons (.op .add (.var 3) (.cst (.int 1))) .nil))))) (.cons (.put (.idx (.var 4) (.call 2 (.cons (.var 0) (.cons (.var 1) (.cons (.bi .len (.cons (.var 4) .nil)) .nil))))) (.call 2 (.cons (.var 0) (.cons (.var 1) (.cons (.idx (.var 2) (.cst (.int 0))) .nil)))) (.cst (.str ("." : Str)))) .nil)) (.cons (.ret (.tup (.cons (.idx (.var 2) (.cst (.int 0))) (.cons (.bi .tuple (.cons (.bi .sorted (.cons (.lc (.mth .join (.cst (.str ("" : Str))) (.cons (.var 5) .nil)) (.one 5) (.e (.var 4)) .none) .nil)) .nil)) .nil)))) .nil)))⟩
/-- is_blurred -/
def c106 : Fd := ⟨1, 2, false, (.cons (.ifs (.or (.not (.bi .isTuple (.cons (.var 0) .nil))) (.or (.cmp .ne (.bi .len (.cons (.var 0) .nil)) (.cst (.int 2))) (.not (.call 8 (.cons (.idx (.var 0) (.cst (.int 0))) (.cons (.cst (.int 1)) (.cons (.glb ("WIDTH" : Str) (.int 4)) .nil))))))) (.cons (.ret (.cst (.bl false))) .nil) (.nil)) (.cons (.ifs (.or (.not (.bi .isTuple (.cons (.idx (.var 0) (.cst (.int 1))) .nil))) (.not (.chn .le .le (.cst (.int 1)) (.bi .len (.cons (.idx (.var 0) (.cst (.int 1))) .nil)) (.glb ("WINDOWS" : Str) (.int 9))))) (.cons (.ret (.cst (.bl false))) .nil) (.nil)) (.cons (.for (.one 1) (.e (.idx (.var 0) (.cst (.int 1)))) (.cons (.ifs (.or (.not (.bi .isStr (.cons (.var 1) .nil))) (.or (.cmp .ne (.bi .len (.cons (.var 1) .nil)) (.idx (.var 0) (.cst (.int 0)))) (.cmp .ne (.mth .strip (.var 1) (.cons (.op .add (.glb ("LETTERS" : Str) (.str ("abc" : Str))) (.glb ("GONE" : Str) (.str ("." : Str)))) .nil)) (.cst (.str ("" : Str)))))) (.cons (.ret (.cst (.bl false))) .nil) (.nil)) .nil)) (.cons (.ret (.and (.cmp .le (.mth .scount (.mth .join (.cst (.str ("" : Str))) (.cons (.idx (.var 0) (.cst (.int 1))) .nil)) (.cons (.glb ("GONE" : Str) (.str ("." : Str))) .nil)) (.glb ("MANY" : Str) (.int 6))) (.cmp .eq (.bi .list (.cons (.idx (.var 0) (.cst (.int 1))) .nil)) (.bi .sorted (.cons (.idx (.var 0) (.cst (.int 1))) .nil))))) .nil))))⟩
/-- need_blurred -/
def c107 : Fd := ⟨1, 1, false, (.cons (.ifs (.not (.call 106 (.cons (.var 0) .nil))) (.cons .never .nil) (.nil)) .nil)⟩
/-- filled -/
def c108 : Fd := ⟨1, 6, true, (.cons (.set 1 (.lst (.cons (.cst (.str ("" : Str))) .nil))) (.cons (.for (.one 2) (.e (.mth .join (.cst (.str (" " : Str))) (.cons (.var 0) .nil))) (.cons (.set 3 (.cell (.lst .nil))) (.cons (.for (.one 4) (.e (.var 1)) (.cons (.expr (.mth .extend (.var 3) (.cons (.lc (.op .add (.var 4) (.var 5)) (.one 5) (.e (.ite (.cmp .eq (.var 2) (.glb ("GONE" : Str) (.str ("." : Str)))) (.glb ("LETTERS" : Str) (.str ("abc" : Str))) (.var 2))) .none) .nil))) .nil)) (.cons (.set 1 (.var 3)) .nil)))) (.cons (.ret (.lc (.mth .split (.var 4) (.cons (.cst (.str (" " : Str))) .nil)) (.one 4) (.e (.var 1)) .none)) .nil)))⟩
/-- cleared_of -/
def c109 : Fd := ⟨1, 4, true, (.cons (.set 1 (.sset (.lc (.tup (.cons (.idx (.var 0) (.cst (.int 0))) (.cons (.bi .tuple (.cons (.bi .sorted (.cons (.var 2) .nil)) .nil)) .nil))) (.one 2) (.e (.call 108 (.cons (.idx (.var 0) (.cst (.int 1))) .nil))) .none))) (.cons (.ret (.lc (.var 3) (.one 3) (.e (.var 1)) (.some (.cmp .gt (.call 45 (.cons (.var 3) .nil)) (.cst (.int 0)))))) .nil))⟩
/-- cleared -/
def c110 : Fd := ⟨1, 1, true, (.cons (.expr (.call 107 (.cons (.var 0) .nil))) (.cons (.ret (.call 109 (.cons (.var 0) .nil))) .nil))⟩
/-- _law_times -/
def c111 : Fd := ⟨2, 5, true, (.cons (.set 2 (.cell (.lst .nil))) (.cons (.for (.one 3) (.e (.var 0)) (.cons (.expr (.mth .extend (.var 2) (.cons (.lc (.op .add (.var 3) (.lst (.cons (.var 4) .nil))) (.one 4) (.e (.var 1)) .none) .nil))) .nil)) (.cons (.ret (.snap 2)) .nil)))⟩
/-- _law_filled -/
def c112 : Fd := ⟨1, 9, true, (.cons (.set 1 (.lst (.cons (.lst .nil) .nil))) (.cons (.for (.one 2) (.e (.idx (.var 0) (.cst (.int 1)))) (.cons (.set 3 (.lst (.cons (.cst (.str ("" : Str))) .nil))) (.cons (.for (.one 4) (.e (.var 2)) (.cons (.set 3 (.ite (.cmp .eq (.var 4) (.cst (.str ("." : Str)))) (.call 61 (.cons (.var 3) .nil)) (.lc (.op .add (.var 5) (.var 4)) (.one 5) (.e (.var 3)) .none))) .nil)) (.cons (.set 1 (.call 111 (.cons (.var 1) (.cons (.var 3) .nil)))) .nil)))) (.cons (.set 6 (.sset (.lc (.tup (.cons (.idx (.var 0) (.cst (.int 0))) (.cons (.bi .tuple (.cons (.bi .sorted (.cons (.var 7) .nil)) .nil)) .nil))) (.one 7) (.e (.var 1)) .none))) (.cons (.ret (.lc (.var 8) (.one 8) (.e (.var 6)) (.some (.cmp .ne (.call 59 (.cons (.var 8) .nil)) (.lst .nil))))) .nil))))⟩
-- 113: does_fit: zip
/-- matched -/
def c114 : Fd := ⟨2, 3, false, (.cons (.ifs (.cmp .eq (.var 1) (.tup .nil)) (.cons (.ret (.cst (.bl true))) .nil) (.nil)) (.cons (.for (.one 2) (.e (.sset (.var 0))) (.cons (.ifs (.and (.call 113 (.cons (.var 2) (.cons (.idx (.var 1) (.neg (.cst (.int 1)))) .nil))) (.call 114 (.cons (.call 34 (.cons (.var 0) (.cons (.var 2) .nil))) (.cons (.sl (.var 1) .none (.some (.neg (.cst (.int 1))))) .nil)))) (.cons (.ret (.cst (.bl true))) .nil) (.nil)) .nil)) (.cons (.ret (.cst (.bl false))) .nil)))⟩
/-- clears -/
def c115 : Fd := ⟨2, 2, false, (.cons (.expr (.call 107 (.cons (.var 0) .nil))) (.cons (.expr (.call 33 (.cons (.var 1) .nil))) (.cons (.ifs (.or (.cmp .ne (.idx (.var 0) (.cst (.int 0))) (.idx (.var 1) (.cst (.int 0)))) (.cmp .ne (.bi .len (.cons (.idx (.var 0) (.cst (.int 1))) .nil)) (.bi .len (.cons (.idx (.var 1) (.cst (.int 1))) .nil)))) (.cons (.ret (.cst (.bl false))) .nil) (.nil)) (.cons (.ret (.call 114 (.cons (.idx (.var 1) (.cst (.int 1))) (.cons (.idx (.var 0) (.cst (.int 1))) .nil)))) .nil))))⟩
/-- law_k08 -/
def c116 : Fd := ⟨1, 8, false, (.cons (.set 1 (.cell (.lst .nil))) (.cons (.set 2 (.call 2 (.cons (.var 0) (.cons (.var 1) (.cons (.cst (.int 5)) .nil))))) (.cons (.set 3 (.call 3 (.cons (.var 0) (.cons (.var 1) (.cons (.lst (.cons (.cst (.int 0)) (.cons (.cst (.int 0)) (.cons (.cst (.int 1)) (.cons (.cst (.int 2)) .nil))))) .nil))))) (.cons (.set 4 (.call 52 (.cons (.var 0) (.cons (.var 1) (.cons (.var 3) (.cons (.cst (.int 6)) .nil)))))) (.cons (.set 5 (.call 105 (.cons (.var 0) (.cons (.var 1) (.cons (.var 4) (.cons (.var 2) .nil)))))) (.cons (.set 6 (.call 110 (.cons (.var 5) .nil))) (.cons (.ifs (.or (.cmp .ne (.var 6) (.call 112 (.cons (.var 5) .nil))) (.not (.bi .isList (.cons (.var 6) .nil)))) (.cons (.ret (.cst (.bl false))) .nil) (.nil)) (.cons (.ifs (.cmp .ne (.lc (.var 7) (.one 7) (.e (.var 6)) (.some (.not (.call 115 (.cons (.var 5) (.cons (.var 7) .nil)))))) (.lst .nil)) (.cons (.ret (.cst (.bl false))) .nil) (.nil)) (.cons (.ret (.cmp .eq (.call 110 (.cons (.var 4) .nil)) (.ite (.cmp .ne (.call 59 (.cons (.var 4) .nil)) (.lst .nil)) (.lst (.cons (.var 4) .nil)) (.lst .nil)))) .nil)))))))))⟩
/-- through -/
def c117 : Fd := ⟨1, 3, true, (.cons (.expr (.call 107 (.cons (.var 0) .nil))) (.cons (.set 1 (.cell (.lst .nil))) (.cons (.for (.one 2) (.e (.call 109 (.cons (.var 0) .nil))) (.cons (.expr (.mth .extend (.var 1) (.cons (.call 42 (.cons (.var 2) .nil)) .nil))) .nil)) (.cons (.ret (.bi .sorted (.cons (.var 1) .nil))) .nil))))⟩
/-- _law_fits -/
def c118 : Fd := ⟨2, 3, false, (.cons (.ret (.cmp .eq (.lc (.var 2) (.one 2) (.rng1 (.bi .len (.cons (.var 1) .nil))) (.some (.cmp .notin (.idx (.var 1) (.var 2)) (.tup (.cons (.cst (.str ("." : Str))) (.cons (.idx (.var 0) (.var 2)) .nil)))))) (.lst .nil))) .nil)⟩
/-- _law_clears -/
def c119 : Fd := ⟨2, 7, false, (.cons (.ifs (.or (.cmp .ne (.idx (.var 0) (.cst (.int 0))) (.idx (.var 1) (.cst (.int 0)))) (.cmp .ne (.bi .len (.cons (.idx (.var 0) (.cst (.int 1))) .nil)) (.bi .len (.cons (.idx (.var 1) (.cst (.int 1))) .nil)))) (.cons (.ret (.cst (.bl false))) .nil) (.nil)) (.cons (.set 2 (.lst (.cons (.lst .nil) .nil))) (.cons (.for (.one 3) (.e (.idx (.var 0) (.cst (.int 1)))) (.cons (.set 2 (.op .add (.var 2) (.lc (.op .add (.var 4) (.lst (.cons (.var 3) .nil))) (.one 4) (.e (.var 2)) .none))) .nil)) (.cons (.for (.one 4) (.e (.var 2)) (.cons (.set 5 (.lc (.var 6) (.one 6) (.e (.idx (.var 1) (.cst (.int 1)))) (.some (.cmp .ne (.lc (.var 3) (.one 3) (.e (.var 4)) (.some (.call 118 (.cons (.var 6) (.cons (.var 3) .nil))))) (.lst .nil))))) (.cons (.ifs (.cmp .lt (.bi .len (.cons (.var 5) .nil)) (.bi .len (.cons (.var 4) .nil))) (.cons (.ret (.cst (.bl false))) .nil) (.nil)) .nil))) (.cons (.ret (.cst (.bl true))) .nil)))))⟩
/-- law_k09 -/
def c120 : Fd := ⟨1, 10, false, (.cons (.set 1 (.cell (.lst .nil))) (.cons (.set 2 (.op .add (.cst (.int 1)) (.call 2 (.cons (.var 0) (.cons (.var 1) (.cons (.cst (.int 4)) .nil)))))) (.cons (.set 3 (.call 2 (.cons (.var 0) (.cons (.var 1) (.cons (.cst (.int 6)) .nil))))) (.cons (.set 4 (.call 4 (.cons (.var 0) (.cons (.var 1) (.cons (.var 2) (.cons (.op .add (.cst (.int 3)) (.var 2)) .nil)))))) (.cons (.set 5 (.call 105 (.cons (.var 0) (.cons (.var 1) (.cons (.tup (.cons (.var 2) (.cons (.call 51 (.cons (.var 4) (.cons (.var 2) .nil))) .nil))) (.cons (.var 3) .nil)))))) (.cons (.set 6 (.lst (.cons (.cst (.str ("" : Str))) .nil))) (.cons (.for (.one 7) (.rng1 (.bi .len (.cons (.var 4) .nil))) (.cons (.set 6 (.call 61 (.cons (.var 6) .nil))) .nil)) (.cons (.set 8 (.call 117 (.cons (.var 5) .nil))) (.cons (.ifs (.or (.cmp .notin (.var 4) (.var 8)) (.cmp .ne (.var 8) (.sset (.var 8)))) (.cons (.ret (.cst (.bl false))) .nil) (.nil)) (.cons (.ifs (.cmp .gt (.bi .len (.cons (.var 4) .nil)) (.cst (.int 6))) (.cons (.ret (.cmp .eq (.lc (.var 9) (.one 9) (.e (.var 8)) (.some (.not (.call 119 (.cons (.var 5) (.cons (.tup (.cons (.var 2) (.cons (.call 51 (.cons (.var 9) (.cons (.var 2) .nil))) .nil))) .nil)))))) (.lst .nil))) .nil) (.nil)) (.cons (.ret (.cmp .eq (.var 8) (.lc (.var 9) (.one 9) (.e (.var 6)) (.some (.call 119 (.cons (.var 5) (.cons (.tup (.cons (.var 2) (.cons (.call 51 (.cons (.var 9) (.cons (.var 2) .nil))) .nil))) .nil))))))) .nil)))))))))))⟩
/-- seen -/
def c121 : Fd := ⟨1, 4, true, (.cons (.expr (.call 107 (.cons (.var 0) .nil))) (.cons (.set 1 (.call 109 (.cons (.var 0) .nil))) (.cons (.ifs (.cmp .eq (.var 1) (.lst .nil)) (.cons .never .nil) (.nil)) (.cons (.ret (.lc (.var 2) (.one 2) (.e (.sset (.idx (.idx (.var 1) (.cst (.int 0))) (.cst (.int 1))))) (.some (.bi .all (.cons (.lc (.cmp .isin (.var 2) (.idx (.var 3) (.cst (.int 1)))) (.one 3) (.e (.var 1)) .none) .nil))))) .nil))))⟩
-- 122: law_k10: stmt try: _law_made = seen(_law_blurred_here) except SlitErro
/-- sure -/
def c123 : Fd := ⟨1, 5, false, (.cons (.expr (.call 33 (.cons (.var 0) .nil))) (.cons (.set 1 (.call 42 (.cons (.var 0) .nil))) (.cons (.ifs (.cmp .eq (.var 1) (.lst .nil)) (.cons .never .nil) (.nil)) (.cons (.set 2 (.cst (.str ("" : Str)))) (.cons (.for (.one 3) (.rng1 (.bi .len (.cons (.idx (.var 1) (.cst (.int 0))) .nil))) (.cons (.set 2 (.op .add (.var 2) (.ite (.cmp .eq (.lset (.lc (.idx (.var 4) (.var 3)) (.one 4) (.e (.var 1)) .none)) (.cst (.int 1))) (.idx (.idx (.var 1) (.cst (.int 0))) (.var 3)) (.glb ("GONE" : Str) (.str ("." : Str)))))) .nil)) (.cons (.ret (.var 2)) .nil))))))⟩
-- 124: law_k29: stmt try: _law_made = sure(_law_asked) except SlitError as _l
/-- other_width -/
def c125 : Fd := ⟨2, 5, true, (.cons (.set 2 (.lc (.call 11 (.cons (.var 3) (.cons (.var 1) .nil))) (.one 3) (.e (.call 42 (.cons (.var 0) .nil))) .none)) (.cons (.ret (.sset (.lc (.tup (.cons (.var 1) (.cons (.bi .tuple (.cons (.bi .sorted (.cons (.var 4) .nil)) .nil)) .nil))) (.one 4) (.e (.var 2)) (.some (.cmp .ne (.var 4) (.lst .nil)))))) .nil))⟩
/-- narrower -/
def c126 : Fd := ⟨1, 1, true, (.cons (.expr (.call 33 (.cons (.var 0) .nil))) (.cons (.ifs (.cmp .eq (.idx (.var 0) (.cst (.int 0))) (.cst (.int 1))) (.cons .never .nil) (.nil)) (.cons (.ifs (.cmp .eq (.bi .len (.cons (.idx (.var 0) (.cst (.int 1))) .nil)) (.glb ("WINDOWS" : Str) (.int 9))) (.cons .never .nil) (.nil)) (.cons (.ret (.call 125 (.cons (.var 0) (.cons (.op .sub (.idx (.var 0) (.cst (.int 0))) (.cst (.int 1))) .nil)))) .nil))))⟩
-- 127: _law_ask: stmt try: return narrower(_law_asked) except SlitError as _la
/-- _law_odd -/
def c128 : Fd := ⟨2, 3, false, (.cons (.set 2 (.lst (.cons (.cst .non) (.cons (.cst (.int 5)) (.cons (.cst (.str ("2: ab" : Str))) (.cons (.lst (.cons (.cst (.int 1)) (.cons (.tup (.cons (.cst (.str ("a" : Str))) .nil)) .nil))) (.cons (.tup (.cons (.cst (.int 1)) (.cons (.tup .nil) .nil))) (.cons (.tup (.cons (.cst (.int 2)) (.cons (.tup (.cons (.cst (.str ("a" : Str))) .nil)) .nil))) (.cons (.tup (.cons (.cst (.int 0)) (.cons (.tup (.cons (.cst (.str ("" : Str))) .nil)) .nil))) (.cons (.tup (.cons (.cst (.int 5)) (.cons (.tup (.cons (.cst (.str ("aaaaa" : Str))) .nil)) .nil))) (.cons (.tup (.cons (.cst (.bl true)) (.cons (.tup (.cons (.cst (.str ("a" : Str))) .nil)) .nil))) .nil))))))))))) (.cons (.set 2 (.op .add (.var 2) (.lst (.cons (.tup (.cons (.cst (.int 1)) (.cons (.tup (.cons (.cst (.str ("b" : Str))) (.cons (.cst (.str ("a" : Str))) .nil))) .nil))) (.cons (.tup (.cons (.cst (.int 1)) (.cons (.op .mul (.tup (.cons (.cst (.str ("a" : Str))) .nil)) (.cst (.int 10))) .nil))) (.cons (.tup (.cons (.cst (.int 1)) (.cons (.tup (.cons (.cst (.str ("d" : Str))) .nil)) .nil))) (.cons (.tup (.cons (.cst (.int 1)) (.cons (.tup (.cons (.cst (.str ("A" : Str))) .nil)) .nil))) (.cons (.tup (.cons (.cst (.int 1)) (.cons (.lst (.cons (.cst (.str ("a" : Str))) .nil)) .nil))) (.cons (.tup (.cons (.cst (.int 1)) (.cons (.tup (.cons (.cst (.int 1)) .nil)) .nil))) .nil))))))))) (.cons (.set 2 (.op .add (.var 2) (.lst (.cons (.tup (.cons (.cst (.int 1)) .nil)) (.cons (.tup (.cons (.cst (.int 1)) (.cons (.tup (.cons (.cst (.str ("a" : Str))) .nil)) (.cons (.cst (.int 1)) .nil)))) (.cons (.tup (.cons (.cst (.str ("1" : Str))) (.cons (.tup (.cons (.cst (.str ("a" : Str))) .nil)) .nil))) .nil)))))) (.cons (.ret (.call 3 (.cons (.var 0) (.cons (.var 1) (.cons (.var 2) .nil))))) .nil))))⟩
/-- law_k22 -/
def c129 : Fd := ⟨1, 8, false, (.cons (.set 1 (.cell (.lst .nil))) (.cons (.set 2 (.call 2 (.cons (.var 0) (.cons (.var 1) (.cons (.cst (.int 3)) .nil))))) (.cons (.set 3 (.call 52 (.cons (.var 0) (.cons (.var 1) (.cons (.var 2) (.cons (.ite (.cmp .gt (.var 2) (.cst (.int 0))) (.cst (.int 9)) (.cst (.int 7))) .nil)))))) (.cons (.set 4 (.op .sub (.idx (.var 3) (.cst (.int 0))) (.cst (.int 1)))) (.cons (.ifs (.cmp .ne (.call 127 (.cons (.call 128 (.cons (.var 0) (.cons (.var 1) .nil))) .nil)) (.tup (.cons (.cst (.str ("refused" : Str))) (.cons (.cst (.int 2)) .nil)))) (.cons (.ret (.cst (.bl false))) .nil) (.nil)) (.cons (.ifs (.cmp .eq (.var 4) (.cst (.int 0))) (.cons (.ret (.cmp .eq (.call 127 (.cons (.var 3) .nil)) (.tup (.cons (.cst (.str ("refused" : Str))) (.cons (.cst (.int 1)) .nil))))) .nil) (.nil)) (.cons (.ifs (.cmp .eq (.bi .len (.cons (.idx (.var 3) (.cst (.int 1))) .nil)) (.cst (.int 9))) (.cons (.ret (.cmp .eq (.call 127 (.cons (.var 3) .nil)) (.tup (.cons (.cst (.str ("refused" : Str))) (.cons (.cst (.int 5)) .nil))))) .nil) (.nil)) (.cons (.set 5 (.lc (.call 51 (.cons (.var 6) (.cons (.var 4) .nil))) (.one 6) (.e (.call 59 (.cons (.var 3) .nil))) .none)) (.cons (.ret (.cmp .eq (.call 127 (.cons (.var 3) .nil)) (.sset (.lc (.tup (.cons (.var 4) (.cons (.var 7) .nil))) (.one 7) (.e (.var 5)) (.some (.cmp .ne (.var 7) (.tup .nil))))))) .nil)))))))))⟩
/-- wider -/
def c130 : Fd := ⟨1, 1, true, (.cons (.expr (.call 33 (.cons (.var 0) .nil))) (.cons (.ifs (.cmp .eq (.idx (.var 0) (.cst (.int 0))) (.glb ("WIDTH" : Str) (.int 4))) (.cons .never .nil) (.nil)) (.cons (.ret (.call 125 (.cons (.var 0) (.cons (.op .add (.idx (.var 0) (.cst (.int 0))) (.cst (.int 1))) .nil)))) .nil)))⟩
-- 131: _law_ask: stmt try: return wider(_law_asked) except SlitError as _law_e
/-- law_k23 -/
def c132 : Fd := ⟨1, 8, false, (.cons (.set 1 (.cell (.lst .nil))) (.cons (.set 2 (.call 2 (.cons (.var 0) (.cons (.var 1) (.cons (.cst (.int 3)) .nil))))) (.cons (.set 3 (.call 52 (.cons (.var 0) (.cons (.var 1) (.cons (.var 2) (.cons (.ite (.cmp .gt (.var 2) (.cst (.int 0))) (.cst (.int 9)) (.cst (.int 7))) .nil)))))) (.cons (.set 4 (.op .add (.idx (.var 3) (.cst (.int 0))) (.cst (.int 1)))) (.cons (.ifs (.cmp .ne (.call 131 (.cons (.call 128 (.cons (.var 0) (.cons (.var 1) .nil))) .nil)) (.tup (.cons (.cst (.str ("refused" : Str))) (.cons (.cst (.int 2)) .nil)))) (.cons (.ret (.cst (.bl false))) .nil) (.nil)) (.cons (.ifs (.cmp .eq (.var 4) (.cst (.int 5))) (.cons (.ret (.cmp .eq (.call 131 (.cons (.var 3) .nil)) (.tup (.cons (.cst (.str ("refused" : Str))) (.cons (.cst (.int 1)) .nil))))) .nil) (.nil)) (.cons (.set 5 (.lc (.call 51 (.cons (.var 6) (.cons (.var 4) .nil))) (.one 6) (.e (.call 59 (.cons (.var 3) .nil))) .none)) (.cons (.ret (.cmp .eq (.call 131 (.cons (.var 3) .nil)) (.sset (.lc (.tup (.cons (.var 4) (.cons (.var 7) .nil))) (.one 7) (.e (.var 5)) (.some (.cmp .ne (.var 7) (.tup .nil))))))) .nil))))))))⟩
-- 133: _law_ask: stmt try: if _law_what < 3: return [alike, road, step
-- 134: law_k21: slice step
-- 135: _law_ask: stmt try: return by_all(_law_views) except SlitError as _law_
-- 136: law_k25: cell of _law_wrong = None
-- 137: _law_ask: stmt try: return clears(_law_one, _law_other) except SlitErro
/-- law_k07 -/
def c138 : Fd := ⟨1, 11, false, (.cons (.set 1 (.cell (.lst .nil))) (.cons (.set 2 (.call 2 (.cons (.var 0) (.cons (.var 1) (.cons (.cst (.int 8)) .nil))))) (.cons (.set 3 (.call 2 (.cons (.var 0) (.cons (.var 1) (.cons (.cst (.int 3)) .nil))))) (.cons (.set 4 (.call 52 (.cons (.var 0) (.cons (.var 1) (.cons (.var 3) (.cons (.cst (.int 8)) .nil)))))) (.cons (.set 5 (.call 105 (.cons (.var 0) (.cons (.var 1) (.cons (.var 4) (.cons (.cst (.int 6)) .nil)))))) (.cons (.ifs (.cmp .lt (.var 2) (.cst (.int 4))) (.cons (.set 6 (.cell (.bi .list (.cons (.idx (.var 4) (.cst (.int 1))) .nil)))) (.cons (.for (.one 7) (.rng1 (.op .add (.cst (.int 1)) (.var 2))) (.cons (.set 8 (.call 2 (.cons (.var 0) (.cons (.var 1) (.cons (.bi .len (.cons (.var 6) .nil)) .nil))))) (.cons (.set 9 (.call 2 (.cons (.var 0) (.cons (.var 1) (.cons (.idx (.var 4) (.cst (.int 0))) .nil))))) (.cons (.put (.var 6) (.var 8) (.op .add (.op .add (.sl (.idx (.var 6) (.var 8)) .none (.some (.var 9))) (.call 3 (.cons (.var 0) (.cons (.var 1) (.cons (.lst (.cons (.cst (.str ("a" : Str))) (.cons (.cst (.str ("b" : Str))) (.cons (.cst (.str ("c" : Str))) .nil)))) .nil))))) (.sl (.idx (.var 6) (.var 8)) (.some (.op .add (.var 9) (.cst (.int 1)))) .none))) .nil)))) (.cons (.set 4 (.tup (.cons (.idx (.var 4) (.cst (.int 0))) (.cons (.bi .tuple (.cons (.bi .sorted (.cons (.var 6) .nil)) .nil)) .nil)))) .nil))) (.nil)) (.cons (.ifs (.cmp .eq (.var 2) (.cst (.int 4))) (.cons (.set 4 (.call 52 (.cons (.var 0) (.cons (.var 1) (.cons (.cst (.int 0)) (.cons (.cst (.int 8)) .nil)))))) .nil) (.nil)) (.cons (.ifs (.cmp .eq (.var 2) (.cst (.int 5))) (.cons (.set 4 (.tup (.cons (.idx (.var 4) (.cst (.int 0))) (.cons (.bi .tuple (.cons (.bi .sorted (.cons (.op .add (.idx (.var 4) (.cst (.int 1))) (.sl (.idx (.var 4) (.cst (.int 1))) .none (.some (.cst (.int 1))))) .nil)) .nil)) .nil)))) .nil) (.nil)) (.cons (.ifs (.or (.cmp .ne (.call 115 (.cons (.var 5) (.cons (.var 4) .nil))) (.call 119 (.cons (.var 5) (.cons (.var 4) .nil)))) (.not (.call 115 (.cons (.var 4) (.cons (.var 4) .nil))))) (.cons (.ret (.cst (.bl false))) .nil) (.nil)) (.cons (.set 10 (.call 3 (.cons (.var 0) (.cons (.var 1) (.cons (.lst (.cons (.cst .non) (.cons (.cst (.int 5)) (.cons (.tup (.cons (.cst (.int 1)) (.cons (.tup .nil) .nil))) (.cons (.tup (.cons (.cst (.int 2)) (.cons (.tup (.cons (.cst (.str ("a" : Str))) .nil)) .nil))) (.cons (.lst (.cons (.cst (.int 1)) (.cons (.tup (.cons (.cst (.str ("a" : Str))) .nil)) .nil))) (.cons (.tup (.cons (.cst (.int 1)) (.cons (.tup (.cons (.cst (.str ("d" : Str))) .nil)) .nil))) (.cons (.tup (.cons (.cst (.int 2)) (.cons (.tup (.cons (.cst (.str ("ab" : Str))) (.cons (.cst (.str ("a." : Str))) .nil))) .nil))) .nil)))))))) .nil))))) (.cons (.set 10 (.call 3 (.cons (.var 0) (.cons (.var 1) (.cons (.lst (.cons (.var 10) (.cons (.var 10) (.cons (.tup (.cons (.cst (.int 5)) (.cons (.tup (.cons (.cst (.str ("aaaaa" : Str))) .nil)) .nil))) (.cons (.tup (.cons (.cst (.bl true)) (.cons (.tup (.cons (.cst (.str ("a" : Str))) .nil)) .nil))) (.cons (.tup (.cons (.cst (.int 1)) (.cons (.tup (.cons (.cst (.str ("b" : Str))) (.cons (.cst (.str ("a" : Str))) .nil))) .nil))) (.cons (.tup (.cons (.cst (.int 1)) (.cons (.lst (.cons (.cst (.str ("a" : Str))) .nil)) .nil))) .nil))))))) .nil))))) (.cons (.ifs (.or (.cmp .ne (.call 137 (.cons (.var 10) (.cons (.var 10) .nil))) (.tup (.cons (.cst (.str ("refused" : Str))) (.cons (.cst (.int 2)) .nil)))) (.cmp .ne (.call 137 (.cons (.var 4) (.cons (.var 10) .nil))) (.tup (.cons (.cst (.str ("refused" : Str))) (.cons (.cst (.int 2)) .nil))))) (.cons (.ret (.cst (.bl false))) .nil) (.nil)) (.cons (.ifs (.cmp .ne (.call 137 (.cons (.tup (.cons (.cst (.int 2)) (.cons (.tup (.cons (.cst (.str (".." : Str))) (.cons (.cst (.str (".." : Str))) (.cons (.cst (.str (".." : Str))) (.cons (.cst (.str (".." : Str))) .nil))))) .nil))) (.cons (.var 4) .nil))) (.tup (.cons (.cst (.str ("refused" : Str))) (.cons (.cst (.int 2)) .nil)))) (.cons (.ret (.cst (.bl false))) .nil) (.nil)) (.cons (.ret (.and (.cmp .eq (.call 137 (.cons (.var 5) (.cons (.tup (.cons (.cst (.int 1)) (.cons (.tup (.cons (.cst (.str ("." : Str))) .nil)) .nil))) .nil))) (.tup (.cons (.cst (.str ("refused" : Str))) (.cons (.cst (.int 2)) .nil)))) (.cmp .eq (.call 137 (.cons (.var 10) (.cons (.var 4) .nil))) (.tup (.cons (.cst (.str ("refused" : Str))) (.cons (.cst (.int 2)) .nil)))))) .nil))))))))))))))⟩
-- 139: _law_ask: stmt try: if _law_what == 3: return clears(_law_thing
/-- law_k11 -/
def c140 : Fd := ⟨1, 8, false, (.cons (.set 1 (.cell (.lst .nil))) (.cons (.set 2 (.call 2 (.cons (.var 0) (.cons (.var 1) (.cons (.cst (.int 4)) .nil))))) (.cons (.set 3 (.call 128 (.cons (.var 0) (.cons (.var 1) .nil)))) (.cons (.ifs (.cmp .eq (.var 2) (.cst (.int 0))) (.cons (.set 3 (.tup (.cons (.cst (.int 4)) (.cons (.tup (.cons (.cst (.str ("...." : Str))) (.cons (.op .add (.cst (.str ("..." : Str))) (.call 3 (.cons (.var 0) (.cons (.var 1) (.cons (.lst (.cons (.cst (.str ("a" : Str))) (.cons (.cst (.str ("b" : Str))) (.cons (.cst (.str ("c" : Str))) .nil)))) .nil))))) .nil))) .nil)))) .nil) (.nil)) (.cons (.ifs (.cmp .eq (.var 2) (.cst (.int 1))) (.cons (.set 3 (.tup (.cons (.cst (.int 2)) (.cons (.tup (.cons (.op .add (.cst (.str ("a" : Str))) (.call 3 (.cons (.var 0) (.cons (.var 1) (.cons (.lst (.cons (.cst (.str ("a" : Str))) (.cons (.cst (.str ("b" : Str))) (.cons (.cst (.str ("c" : Str))) .nil)))) .nil))))) (.cons (.cst (.str (".b" : Str))) .nil))) .nil)))) .nil) (.nil)) (.cons (.ifs (.cmp .ne (.lc (.call 139 (.cons (.var 4) (.cons (.var 3) .nil))) (.one 4) (.rng1 (.cst (.int 6))) .none) (.op .mul (.lst (.cons (.tup (.cons (.cst (.str ("refused" : Str))) (.cons (.cst (.int 2)) .nil))) .nil)) (.cst (.int 6)))) (.cons (.ret (.cst (.bl false))) .nil) (.nil)) (.cons (.set 5 (.call 52 (.cons (.var 0) (.cons (.var 1) (.cons (.cst (.int 0)) (.cons (.cst (.int 6)) .nil)))))) (.cons (.set 6 (.tup (.cons (.idx (.var 5) (.cst (.int 0))) (.cons (.bi .tuple (.cons (.bi .sorted (.cons (.lc (.op .add (.cst (.str ("." : Str))) (.sl (.var 7) (.some (.cst (.int 1))) .none)) (.one 7) (.e (.idx (.var 5) (.cst (.int 1)))) .none) .nil)) .nil)) .nil)))) (.cons (.ifs (.or (.cmp .gt (.bi .len (.cons (.idx (.var 5) (.cst (.int 1))) .nil)) (.cst (.int 6))) (.cmp .isin (.cst (.str ("refused" : Str))) (.lc (.idx (.call 139 (.cons (.var 4) (.cons (.var 6) .nil))) (.cst (.int 0))) (.one 4) (.rng1 (.cst (.int 2))) .none))) (.cons (.ret (.cst (.bl false))) .nil) (.nil)) (.cons (.ret (.cmp .eq (.lc (.call 139 (.cons (.var 4) (.cons (.var 6) .nil))) (.one 4) (.e (.tup (.cons (.cst (.int 4)) (.cons (.cst (.int 5)) .nil)))) .none) (.op .mul (.lst (.cons (.tup (.cons (.cst (.str ("refused" : Str))) (.cons (.cst (.int 2)) .nil))) .nil)) (.cst (.int 2))))) .nil))))))))))⟩
/-- written -/
def c141 : Fd := ⟨1, 1, false, (.cons (.ifs (.not (.call 106 (.cons (.var 0) .nil))) (.cons .never .nil) (.nil)) (.cons (.ret (.mth .join (.cst (.str (" " : Str))) (.cons (.op .add (.lst (.cons (.op .add (.bi .str (.cons (.idx (.var 0) (.cst (.int 0))) .nil)) (.cst (.str (":" : Str)))) .nil)) (.bi .list (.cons (.idx (.var 0) (.cst (.int 1))) .nil))) .nil))) .nil))⟩
-- 142: _law_ask: stmt try: return written(_law_thing) except SlitError as _law
/-- parted -/
def c143 : Fd := ⟨2, 4, false, (.cons (.ifs (.not (.bi .isStr (.cons (.var 0) .nil))) (.cons .never .nil) (.nil)) (.cons (.set 2 (.mth .split (.var 0) (.cons (.cst (.str (" " : Str))) .nil))) (.cons (.ifs (.cmp .notin (.idx (.var 2) (.cst (.int 0))) (.lc (.op .add (.bi .str (.cons (.var 3) .nil)) (.var 1)) (.one 3) (.rng2 (.cst (.int 1)) (.op .add (.glb ("WIDTH" : Str) (.int 4)) (.cst (.int 1)))) .none)) (.cons .never .nil) (.nil)) (.cons (.ret (.tup (.cons (.bi .int (.cons (.idx (.idx (.var 2) (.cst (.int 0))) (.cst (.int 0))) .nil)) (.cons (.bi .tuple (.cons (.sl (.var 2) (.some (.cst (.int 1))) .none) .nil)) .nil)))) .nil))))⟩
/-- read -/
def c144 : Fd := ⟨1, 2, false, (.cons (.set 1 (.call 143 (.cons (.var 0) (.cons (.cst (.str (":" : Str))) .nil)))) (.cons (.ifs (.not (.call 106 (.cons (.var 1) .nil))) (.cons .never .nil) (.nil)) (.cons (.ret (.var 1)) .nil)))⟩
/-- law_k37 -/
def c145 : Fd := ⟨1, 6, false, (.cons (.set 1 (.cell (.lst .nil))) (.cons (.set 2 (.call 2 (.cons (.var 0) (.cons (.var 1) (.cons (.cst (.int 3)) .nil))))) (.cons (.set 3 (.call 52 (.cons (.var 0) (.cons (.var 1) (.cons (.var 2) (.cons (.cst (.int 9)) .nil)))))) (.cons (.set 3 (.call 105 (.cons (.var 0) (.cons (.var 1) (.cons (.var 3) (.cons (.cst (.int 6)) .nil)))))) (.cons (.set 4 (.op .add (.bi .str (.cons (.idx (.var 3) (.cst (.int 0))) .nil)) (.cst (.str (":" : Str))))) (.cons (.for (.one 5) (.e (.idx (.var 3) (.cst (.int 1)))) (.cons (.set 4 (.op .add (.op .add (.var 4) (.cst (.str (" " : Str)))) (.var 5))) .nil)) (.cons (.ifs (.or (.cmp .ne (.call 141 (.cons (.var 3) .nil)) (.var 4)) (.or (.cmp .ne (.call 144 (.cons (.var 4) .nil)) (.var 3)) (.cmp .ne (.call 142 (.cons (.call 128 (.cons (.var 0) (.cons (.var 1) .nil))) .nil)) (.tup (.cons (.cst (.str ("refused" : Str))) (.cons (.cst (.int 2)) .nil)))))) (.cons (.ret (.cst (.bl false))) .nil) (.nil)) (.cons (.ret (.cmp .eq (.call 142 (.cons (.tup (.cons (.cst (.int 2)) (.cons (.tup (.cons (.cst (.str (".." : Str))) (.cons (.cst (.str (".." : Str))) (.cons (.cst (.str (".." : Str))) (.cons (.cst (.str (".a" : Str))) .nil))))) .nil))) .nil)) (.tup (.cons (.cst (.str ("refused" : Str))) (.cons (.cst (.int 2)) .nil))))) .nil))))))))⟩
/-- _law_is_view -/
def c146 : Fd := ⟨2, 4, false, (.cons (.ifs (.or (.cmp .notin (.var 0) (.tup (.cons (.cst (.str ("1:" : Str))) (.cons (.cst (.str ("2:" : Str))) (.cons (.cst (.str ("3:" : Str))) (.cons (.cst (.str ("4:" : Str))) .nil)))))) (.or (.not (.chn .le .le (.cst (.int 1)) (.bi .len (.cons (.var 1) .nil)) (.cst (.int 9)))) (.cmp .ne (.var 1) (.bi .sorted (.cons (.var 1) .nil))))) (.cons (.ret (.cst (.bl false))) .nil) (.nil)) (.cons (.set 2 (.lc (.var 3) (.one 3) (.e (.var 1)) (.some (.or (.cmp .ne (.bi .len (.cons (.var 3) .nil)) (.bi .int (.cons (.idx (.var 0) (.cst (.int 0))) .nil))) (.cmp .ne (.mth .strip (.var 3) (.cons (.cst (.str ("abc." : Str))) .nil)) (.cst (.str ("" : Str)))))))) (.cons (.ret (.and (.cmp .eq (.var 2) (.lst .nil)) (.cmp .le (.mth .scount (.mth .join (.cst (.str ("" : Str))) (.cons (.var 1) .nil)) (.cons (.cst (.str ("." : Str))) .nil)) (.cst (.int 6))))) .nil)))⟩
-- 147: _law_ask: stmt try: return read(_law_thing) except SlitError as _law_e:
/-- law_k38 -/
def c148 : Fd := ⟨1, 11, false, (.cons (.set 1 (.cell (.lst .nil))) (.cons (.set 2 (.call 2 (.cons (.var 0) (.cons (.var 1) (.cons (.cst (.int 3)) .nil))))) (.cons (.set 3 (.call 2 (.cons (.var 0) (.cons (.var 1) (.cons (.cst (.int 3)) .nil))))) (.cons (.set 4 (.call 105 (.cons (.var 0) (.cons (.var 1) (.cons (.call 52 (.cons (.var 0) (.cons (.var 1) (.cons (.var 2) (.cons (.cst (.int 9)) .nil))))) (.cons (.cst (.int 6)) .nil)))))) (.cons (.set 5 (.call 141 (.cons (.var 4) .nil))) (.cons (.for (.one 6) (.rng1 (.var 3)) (.cons (.set 7 (.call 2 (.cons (.var 0) (.cons (.var 1) (.cons (.op .add (.bi .len (.cons (.var 5) .nil)) (.cst (.int 1))) .nil))))) (.cons (.set 8 (.call 3 (.cons (.var 0) (.cons (.var 1) (.cons (.lst (.cons (.cst (.str ("" : Str))) (.cons (.cst (.str ("a" : Str))) (.cons (.cst (.str ("b" : Str))) (.cons (.cst (.str (" " : Str))) (.cons (.cst (.str ("." : Str))) (.cons (.cst (.str (":" : Str))) (.cons (.cst (.str ("1" : Str))) (.cons (.cst (.str ("2" : Str))) (.cons (.cst (.str ("d" : Str))) (.cons (.cst (.str ("0" : Str))) (.cons (.cst (.str ("A" : Str))) (.cons (.cst (.str ("  " : Str))) .nil))))))))))))) .nil))))) (.cons (.set 5 (.op .add (.op .add (.sl (.var 5) .none (.some (.var 7))) (.var 8)) (.sl (.var 5) (.some (.op .add (.var 7) (.call 2 (.cons (.var 0) (.cons (.var 1) (.cons (.cst (.int 2)) .nil)))))) .none))) .nil)))) (.cons (.set 9 (.mth .split (.var 5) (.cons (.cst (.str (" " : Str))) .nil))) (.cons (.set 10 (.call 3 (.cons (.var 0) (.cons (.var 1) (.cons (.lst (.cons (.cst .non) (.cons (.cst (.str ("" : Str))) (.cons (.cst (.int 5)) (.cons (.cst (.str ("2:" : Str))) (.cons (.cst (.str ("2: " : Str))) (.cons (.cst (.str ("5: aaaaa" : Str))) (.cons (.cst (.str ("2:ab" : Str))) (.cons (.cst (.str (": a" : Str))) (.cons (.cst (.str ("1; a" : Str))) .nil)))))))))) .nil))))) (.cons (.ifs (.cmp .ne (.call 147 (.cons (.var 10) .nil)) (.tup (.cons (.cst (.str ("refused" : Str))) (.cons (.cst (.int 10)) .nil)))) (.cons (.ret (.cst (.bl false))) .nil) (.nil)) (.cons (.ifs (.call 146 (.cons (.idx (.var 9) (.cst (.int 0))) (.cons (.sl (.var 9) (.some (.cst (.int 1))) .none) .nil))) (.cons (.ret (.and (.cmp .eq (.call 147 (.cons (.var 5) .nil)) (.tup (.cons (.bi .int (.cons (.idx (.var 5) (.cst (.int 0))) .nil)) (.cons (.bi .tuple (.cons (.sl (.var 9) (.some (.cst (.int 1))) .none) .nil)) .nil)))) (.cmp .eq (.call 141 (.cons (.call 144 (.cons (.var 5) .nil)) .nil)) (.var 5)))) .nil) (.nil)) (.cons (.ret (.cmp .eq (.call 147 (.cons (.var 5) .nil)) (.tup (.cons (.cst (.str ("refused" : Str))) (.cons (.cst (.int 10)) .nil))))) .nil)))))))))))⟩
/-- renamed -/
def c149 : Fd := ⟨2, 5, false, (.cons (.expr (.call 33 (.cons (.var 0) .nil))) (.cons (.ifs (.or (.not (.call 6 (.cons (.var 1) (.cons (.bi .len (.cons (.glb ("LETTERS" : Str) (.str ("abc" : Str))) .nil)) (.cons (.bi .len (.cons (.glb ("LETTERS" : Str) (.str ("abc" : Str))) .nil)) .nil))))) (.cmp .ne (.lset (.var 1)) (.bi .len (.cons (.glb ("LETTERS" : Str) (.str ("abc" : Str))) .nil)))) (.cons .never .nil) (.nil)) (.cons (.set 2 (.cell (.lst .nil))) (.cons (.for (.one 3) (.e (.idx (.var 0) (.cst (.int 1)))) (.cons (.expr (.mth .append (.var 2) (.cons (.mth .join (.cst (.str ("" : Str))) (.cons (.lc (.idx (.var 1) (.mth .sindex (.glb ("LETTERS" : Str) (.str ("abc" : Str))) (.cons (.var 4) .nil))) (.one 4) (.e (.var 3)) .none) .nil)) .nil))) .nil)) (.cons (.ret (.tup (.cons (.idx (.var 0) (.cst (.int 0))) (.cons (.bi .tuple (.cons (.bi .sorted (.cons (.var 2) .nil)) .nil)) .nil)))) .nil)))))⟩
-- 150: _law_ask: stmt try: return renamed(_law_asked, _law_letters) except Sli
/-- _law_rename -/
def c151 : Fd := ⟨2, 3, false, (.cons (.ret (.mth .join (.cst (.str ("" : Str))) (.cons (.lc (.idx (.var 1) (.mth .find (.cst (.str ("abc" : Str))) (.cons (.var 2) .nil))) (.one 2) (.e (.var 0)) .none) .nil))) .nil)⟩
/-- law_k36 -/
def c152 : Fd := ⟨1, 9, false, (.cons (.set 1 (.cell (.lst .nil))) (.cons (.set 2 (.call 2 (.cons (.var 0) (.cons (.var 1) (.cons (.cst (.int 3)) .nil))))) (.cons (.set 3 (.call 3 (.cons (.var 0) (.cons (.var 1) (.cons (.lst (.cons (.cst (.str ("abc" : Str))) (.cons (.cst (.str ("acb" : Str))) (.cons (.cst (.str ("bac" : Str))) (.cons (.cst (.str ("bca" : Str))) (.cons (.cst (.str ("cab" : Str))) (.cons (.cst (.str ("cba" : Str))) .nil))))))) .nil))))) (.cons (.set 4 (.call 3 (.cons (.var 0) (.cons (.var 1) (.cons (.lst (.cons (.cst (.str ("aab" : Str))) (.cons (.cst (.str ("ab" : Str))) (.cons (.cst (.str ("abca" : Str))) (.cons (.cst (.str ("" : Str))) (.cons (.cst .non) (.cons (.cst (.int 3)) (.cons (.cst (.str ("AbC" : Str))) (.cons (.cst (.str ("abd" : Str))) (.cons (.tup (.cons (.cst (.str ("a" : Str))) (.cons (.cst (.str ("b" : Str))) (.cons (.cst (.str ("c" : Str))) .nil)))) (.cons (.cst (.str ("ccc" : Str))) (.cons (.cst (.str ("ab " : Str))) .nil)))))))))))) .nil))))) (.cons (.set 5 (.call 52 (.cons (.var 0) (.cons (.var 1) (.cons (.var 2) (.cons (.cst (.int 7)) .nil)))))) (.cons (.set 6 (.call 149 (.cons (.var 5) (.cons (.var 3) .nil)))) (.cons (.ifs (.cmp .ne (.var 6) (.tup (.cons (.idx (.var 5) (.cst (.int 0))) (.cons (.bi .tuple (.cons (.bi .sorted (.cons (.lc (.call 151 (.cons (.var 7) (.cons (.var 3) .nil))) (.one 7) (.e (.idx (.var 5) (.cst (.int 1)))) .none) .nil)) .nil)) .nil)))) (.cons (.ret (.cst (.bl false))) .nil) (.nil)) (.cons (.ifs (.cmp .ne (.call 43 (.cons (.var 6) .nil)) (.bi .sorted (.cons (.lc (.call 151 (.cons (.var 8) (.cons (.var 3) .nil))) (.one 8) (.e (.call 43 (.cons (.var 5) .nil))) .none) .nil))) (.cons (.ret (.cst (.bl false))) .nil) (.nil)) (.cons (.ifs (.or (.cmp .ne (.call 97 (.cons (.var 6) .nil)) (.call 97 (.cons (.var 5) .nil))) (.cmp .ne (.call 49 (.cons (.var 6) .nil)) (.call 49 (.cons (.var 5) .nil)))) (.cons (.ret (.cst (.bl false))) .nil) (.nil)) (.cons (.ifs (.or (.cmp .ne (.bi .len (.cons (.call 57 (.cons (.var 6) .nil)) .nil)) (.bi .len (.cons (.call 57 (.cons (.var 5) .nil)) .nil))) (.cmp .ne (.call 150 (.cons (.var 5) (.cons (.var 4) .nil))) (.tup (.cons (.cst (.str ("refused" : Str))) (.cons (.cst (.int 9)) .nil))))) (.cons (.ret (.cst (.bl false))) .nil) (.nil)) (.cons (.ret (.cmp .eq (.call 150 (.cons (.call 128 (.cons (.var 0) (.cons (.var 1) .nil))) (.cons (.var 4) .nil))) (.tup (.cons (.cst (.str ("refused" : Str))) (.cons (.cst (.int 2)) .nil))))) .nil)))))))))))⟩
-- 153: mirrored: slice step
-- 154: _law_ask: stmt try: return mirrored(_law_thing) except SlitError as _la
-- 155: law_k35: slice step
/-- parts_of -/
def c156 : Fd := ⟨1, 7, true, (.cons (.set 1 (.lst (.cons (.tup (.cons (.tup .nil) (.cons (.tup .nil) .nil))) .nil))) (.cons (.for (.one 2) (.e (.var 0)) (.cons (.set 3 (.lc (.tup (.cons (.op .add (.var 4) (.tup (.cons (.var 2) .nil))) (.cons (.var 5) .nil))) (.two 4 5) (.e (.var 1)) .none)) (.cons (.set 1 (.sset (.op .add (.var 3) (.lc (.tup (.cons (.var 4) (.cons (.op .add (.var 5) (.tup (.cons (.var 2) .nil))) .nil))) (.two 4 5) (.e (.var 1)) .none)))) .nil))) (.cons (.ret (.lc (.var 6) (.one 6) (.e (.var 1)) (.some (.cmp .notin (.tup .nil) (.var 6))))) .nil)))⟩
/-- pairs -/
def c157 : Fd := ⟨1, 8, true, (.cons (.expr (.call 33 (.cons (.var 0) .nil))) (.cons (.setT 1 2 (.var 0)) (.cons (.ifs (.cmp .gt (.bi .len (.cons (.var 2) .nil)) (.glb ("MANY" : Str) (.int 6))) (.cons .never .nil) (.nil)) (.cons (.set 3 (.cell (.lst .nil))) (.cons (.for (.two 4 5) (.e (.call 156 (.cons (.var 2) .nil))) (.cons (.for (.one 6) (.e (.call 42 (.cons (.tup (.cons (.var 1) (.cons (.var 4) .nil))) .nil))) (.cons (.expr (.mth .extend (.var 3) (.cons (.lc (.tup (.cons (.var 6) (.cons (.var 7) .nil))) (.one 7) (.e (.call 42 (.cons (.tup (.cons (.var 1) (.cons (.var 5) .nil))) .nil))) (.some (.cmp .le (.var 6) (.var 7)))) .nil))) .nil)) .nil)) (.cons (.ret (.sset (.var 3))) .nil))))))⟩
-- 158: law_k26: stmt try: pairs((_law_width, ('a' * _law_width,) * 7)) except
/-- trails -/
def c159 : Fd := ⟨2, 7, true, (.cons (.set 2 (.dict .nil)) (.cons (.set 3 (.cell (.lc (.tup (.cons (.var 4) (.cons (.call 34 (.cons (.var 0) (.cons (.var 4) .nil))) .nil))) (.one 4) (.e (.sset (.var 0))) .none))) (.cons (.whl (.cmp .ne (.var 3) (.lst .nil)) (.cons (.setT 5 6 (.mth .pop (.var 3) .nil)) (.cons (.put (.var 2) (.var 5) (.var 6)) (.cons (.for (.one 4) (.e (.sset (.var 6))) (.cons (.ifs (.and (.cmp .eq (.sl (.var 4) .none (.some (.neg (.cst (.int 1))))) (.sl (.var 5) (.some (.op .add (.op .sub (.bi .len (.cons (.var 5) .nil)) (.var 1)) (.cst (.int 1)))) .none)) (.cmp .notin (.op .add (.var 5) (.idx (.var 4) (.neg (.cst (.int 1))))) (.var 2))) (.cons (.expr (.mth .append (.var 3) (.cons (.tup (.cons (.op .add (.var 5) (.idx (.var 4) (.neg (.cst (.int 1))))) (.cons (.call 34 (.cons (.var 6) (.cons (.var 4) .nil))) .nil))) .nil))) (.cons (.put (.var 2) (.op .add (.var 5) (.idx (.var 4) (.neg (.cst (.int 1))))) (.call 34 (.cons (.var 6) (.cons (.var 4) .nil)))) .nil)) (.nil)) .nil)) .nil)))) (.cons (.ret (.lc (.tup (.cons (.var 5) (.cons (.idx (.var 2) (.var 5)) .nil))) (.one 5) (.e (.bi .sorted (.cons (.bi .list (.cons (.var 2) .nil)) .nil))) .none)) .nil))))⟩
/-- covered -/
def c160 : Fd := ⟨4, 7, false, (.cons (.ifs (.or (.cmp .eq (.var 0) (.tup .nil)) (.cmp .eq (.var 2) (.cst (.int 0)))) (.cons (.ret (.ite (.and (.cmp .eq (.var 0) (.tup .nil)) (.cmp .eq (.var 2) (.cst (.int 0)))) (.lst .nil) (.cst .non))) .nil) (.nil)) (.cons (.for (.two 4 5) (.e (.call 159 (.cons (.var 0) (.cons (.var 1) .nil)))) (.cons (.ifs (.and (.cmp .ge (.var 4) (.var 3)) (.or (.cmp .eq (.var 5) (.tup .nil)) (.cmp .lt (.call 96 (.cons (.tup (.cons (.var 1) (.cons (.var 5) .nil))) .nil)) (.var 2)))) (.cons (.set 6 (.call 160 (.cons (.var 5) (.cons (.var 1) (.cons (.op .sub (.var 2) (.cst (.int 1))) (.cons (.var 4) .nil)))))) (.cons (.ifs (.cmp .isnot (.var 6) (.cst .non)) (.cons (.ret (.op .add (.lst (.cons (.var 4) .nil)) (.var 6))) .nil) (.nil)) .nil)) (.nil)) .nil)) (.cons (.ret (.cst .non)) .nil)))⟩
/-- bundle -/
def c161 : Fd := ⟨1, 1, false, (.cons (.expr (.call 33 (.cons (.var 0) .nil))) (.cons (.ifs (.cmp .gt (.bi .len (.cons (.idx (.var 0) (.cst (.int 1))) .nil)) (.glb ("MANY" : Str) (.int 6))) (.cons .never .nil) (.nil)) (.cons (.ret (.call 160 (.cons (.idx (.var 0) (.cst (.int 1))) (.cons (.idx (.var 0) (.cst (.int 0))) (.cons (.call 96 (.cons (.var 0) .nil)) (.cons (.cst (.str ("" : Str))) .nil)))))) .nil)))⟩
/-- _law_lists -/
def c162 : Fd := ⟨4, 8, false, (.cons (.ifs (.cmp .eq (.var 2) (.cst (.int 0))) (.cons (.ret (.ite (.cmp .eq (.var 1) (.tup .nil)) (.lst (.cons (.lst .nil) .nil)) (.lst .nil))) .nil) (.nil)) (.cons (.set 4 (.cell (.lst .nil))) (.cons (.for (.two 5 6) (.e (.call 98 (.cons (.var 0) (.cons (.var 1) .nil)))) (.cons (.ifs (.cmp .ge (.var 5) (.var 3)) (.cons (.expr (.mth .extend (.var 4) (.cons (.lc (.op .add (.lst (.cons (.var 5) .nil)) (.var 7)) (.one 7) (.e (.call 162 (.cons (.var 0) (.cons (.var 6) (.cons (.op .sub (.var 2) (.cst (.int 1))) (.cons (.var 5) .nil)))))) .none) .nil))) .nil) (.nil)) .nil)) (.cons (.ret (.snap 4)) .nil))))⟩
-- 163: law_k28: stmt try: bundle((_law_width, ('b' * _law_width,) * 7)) excep
-- 164: _law_ask: stmt try: return [pairs, fewest_texts, bundle, sure][_law_wha
/-- law_k30 -/
def c165 : Fd := ⟨1, 9, false, (.cons (.set 1 (.cell (.lst .nil))) (.cons (.set 2 (.call 3 (.cons (.var 0) (.cons (.var 1) (.cons (.lst (.cons (.call 128 (.cons (.var 0) (.cons (.var 1) .nil))) (.cons (.tup (.cons (.cst (.int 1)) (.cons (.tup (.cons (.cst (.str ("." : Str))) .nil)) .nil))) (.cons (.tup (.cons (.cst (.int 2)) (.cons (.tup (.cons (.cst (.str ("a." : Str))) (.cons (.cst (.str ("ab" : Str))) .nil))) .nil))) .nil)))) .nil))))) (.cons (.ifs (.cmp .ne (.lc (.call 164 (.cons (.var 3) (.cons (.var 2) .nil))) (.one 3) (.rng1 (.cst (.int 4))) .none) (.op .mul (.lst (.cons (.tup (.cons (.cst (.str ("refused" : Str))) (.cons (.cst (.int 2)) .nil))) .nil)) (.cst (.int 4)))) (.cons (.ret (.cst (.bl false))) .nil) (.nil)) (.cons (.set 4 (.op .add (.cst (.int 2)) (.call 2 (.cons (.var 0) (.cons (.var 1) (.cons (.cst (.int 3)) .nil)))))) (.cons (.set 5 (.call 4 (.cons (.var 0) (.cons (.var 1) (.cons (.op .add (.var 4) (.cst (.int 8))) (.cons (.op .add (.var 4) (.cst (.int 8))) .nil)))))) (.cons (.for (.one 6) (.e (.tup (.cons (.cst (.int 1)) (.cons (.cst (.int 5)) (.cons (.cst (.int 6)) (.cons (.cst (.int 7)) (.cons (.cst (.int 9)) .nil))))))) (.cons (.set 7 (.tup (.cons (.var 4) (.cons (.call 51 (.cons (.sl (.var 5) .none (.some (.op .sub (.op .add (.var 4) (.var 6)) (.cst (.int 1))))) (.cons (.var 4) .nil))) .nil)))) (.cons (.set 8 (.lc (.call 164 (.cons (.var 3) (.cons (.var 7) .nil))) (.one 3) (.rng1 (.cst (.int 4))) .none)) (.cons (.ifs (.or (.cmp .ne (.cmp .eq (.idx (.var 8) (.cst (.int 0))) (.tup (.cons (.cst (.str ("refused" : Str))) (.cons (.cst (.int 5)) .nil)))) (.cmp .gt (.var 6) (.cst (.int 6)))) (.cmp .ne (.cmp .eq (.idx (.var 8) (.cst (.int 2))) (.tup (.cons (.cst (.str ("refused" : Str))) (.cons (.cst (.int 5)) .nil)))) (.cmp .gt (.var 6) (.cst (.int 6))))) (.cons (.ret (.cst (.bl false))) .nil) (.nil)) (.cons (.ifs (.or (.cmp .ne (.idx (.var 8) (.cst (.int 1))) (.cst (.int 1))) (.not (.bi .isStr (.cons (.idx (.var 8) (.cst (.int 3))) .nil)))) (.cons (.ret (.cst (.bl false))) .nil) (.nil)) .nil))))) (.cons (.ret (.cst (.bl true))) .nil)))))))⟩
/-- _law_next -/
def c166 : Fd := ⟨2, 8, true, (.cons (.set 2 (.lst (.cons (.cst (.str ("" : Str))) .nil))) (.cons (.for (.one 3) (.rng1 (.var 0)) (.cons (.set 4 (.cell (.lst .nil))) (.cons (.for (.one 5) (.e (.var 2)) (.cons (.expr (.mth .extend (.var 4) (.cons (.lc (.op .add (.var 5) (.var 6)) (.one 6) (.e (.cst (.str ("abc" : Str)))) .none) .nil))) .nil)) (.cons (.set 2 (.var 4)) .nil)))) (.cons (.ret (.lc (.var 7) (.one 7) (.e (.var 2)) (.some (.cmp .gt (.call 49 (.cons (.tup (.cons (.var 0) (.cons (.bi .tuple (.cons (.bi .sorted (.cons (.op .add (.var 1) (.lst (.cons (.var 7) .nil))) .nil)) .nil)) .nil))) .nil)) (.cst (.int 0)))))) .nil)))⟩
-- 167: _law_do: stmt try: return _law_slit.undo() if _law_window == 'undo' el
-- 168: law_k06: method told
-- 169: slit_of: stmt try: for window in windows: slit.come(window) ex
-- 170: slit_text: Attribute
-- 171: _law_ask: stmt try: return slit_of(_law_thing).windows() except SlitErr
-- 172: law_k39: method undo
-- 173: _law_ask: stmt try: return Seeker(_law_thing).left() except SlitError a
/-- law_k34 -/
def c174 : Fd := ⟨1, 7, false, (.cons (.set 1 (.cell (.lst .nil))) (.cons (.set 2 (.call 2 (.cons (.var 0) (.cons (.var 1) (.cons (.cst (.int 4)) .nil))))) (.cons (.ifs (.or (.cmp .ne (.call 173 (.cons (.call 128 (.cons (.var 0) (.cons (.var 1) .nil))) .nil)) (.tup (.cons (.cst (.str ("refused" : Str))) (.cons (.cst (.int 2)) .nil)))) (.cmp .ne (.call 173 (.cons (.tup (.cons (.cst (.int 1)) (.cons (.tup (.cons (.cst (.str ("." : Str))) .nil)) .nil))) .nil)) (.tup (.cons (.cst (.str ("refused" : Str))) (.cons (.cst (.int 2)) .nil))))) (.cons (.ret (.cst (.bl false))) .nil) (.nil)) (.cons (.set 3 (.call 52 (.cons (.var 0) (.cons (.var 1) (.cons (.op .mod (.var 2) (.cst (.int 3))) (.cons (.cst (.int 7)) .nil)))))) (.cons (.ifs (.cmp .eq (.var 2) (.cst (.int 3))) (.cons (.set 4 (.op .add (.cst (.int 1)) (.call 2 (.cons (.var 0) (.cons (.var 1) (.cons (.cst (.int 3)) .nil)))))) (.cons (.set 3 (.tup (.cons (.cst (.int 1)) (.cons (.bi .tuple (.cons (.bi .sorted (.cons (.op .add (.op .mul (.cst (.str ("a" : Str))) (.var 4)) (.op .mul (.cst (.str ("b" : Str))) (.op .add (.cst (.int 1)) (.call 2 (.cons (.var 0) (.cons (.var 1) (.cons (.cst (.int 4)) .nil))))))) .nil)) .nil)) .nil)))) .nil)) (.nil)) (.cons (.set 5 (.call 59 (.cons (.var 3) .nil))) (.cons (.set 6 (.ite (.cmp .ne (.var 5) (.lst .nil)) (.var 5) (.tup (.cons (.cst (.str ("refused" : Str))) (.cons (.cst (.int 4)) .nil))))) (.cons (.set 6 (.ite (.cmp .le (.bi .len (.cons (.var 5) .nil)) (.cst (.int 16))) (.var 6) (.tup (.cons (.cst (.str ("refused" : Str))) (.cons (.cst (.int 5)) .nil))))) (.cons (.ifs (.or (.cmp .ne (.call 173 (.cons (.tup (.cons (.cst (.int 1)) (.cons (.bi .tuple (.cons (.cst (.str ("aaabbb" : Str))) .nil)) .nil))) .nil)) (.tup (.cons (.cst (.str ("refused" : Str))) (.cons (.cst (.int 5)) .nil)))) (.cmp .ne (.bi .len (.cons (.call 173 (.cons (.tup (.cons (.cst (.int 1)) (.cons (.bi .tuple (.cons (.cst (.str ("aaaabb" : Str))) .nil)) .nil))) .nil)) .nil)) (.cst (.int 15)))) (.cons (.ret (.cst (.bl false))) .nil) (.nil)) (.cons (.ret (.cmp .eq (.call 173 (.cons (.var 3) .nil)) (.var 6))) .nil))))))))))⟩
/-- _law_text -/
def c175 : Fd := ⟨4, 7, false, (.cons (.set 4 (.call 3 (.cons (.var 0) (.cons (.var 1) (.cons (.lst (.cons (.cst (.int 1)) (.cons (.cst (.int 2)) (.cons (.cst (.int 2)) (.cons (.cst (.int 3)) (.cons (.cst (.int 3)) (.cons (.cst (.int 3)) .nil))))))) .nil))))) (.cons (.set 5 (.cst (.str ("" : Str)))) (.cons (.for (.one 6) (.rng1 (.op .add (.var 2) (.call 2 (.cons (.var 0) (.cons (.var 1) (.cons (.op .add (.op .sub (.var 3) (.var 2)) (.cst (.int 1))) .nil)))))) (.cons (.set 5 (.op .add (.var 5) (.idx (.cst (.str ("abc" : Str))) (.call 2 (.cons (.var 0) (.cons (.var 1) (.cons (.var 4) .nil))))))) .nil)) (.cons (.ret (.var 5)) .nil))))⟩
/-- _law_like -/
def c176 : Fd := ⟨4, 6, false, (.cons (.set 4 (.op .add (.cst (.int 1)) (.call 3 (.cons (.var 0) (.cons (.var 1) (.cons (.lst (.cons (.cst (.int 1)) (.cons (.cst (.int 1)) (.cons (.cst (.int 2)) (.cons (.cst (.int 2)) (.cons (.cst (.int 3)) .nil)))))) .nil)))))) (.cons (.set 5 (.call 175 (.cons (.var 0) (.cons (.var 1) (.cons (.var 2) (.cons (.cst (.int 4)) .nil)))))) (.cons (.whl (.cmp .lt (.bi .len (.cons (.var 5) .nil)) (.op .sub (.var 3) (.cst (.int 2)))) (.cons (.set 5 (.op .add (.var 5) (.call 3 (.cons (.var 0) (.cons (.var 1) (.cons (.lst (.cons (.sl (.var 5) .none (.some (.cst (.int 2)))) (.cons (.sl (.var 5) .none (.some (.cst (.int 3)))) (.cons (.sl (.var 5) (.some (.cst (.int 1))) (.some (.cst (.int 3)))) (.cons (.cst (.str ("a" : Str))) (.cons (.cst (.str ("b" : Str))) (.cons (.sl (.var 5) (.some (.neg (.cst (.int 2)))) .none) .nil))))))) .nil)))))) .nil)) (.cons (.ret (.tup (.cons (.sl (.var 5) .none (.some (.bi .max (.cons (.var 4) (.cons (.op .sub (.var 3) (.call 2 (.cons (.var 0) (.cons (.var 1) (.cons (.cst (.int 3)) .nil))))) .nil))))) (.cons (.var 4) .nil)))) .nil))))⟩
/-- _law_few -/
def c177 : Fd := ⟨2, 6, false, (.cons (.setT 2 3 (.call 176 (.cons (.var 0) (.cons (.var 1) (.cons (.cst (.int 2)) (.cons (.cst (.int 8)) .nil)))))) (.cons (.set 4 (.tup (.cons (.var 3) (.cons (.call 51 (.cons (.var 2) (.cons (.var 3) .nil))) .nil)))) (.cons (.set 5 (.call 59 (.cons (.var 4) .nil))) (.cons (.whl (.cmp .gt (.bi .len (.cons (.var 5) .nil)) (.cst (.int 16))) (.cons (.set 4 (.ite (.cmp .lt (.var 3) (.cst (.int 4))) (.tup (.cons (.op .add (.var 3) (.cst (.int 1))) (.cons (.call 51 (.cons (.var 2) (.cons (.op .add (.var 3) (.cst (.int 1))) .nil))) .nil))) (.tup (.cons (.cst (.int 1)) (.cons (.tup (.cons (.cst (.str ("a" : Str))) .nil)) .nil))))) (.cons (.set 3 (.idx (.var 4) (.cst (.int 0)))) (.cons (.set 5 (.call 59 (.cons (.var 4) .nil))) .nil)))) (.cons (.ret (.tup (.cons (.var 4) (.cons (.var 5) .nil)))) .nil)))))⟩
-- 178: _law_parts: method setdefault
/-- _law_can -/
def c179 : Fd := ⟨2, 5, false, (.cons (.ifs (.cmp .eq (.bi .len (.cons (.var 0) .nil)) (.cst (.int 1))) (.cons (.ret (.cst (.bl true))) .nil) (.nil)) (.cons (.ifs (.cmp .eq (.var 1) (.cst (.int 0))) (.cons (.ret (.cst (.bl false))) .nil) (.nil)) (.cons (.for (.one 2) (.rng1 (.bi .len (.cons (.idx (.var 0) (.cst (.int 0))) .nil))) (.cons (.set 3 (.call 178 (.cons (.var 0) (.cons (.var 2) .nil)))) (.cons (.ifs (.and (.cmp .gt (.bi .len (.cons (.var 3) .nil)) (.cst (.int 1))) (.cmp .eq (.lc (.var 4) (.one 4) (.e (.var 3)) (.some (.not (.call 179 (.cons (.var 4) (.cons (.op .sub (.var 1) (.cst (.int 1))) .nil)))))) (.lst .nil))) (.cons (.ret (.cst (.bl true))) .nil) (.nil)) .nil))) (.cons (.ret (.cst (.bl false))) .nil))))⟩
/-- _law_least -/
def c180 : Fd := ⟨1, 2, false, (.cons (.ret (.idx (.lc (.var 1) (.one 1) (.rng1 (.bi .len (.cons (.var 0) .nil))) (.some (.call 179 (.cons (.var 0) (.cons (.var 1) .nil))))) (.cst (.int 0)))) .nil)⟩
-- 181: law_k31: method best
-- 182: law_k32: method heard
/-- _law_left -/
def c183 : Fd := ⟨2, 5, false, (.cons (.for (.two 2 3) (.e (.var 1)) (.cons (.set 0 (.lc (.var 4) (.one 4) (.e (.var 0)) (.some (.cmp .eq (.idx (.var 4) (.var 2)) (.var 3))))) .nil)) (.cons (.ret (.var 0)) .nil))⟩
/-- _law_due -/
def c184 : Fd := ⟨4, 5, false, (.cons (.ifs (.cmp .eq (.var 2) (.cst (.str ("undo" : Str)))) (.cons (.ret (.ite (.cmp .ne (.var 1) (.lst .nil)) (.idx (.var 1) (.neg (.cst (.int 1)))) (.tup (.cons (.cst (.str ("refused" : Str))) (.cons (.cst (.int 6)) .nil))))) .nil) (.nil)) (.cons (.ifs (.or (.not (.bi .isInt (.cons (.var 2) .nil))) (.or (.bi .isBool (.cons (.var 2) .nil)) (.not (.chn .le .lt (.cst (.int 0)) (.var 2) (.bi .len (.cons (.idx (.var 0) (.cst (.int 0))) .nil)))))) (.cons (.ret (.tup (.cons (.cst (.str ("refused" : Str))) (.cons (.cst (.int 8)) .nil)))) .nil) (.nil)) (.cons (.ifs (.cmp .notin (.var 3) (.tup (.cons (.cst (.str ("a" : Str))) (.cons (.cst (.str ("b" : Str))) (.cons (.cst (.str ("c" : Str))) .nil))))) (.cons (.ret (.tup (.cons (.cst (.str ("refused" : Str))) (.cons (.cst (.int 9)) .nil)))) .nil) (.nil)) (.cons (.set 4 (.call 183 (.cons (.var 0) (.cons (.op .add (.var 1) (.lst (.cons (.tup (.cons (.var 2) (.cons (.var 3) .nil))) .nil))) .nil)))) (.cons (.ret (.ite (.cmp .ne (.var 4) (.lst .nil)) (.bi .len (.cons (.var 4) .nil)) (.tup (.cons (.cst (.str ("refused" : Str))) (.cons (.cst (.int 4)) .nil))))) .nil)))))⟩
-- 185: _law_do: stmt try: return _law_seeker.undo() if _law_place == 'undo' e
-- 186: law_k33: method heard
/-- by_all -/
def c187 : Fd := ⟨1, 4, false, (.cons (.ifs (.or (.not (.bi .isList (.cons (.var 0) .nil))) (.or (.not (.chn .le .le (.cst (.int 1)) (.bi .len (.cons (.var 0) .nil)) (.glb ("MANY_widths" : Str) (.int 4)))) (.not (.bi .all (.cons (.lc (.call 32 (.cons (.var 1) .nil)) (.one 1) (.e (.var 0)) .none) .nil))))) (.cons .never .nil) (.nil)) (.cons (.set 2 (.call 42 (.cons (.idx (.var 0) (.cst (.int 0))) .nil))) (.cons (.for (.one 1) (.e (.sl (.var 0) (.some (.cst (.int 1))) .none)) (.cons (.set 2 (.lc (.var 3) (.one 3) (.e (.var 2)) (.some (.cmp .eq (.bi .tuple (.cons (.bi .sorted (.cons (.call 11 (.cons (.var 3) (.cons (.idx (.var 1) (.cst (.int 0))) .nil))) .nil)) .nil)) (.idx (.var 1) (.cst (.int 1))))))) .nil)) (.cons (.ret (.var 2)) .nil))))⟩
/-- is_blurred -/
def c188 : Fd := ⟨1, 2, false, (.cons (.ifs (.or (.not (.bi .isTuple (.cons (.var 0) .nil))) (.or (.cmp .ne (.bi .len (.cons (.var 0) .nil)) (.cst (.int 2))) (.not (.call 8 (.cons (.idx (.var 0) (.cst (.int 0))) (.cons (.cst (.int 1)) (.cons (.glb ("WIDTH" : Str) (.int 4)) .nil))))))) (.cons (.ret (.cst (.bl false))) .nil) (.nil)) (.cons (.ifs (.or (.not (.bi .isTuple (.cons (.idx (.var 0) (.cst (.int 1))) .nil))) (.not (.chn .le .le (.cst (.int 1)) (.bi .len (.cons (.idx (.var 0) (.cst (.int 1))) .nil)) (.glb ("WINDOWS" : Str) (.int 9))))) (.cons (.ret (.cst (.bl false))) .nil) (.nil)) (.cons (.for (.one 1) (.e (.idx (.var 0) (.cst (.int 1)))) (.cons (.ifs (.or (.not (.bi .isStr (.cons (.var 1) .nil))) (.or (.cmp .ne (.bi .len (.cons (.var 1) .nil)) (.idx (.var 0) (.cst (.int 0)))) (.cmp .ne (.mth .strip (.var 1) (.cons (.op .add (.glb ("LETTERS" : Str) (.str ("abc" : Str))) (.glb ("GONE" : Str) (.str ("." : Str)))) .nil)) (.cst (.str ("" : Str)))))) (.cons (.ret (.cst (.bl false))) .nil) (.nil)) .nil)) (.cons (.ret (.and (.cmp .le (.mth .scount (.mth .join (.cst (.str ("" : Str))) (.cons (.idx (.var 0) (.cst (.int 1))) .nil)) (.cons (.glb ("GONE" : Str) (.str ("." : Str))) .nil)) (.glb ("MANY_blurring" : Str) (.int 6))) (.cmp .eq (.bi .list (.cons (.idx (.var 0) (.cst (.int 1))) .nil)) (.bi .sorted (.cons (.idx (.var 0) (.cst (.int 1))) .nil))))) .nil))))⟩
/-- need_blurred -/
def c189 : Fd := ⟨1, 1, false, (.cons (.ifs (.not (.call 188 (.cons (.var 0) .nil))) (.cons .never .nil) (.nil)) .nil)⟩
/-- cleared -/
def c190 : Fd := ⟨1, 1, true, (.cons (.expr (.call 189 (.cons (.var 0) .nil))) (.cons (.ret (.call 109 (.cons (.var 0) .nil))) .nil))⟩
/-- seen -/
def c191 : Fd := ⟨1, 4, true, (.cons (.expr (.call 189 (.cons (.var 0) .nil))) (.cons (.set 1 (.call 109 (.cons (.var 0) .nil))) (.cons (.ifs (.cmp .eq (.var 1) (.lst .nil)) (.cons .never .nil) (.nil)) (.cons (.ret (.lc (.var 2) (.one 2) (.e (.sset (.idx (.idx (.var 1) (.cst (.int 0))) (.cst (.int 1))))) (.some (.bi .all (.cons (.lc (.cmp .isin (.var 2) (.idx (.var 3) (.cst (.int 1)))) (.one 3) (.e (.var 1)) .none) .nil))))) .nil))))⟩
/-- through -/
def c192 : Fd := ⟨1, 3, true, (.cons (.expr (.call 189 (.cons (.var 0) .nil))) (.cons (.set 1 (.cell (.lst .nil))) (.cons (.for (.one 2) (.e (.call 109 (.cons (.var 0) .nil))) (.cons (.expr (.mth .extend (.var 1) (.cons (.call 42 (.cons (.var 2) .nil)) .nil))) .nil)) (.cons (.ret (.bi .sorted (.cons (.var 1) .nil))) .nil))))⟩
/-- bundle -/
def c193 : Fd := ⟨1, 1, false, (.cons (.expr (.call 33 (.cons (.var 0) .nil))) (.cons (.ifs (.cmp .gt (.bi .len (.cons (.idx (.var 0) (.cst (.int 1))) .nil)) (.glb ("MANY_together" : Str) (.int 6))) (.cons .never .nil) (.nil)) (.cons (.ret (.call 160 (.cons (.idx (.var 0) (.cst (.int 1))) (.cons (.idx (.var 0) (.cst (.int 0))) (.cons (.call 96 (.cons (.var 0) .nil)) (.cons (.cst (.str ("" : Str))) .nil)))))) .nil)))⟩
/-- pairs -/
def c194 : Fd := ⟨1, 8, true, (.cons (.expr (.call 33 (.cons (.var 0) .nil))) (.cons (.setT 1 2 (.var 0)) (.cons (.ifs (.cmp .gt (.bi .len (.cons (.var 2) .nil)) (.glb ("MANY_together" : Str) (.int 6))) (.cons .never .nil) (.nil)) (.cons (.set 3 (.cell (.lst .nil))) (.cons (.for (.two 4 5) (.e (.call 156 (.cons (.var 2) .nil))) (.cons (.for (.one 6) (.e (.call 42 (.cons (.tup (.cons (.var 1) (.cons (.var 4) .nil))) .nil))) (.cons (.expr (.mth .extend (.var 3) (.cons (.lc (.tup (.cons (.var 6) (.cons (.var 7) .nil))) (.one 7) (.e (.call 42 (.cons (.tup (.cons (.var 1) (.cons (.var 5) .nil))) .nil))) (.some (.cmp .le (.var 6) (.var 7)))) .nil))) .nil)) .nil)) (.cons (.ret (.sset (.var 3))) .nil))))))⟩
-- 195: _law_ask: call of _law_asks[_law_what]
-- 196: law_k40: cell of _law_begun = _law_ask(_law_what, _law_some, _law_text_here)
-- 197: _law_is_view: zip
-- 198: _law_ask: stmt try: if _law_what < 4: return [view, ring_view,
-- 199: _law_spoilt: slice step
/-- law_k01 -/
def c200 : Fd := ⟨1, 13, false, (.cons (.set 1 (.cell (.lst .nil))) (.cons (.set 2 (.op .add (.cst (.int 1)) (.call 25 (.cons (.var 0) (.cons (.var 1) (.cons (.cst (.int 4)) .nil)))))) (.cons (.set 3 (.call 27 (.cons (.var 0) (.cons (.var 1) (.cons (.cst (.int 1)) (.cons (.cst (.int 12)) .nil)))))) (.cons (.set 4 (.op .add (.op .sub (.bi .len (.cons (.var 3) .nil)) (.var 2)) (.cst (.int 1)))) (.cons (.set 5 (.ite (.chn .le .le (.cst (.int 1)) (.var 4) (.cst (.int 9))) (.tup (.cons (.var 2) (.cons (.call 28 (.cons (.var 3) (.cons (.var 2) .nil))) .nil))) (.tup (.cons (.cst (.str ("refused" : Str))) (.cons (.cst (.int 2)) .nil))))) (.cons (.ifs (.or (.cmp .ne (.call 198 (.cons (.cst (.int 0)) (.cons (.var 3) (.cons (.var 2) .nil)))) (.var 5)) (.and (.cmp .eq (.var 5) (.tup (.cons (.cst (.str ("refused" : Str))) (.cons (.cst (.int 2)) .nil)))) (.cmp .ne (.call 198 (.cons (.cst (.int 2)) (.cons (.var 3) (.cons (.var 2) .nil)))) (.var 5)))) (.cons (.ret (.cst (.bl false))) .nil) (.nil)) (.cons (.set 5 (.ite (.cmp .lt (.bi .len (.cons (.var 3) .nil)) (.cst (.int 10))) (.tup (.cons (.var 2) (.cons (.call 38 (.cons (.var 3) (.cons (.var 2) .nil))) .nil))) (.tup (.cons (.cst (.str ("refused" : Str))) (.cons (.cst (.int 2)) .nil))))) (.cons (.set 6 (.bi .min (.cons (.lc (.op .add (.sl (.var 3) (.some (.var 7)) .none) (.sl (.var 3) .none (.some (.var 7)))) (.one 7) (.rng1 (.bi .len (.cons (.var 3) .nil))) .none) .nil))) (.cons (.ifs (.or (.cmp .ne (.call 198 (.cons (.cst (.int 1)) (.cons (.var 3) (.cons (.var 2) .nil)))) (.var 5)) (.cmp .ne (.call 198 (.cons (.cst (.int 5)) (.cons (.var 3) (.cons (.cst .non) .nil)))) (.var 6))) (.cons (.ret (.cst (.bl false))) .nil) (.nil)) (.cons (.ifs (.and (.cmp .gt (.bi .len (.cons (.var 3) .nil)) (.cst (.int 9))) (.cmp .ne (.call 198 (.cons (.cst (.int 6)) (.cons (.var 3) (.cons (.cst .non) .nil)))) (.tup (.cons (.cst (.str ("refused" : Str))) (.cons (.cst (.int 2)) .nil))))) (.cons (.ret (.cst (.bl false))) .nil) (.nil)) (.cons (.set 8 (.call 26 (.cons (.var 0) (.cons (.var 1) (.cons (.lst (.cons (.cst .non) (.cons (.cst (.str ("" : Str))) (.cons (.cst (.str ("abcd" : Str))) (.cons (.op .mul (.cst (.str ("a" : Str))) (.cst (.int 13))) (.cons (.cst (.int 1)) (.cons (.tup (.cons (.cst (.str ("a" : Str))) .nil)) (.cons (.cst (.str ("aB" : Str))) .nil)))))))) .nil))))) (.cons (.ifs (.cmp .ne (.lc (.call 198 (.cons (.var 9) (.cons (.var 8) (.cons (.cst .non) .nil)))) (.one 9) (.e (.tup (.cons (.cst (.int 0)) (.cons (.cst (.int 1)) (.cons (.cst (.int 2)) (.cons (.cst (.int 3)) (.cons (.cst (.int 5)) (.cons (.cst (.int 6)) .nil)))))))) .none) (.op .mul (.lst (.cons (.tup (.cons (.cst (.str ("refused" : Str))) (.cons (.cst (.int 0)) .nil))) .nil)) (.cst (.int 6)))) (.cons (.ret (.cst (.bl false))) .nil) (.nil)) (.cons (.ifs (.cmp .ne (.call 198 (.cons (.cst (.int 4)) (.cons (.var 8) (.cons (.cst (.int 2)) .nil)))) (.tup (.cons (.cst (.str ("refused" : Str))) (.cons (.cst (.int 0)) .nil)))) (.cons (.ret (.cst (.bl false))) .nil) (.nil)) (.cons (.set 10 (.call 26 (.cons (.var 0) (.cons (.var 1) (.cons (.lst (.cons (.cst (.int 0)) (.cons (.cst (.int 5)) (.cons (.cst .non) (.cons (.cst (.bl true)) (.cons (.cst (.str ("1" : Str))) (.cons (.neg (.cst (.int 1))) .nil))))))) .nil))))) (.cons (.ifs (.cmp .ne (.lc (.call 198 (.cons (.var 9) (.cons (.var 3) (.cons (.var 10) .nil)))) (.one 9) (.e (.tup (.cons (.cst (.int 0)) (.cons (.cst (.int 1)) (.cons (.cst (.int 2)) (.cons (.cst (.int 3)) (.cons (.cst (.int 4)) .nil))))))) .none) (.op .mul (.lst (.cons (.tup (.cons (.cst (.str ("refused" : Str))) (.cons (.cst (.int 1)) .nil))) .nil)) (.cst (.int 5)))) (.cons (.ret (.cst (.bl false))) .nil) (.nil)) (.cons (.ifs (.cmp .ne (.call 198 (.cons (.cst (.int 14)) (.cons (.var 10) (.cons (.cst .non) .nil)))) (.tup (.cons (.cst (.str ("refused" : Str))) (.cons (.cst (.int 1)) .nil)))) (.cons (.ret (.cst (.bl false))) .nil) (.nil)) (.cons (.set 11 (.call 29 (.cons (.var 0) (.cons (.var 1) (.cons (.cst (.int 9)) .nil))))) (.cons (.for (.one 12) (.rng1 (.op .add (.cst (.int 1)) (.call 25 (.cons (.var 0) (.cons (.var 1) (.cons (.cst (.int 2)) .nil)))))) (.cons (.set 11 (.call 199 (.cons (.var 0) (.cons (.var 1) (.cons (.var 11) .nil))))) .nil)) (.cons (.ifs (.call 197 (.cons (.var 11) .nil)) (.cons (.ret (.bi .isInt (.cons (.call 198 (.cons (.cst (.int 8)) (.cons (.var 11) (.cons (.cst .non) .nil)))) .nil))) .nil) (.nil)) (.cons (.ret (.cmp .eq (.lc (.call 198 (.cons (.var 9) (.cons (.var 11) (.cons (.cst .non) .nil)))) (.one 9) (.rng2 (.cst (.int 7)) (.cst (.int 14))) .none) (.op .mul (.lst (.cons (.tup (.cons (.cst (.str ("refused" : Str))) (.cons (.cst (.int 2)) .nil))) .nil)) (.cst (.int 7))))) .nil))))))))))))))))))))⟩
def G : Nat → Option Fd
  | 0 => some c0
  | 1 => some c1
  | 2 => some c2
  | 3 => some c3
  | 4 => some c4
  | 5 => some c5
  | 6 => some c6
  | 7 => some c7
  | 8 => some c8
  | 9 => some c9
  | 10 => some c10
  | 11 => some c11
  | 12 => some c12
  | 13 => some c13
  | 14 => some c14
  | 15 => some c15
  | 16 => some c16
  | 17 => some c17
  | 18 => some c18
  | 19 => some c19
  | 20 => some c20
  | 21 => some c21
  | 22 => some c22
  | 23 => some c23
  | 24 => some c24
  | 25 => some c25
  | 26 => some c26
  | 27 => some c27
  | 28 => some c28
  | 29 => some c29
  | 30 => some c30
  | 31 => some c31
  | 32 => some c32
  | 33 => some c33
  | 34 => some c34
  | 35 => some c35
  | 36 => some c36
  | 37 => some c37
  | 38 => some c38
  | 39 => some c39
  | 40 => some c40
  | 41 => some c41
  | 42 => some c42
  | 43 => some c43
  | 44 => some c44
  | 45 => some c45
  | 46 => some c46
  | 49 => some c49
  | 50 => some c50
  | 51 => some c51
  | 52 => some c52
  | 53 => some c53
  | 54 => some c54
  | 55 => some c55
  | 56 => some c56
  | 57 => some c57
  | 58 => some c58
  | 59 => some c59
  | 60 => some c60
  | 61 => some c61
  | 62 => some c62
  | 63 => some c63
  | 64 => some c64
  | 65 => some c65
  | 66 => some c66
  | 67 => some c67
  | 68 => some c68
  | 69 => some c69
  | 70 => some c70
  | 71 => some c71
  | 72 => some c72
  | 73 => some c73
  | 75 => some c75
  | 76 => some c76
  | 77 => some c77
  | 80 => some c80
  | 81 => some c81
  | 82 => some c82
  | 83 => some c83
  | 85 => some c85
  | 87 => some c87
  | 89 => some c89
  | 92 => some c92
  | 93 => some c93
  | 94 => some c94
  | 95 => some c95
  | 96 => some c96
  | 97 => some c97
  | 98 => some c98
  | 99 => some c99
  | 100 => some c100
  | 101 => some c101
  | 104 => some c104
  | 105 => some c105
  | 106 => some c106
  | 107 => some c107
  | 108 => some c108
  | 109 => some c109
  | 110 => some c110
  | 111 => some c111
  | 112 => some c112
  | 114 => some c114
  | 115 => some c115
  | 116 => some c116
  | 117 => some c117
  | 118 => some c118
  | 119 => some c119
  | 120 => some c120
  | 121 => some c121
  | 123 => some c123
  | 125 => some c125
  | 126 => some c126
  | 128 => some c128
  | 129 => some c129
  | 130 => some c130
  | 132 => some c132
  | 138 => some c138
  | 140 => some c140
  | 141 => some c141
  | 143 => some c143
  | 144 => some c144
  | 145 => some c145
  | 146 => some c146
  | 148 => some c148
  | 149 => some c149
  | 151 => some c151
  | 152 => some c152
  | 156 => some c156
  | 157 => some c157
  | 159 => some c159
  | 160 => some c160
  | 161 => some c161
  | 162 => some c162
  | 165 => some c165
  | 166 => some c166
  | 174 => some c174
  | 175 => some c175
  | 176 => some c176
  | 177 => some c177
  | 179 => some c179
  | 180 => some c180
  | 183 => some c183
  | 184 => some c184
  | 187 => some c187
  | 188 => some c188
  | 189 => some c189
  | 190 => some c190
  | 191 => some c191
  | 192 => some c192
  | 193 => some c193
  | 194 => some c194
  | 200 => some c200
  | _ => none
theorem G0 : G 0 = some c0 := rfl
theorem G1 : G 1 = some c1 := rfl
theorem G2 : G 2 = some c2 := rfl
theorem G3 : G 3 = some c3 := rfl
theorem G4 : G 4 = some c4 := rfl
theorem G5 : G 5 = some c5 := rfl
theorem G6 : G 6 = some c6 := rfl
theorem G7 : G 7 = some c7 := rfl
theorem G8 : G 8 = some c8 := rfl
theorem G9 : G 9 = some c9 := rfl
theorem G10 : G 10 = some c10 := rfl
theorem G11 : G 11 = some c11 := rfl
theorem G12 : G 12 = some c12 := rfl
theorem G13 : G 13 = some c13 := rfl
theorem G14 : G 14 = some c14 := rfl
theorem G15 : G 15 = some c15 := rfl
theorem G16 : G 16 = some c16 := rfl
theorem G17 : G 17 = some c17 := rfl
theorem G18 : G 18 = some c18 := rfl
theorem G19 : G 19 = some c19 := rfl
theorem G20 : G 20 = some c20 := rfl
theorem G21 : G 21 = some c21 := rfl
theorem G22 : G 22 = some c22 := rfl
theorem G23 : G 23 = some c23 := rfl
theorem G24 : G 24 = some c24 := rfl
theorem G25 : G 25 = some c25 := rfl
theorem G26 : G 26 = some c26 := rfl
theorem G27 : G 27 = some c27 := rfl
theorem G28 : G 28 = some c28 := rfl
theorem G29 : G 29 = some c29 := rfl
theorem G30 : G 30 = some c30 := rfl
theorem G31 : G 31 = some c31 := rfl
theorem G32 : G 32 = some c32 := rfl
theorem G33 : G 33 = some c33 := rfl
theorem G34 : G 34 = some c34 := rfl
theorem G35 : G 35 = some c35 := rfl
theorem G36 : G 36 = some c36 := rfl
theorem G37 : G 37 = some c37 := rfl
theorem G38 : G 38 = some c38 := rfl
theorem G39 : G 39 = some c39 := rfl
theorem G40 : G 40 = some c40 := rfl
theorem G41 : G 41 = some c41 := rfl
theorem G42 : G 42 = some c42 := rfl
theorem G43 : G 43 = some c43 := rfl
theorem G44 : G 44 = some c44 := rfl
theorem G45 : G 45 = some c45 := rfl
theorem G46 : G 46 = some c46 := rfl
theorem G49 : G 49 = some c49 := rfl
theorem G50 : G 50 = some c50 := rfl
theorem G51 : G 51 = some c51 := rfl
theorem G52 : G 52 = some c52 := rfl
theorem G53 : G 53 = some c53 := rfl
theorem G54 : G 54 = some c54 := rfl
theorem G55 : G 55 = some c55 := rfl
theorem G56 : G 56 = some c56 := rfl
theorem G57 : G 57 = some c57 := rfl
theorem G58 : G 58 = some c58 := rfl
theorem G59 : G 59 = some c59 := rfl
theorem G60 : G 60 = some c60 := rfl
theorem G61 : G 61 = some c61 := rfl
theorem G62 : G 62 = some c62 := rfl
theorem G63 : G 63 = some c63 := rfl
theorem G64 : G 64 = some c64 := rfl
theorem G65 : G 65 = some c65 := rfl
theorem G66 : G 66 = some c66 := rfl
theorem G67 : G 67 = some c67 := rfl
theorem G68 : G 68 = some c68 := rfl
theorem G69 : G 69 = some c69 := rfl
theorem G70 : G 70 = some c70 := rfl
theorem G71 : G 71 = some c71 := rfl
theorem G72 : G 72 = some c72 := rfl
theorem G73 : G 73 = some c73 := rfl
theorem G75 : G 75 = some c75 := rfl
theorem G76 : G 76 = some c76 := rfl
theorem G77 : G 77 = some c77 := rfl
theorem G80 : G 80 = some c80 := rfl
theorem G81 : G 81 = some c81 := rfl
theorem G82 : G 82 = some c82 := rfl
theorem G83 : G 83 = some c83 := rfl
theorem G85 : G 85 = some c85 := rfl
theorem G87 : G 87 = some c87 := rfl
theorem G89 : G 89 = some c89 := rfl
theorem G92 : G 92 = some c92 := rfl
theorem G93 : G 93 = some c93 := rfl
theorem G94 : G 94 = some c94 := rfl
theorem G95 : G 95 = some c95 := rfl
theorem G96 : G 96 = some c96 := rfl
theorem G97 : G 97 = some c97 := rfl
theorem G98 : G 98 = some c98 := rfl
theorem G99 : G 99 = some c99 := rfl
theorem G100 : G 100 = some c100 := rfl
theorem G101 : G 101 = some c101 := rfl
theorem G104 : G 104 = some c104 := rfl
theorem G105 : G 105 = some c105 := rfl
theorem G106 : G 106 = some c106 := rfl
theorem G107 : G 107 = some c107 := rfl
theorem G108 : G 108 = some c108 := rfl
theorem G109 : G 109 = some c109 := rfl
theorem G110 : G 110 = some c110 := rfl
theorem G111 : G 111 = some c111 := rfl
theorem G112 : G 112 = some c112 := rfl
theorem G114 : G 114 = some c114 := rfl
theorem G115 : G 115 = some c115 := rfl
theorem G116 : G 116 = some c116 := rfl
theorem G117 : G 117 = some c117 := rfl
theorem G118 : G 118 = some c118 := rfl
theorem G119 : G 119 = some c119 := rfl
theorem G120 : G 120 = some c120 := rfl
theorem G121 : G 121 = some c121 := rfl
theorem G123 : G 123 = some c123 := rfl
theorem G125 : G 125 = some c125 := rfl
theorem G126 : G 126 = some c126 := rfl
theorem G128 : G 128 = some c128 := rfl
theorem G129 : G 129 = some c129 := rfl
theorem G130 : G 130 = some c130 := rfl
theorem G132 : G 132 = some c132 := rfl
theorem G138 : G 138 = some c138 := rfl
theorem G140 : G 140 = some c140 := rfl
theorem G141 : G 141 = some c141 := rfl
theorem G143 : G 143 = some c143 := rfl
theorem G144 : G 144 = some c144 := rfl
theorem G145 : G 145 = some c145 := rfl
theorem G146 : G 146 = some c146 := rfl
theorem G148 : G 148 = some c148 := rfl
theorem G149 : G 149 = some c149 := rfl
theorem G151 : G 151 = some c151 := rfl
theorem G152 : G 152 = some c152 := rfl
theorem G156 : G 156 = some c156 := rfl
theorem G157 : G 157 = some c157 := rfl
theorem G159 : G 159 = some c159 := rfl
theorem G160 : G 160 = some c160 := rfl
theorem G161 : G 161 = some c161 := rfl
theorem G162 : G 162 = some c162 := rfl
theorem G165 : G 165 = some c165 := rfl
theorem G166 : G 166 = some c166 := rfl
theorem G174 : G 174 = some c174 := rfl
theorem G175 : G 175 = some c175 := rfl
theorem G176 : G 176 = some c176 := rfl
theorem G177 : G 177 = some c177 := rfl
theorem G179 : G 179 = some c179 := rfl
theorem G180 : G 180 = some c180 := rfl
theorem G183 : G 183 = some c183 := rfl
theorem G184 : G 184 = some c184 := rfl
theorem G187 : G 187 = some c187 := rfl
theorem G188 : G 188 = some c188 := rfl
theorem G189 : G 189 = some c189 := rfl
theorem G190 : G 190 = some c190 := rfl
theorem G191 : G 191 = some c191 := rfl
theorem G192 : G 192 = some c192 := rfl
theorem G193 : G 193 = some c193 := rfl
theorem G194 : G 194 = some c194 := rfl
theorem G200 : G 200 = some c200 := rfl
end SV
/-! SvT: reckoning with the evaluator. -/
namespace SV
open PySem
theorem fin_len {n : Nat} {d : D} {S : Store} (h : S.length = n) : fin n (.ok d S) = .ok d S := by
  subst h
  show (if _ then _ else _) = _
  rw [List.take_length]
  split <;> rfl
@[simp] theorem fin_self {d : D} {S : Store} : fin S.length (.ok d S) = .ok d S := fin_len rfl
/-- nothing below hangs on what is above -/
def Wf (S : Store) : Prop := S.all (Cell.lo S.length) = true
theorem fin_more {d : D} {S g : Store} (w : Wf S) (h : D.lo S.length d = true) : fin S.length (.ok d (S ++ g)) = .ok d S := by
  show (if _ then _ else _) = _
  rw [List.take_left' rfl, h, Bool.true_and]
  exact if_pos w
theorem run_at {G : Nat → Option Fd} {fu n i : Nat} {c : Fd} (h : G i = some c) (ds : List D) (S : Store) :
    run G fu (n + 1) i ds S = if ds.length = c.ar then fin S.length (toD (xcs (run G fu n) fu c.body (ds.map some ++ List.replicate (c.sl - ds.length) none) S)) else .bad := by
  conv => lhs; unfold run
  rw [h]
theorem run_go {G : Nat → Option Fd} {fu n i : Nat} {c : Fd} {ds : List D} {env : Env} {S : Store} (h : G i = some c) (hl : ds.length = c.ar) (he : ds.map some ++ List.replicate (c.sl - ds.length) none = env) :
    run G fu (n + 1) i ds S = fin S.length (toD (xcs (run G fu n) fu c.body env S)) := by
  rw [run_at h, if_pos hl, he]
-- not by rfl: the kernel is not to look into what stands behind
@[simp high] theorem bo {α β : Type} (a : α) (S : Store) (f : α → Store → R β) : (R.ok a S).bind f = f a S := by cases S <;> rfl
/-- by a truth value -/
def ifb {α : Type} (d : D) (a b : R α) : R α := match d with
  | .bl true => a
  | .bl false => b
  | _ => .bad
@[simp] theorem ifb_t {α : Type} {a b : R α} : ifb (.bl true) a b = a := by cases a <;> rfl
@[simp] theorem ifb_f {α : Type} {a b : R α} : ifb (.bl false) a b = b := by cases b <;> rfl
def slotR (o : Option D) (S : Store) : R D := match o with
  | some d => .ok d S
  | none => .bad
@[simp] theorem slotR_some {d : D} {S : Store} : slotR (some d) S = .ok d S := by cases S <;> rfl
def negR (d : D) (S : Store) : R D := match d with
  | .int i => .ok (.int (-i)) S
  | _ => .bad
@[simp] theorem negR_int {i : Int} {S : Store} : negR (.int i) S = .ok (.int (-i)) S := by cases S <;> rfl
/-- one statement, then the others -/
def andThen (r : R Fl) (f : Env → Store → R Fl) : R Fl := r.bind fun r S => match r with
  | .nx env => f env S
  | r => .ok r S
@[simp] theorem andThen_nx {env : Env} {S : Store} {f : Env → Store → R Fl} : andThen (.ok (.nx env) S) f = f env S := by cases S <;> rfl
@[simp] theorem andThen_ret {d : D} {S : Store} {f : Env → Store → R Fl} : andThen (.ok (.ret d) S) f = .ok (.ret d) S := by cases S <;> rfl
@[simp] theorem toD_nx {env : Env} {S : Store} : toD (.ok (.nx env) S) = .ok .non S := by cases S <;> rfl
@[simp] theorem toD_ret {d : D} {S : Store} : toD (.ok (.ret d) S) = .ok d S := by cases S <;> rfl
def cellR (d : D) (S : Store) : R D := match d with
  | .lst l => .ok (.loc S.length) (S ++ [.lst l])
  | _ => .bad
@[simp] theorem cellR_lst {l : List D} {S : Store} : cellR (.lst l) S = .ok (.loc S.length) (S ++ [.lst l]) := by cases S <;> rfl
def snapR (o : Option D) (S : Store) : R D := match o with
  | some (.loc n) => match S[n]? with
    | some (.lst l) => .ok (.lst l) (S.set n .dead)
    | some (.dct l) => snapD l n S
    | _ => .bad
  | _ => .bad
theorem snapR_loc {n : Nat} {S : Store} {l : List D} (h : S[n]? = some (.lst l)) : snapR (some (.loc n)) S = .ok (.lst l) (S.set n .dead) := by
  unfold snapR
  simp [h]
def seqR (mk : List D → D) (l : List D) (S : Store) : R D := if okLen l.length then .ok (mk l) S else .bad
theorem okLen_le' {n : Nat} (h : n ≤ 16000000) : okLen n = true := decide_eq_true h
@[simp] theorem seqR_ok {mk : List D → D} {l : List D} {S : Store} (h : l.length ≤ 16000000) : seqR mk l S = .ok (mk l) S := by
  unfold seqR
  rw [if_pos (okLen_le' h)]
def itR (d : D) (S : Store) : R Src := match srcD d S with
  | some s => .ok s S
  | none => .bad
def rngR (d : D) (S : Store) : R Src := match d with
  | .int j => if okI j then .ok ⟨rngD 0 j.toNat, none⟩ S else .bad
  | _ => .bad
def rng2R (x y : D) (S : Store) : R Src := match x, y with
  | .int i, .int j => if okI i && okI j then .ok ⟨rngD i (j - i).toNat, none⟩ S else .bad
  | _, _ => .bad
theorem okI_ok {i : Int} (h : -(2 ^ 62) ≤ i ∧ i < 2 ^ 62) : okI i = true := decide_eq_true h
theorem okI_small {j : Int} (h : -1000000 ≤ j ∧ j ≤ 1000000) : okI j = true := okI_ok ⟨Int.le_trans (by decide) h.1, Int.lt_of_le_of_lt h.2 (by decide)⟩
theorem rngR_int {j : Int} {S : Store} (h : -1000000 ≤ j ∧ j ≤ 1000000) : rngR (.int j) S = .ok ⟨rngD 0 j.toNat, none⟩ S := by
  show (if _ then _ else _) = _
  rw [if_pos (okI_small h)]
theorem rng2R_int {i j : Int} {S : Store} (h : -1000000 ≤ i ∧ i ≤ 1000000) (h2 : -1000000 ≤ j ∧ j ≤ 1000000) : rng2R (.int i) (.int j) S = .ok ⟨rngD i (j - i).toNat, none⟩ S := by
  show (if _ then _ else _) = _
  rw [okI_small h, okI_small h2]
  rfl
noncomputable def lcR (g : Option (Nat × Cell)) (st : D → Option Env) (fc fe : Env → Store → R D) (l : List D) (S : Store) : R D := if okLen l.length then (lcLoop g st fc fe l S).nox.bind fun l S => .ok (.lst l) S else .bad
def setTR (t : Tg) (d : D) (env : Env) (S : Store) : R Fl := match t.set d env with
  | some env => .ok (.nx env) S
  | none => .bad
@[simp] theorem setTR_two {i j : Nat} {a b : D} {env : Env} {S : Store} : setTR (.two i j) (.tup [a, b]) env S = .ok (.nx ((env.set i (some a)).set j (some b))) S := by cases S <;> rfl
def intO (d : D) (S : Store) : R (Option Int) := match d with
  | .int i => .ok (some i) S
  | _ => .bad
@[simp] theorem intO_int {i : Int} {S : Store} : intO (.int i) S = .ok (some i) S := by cases S <;> rfl
section
variable {Γ : Nat → List D → Store → R D} {fu : Nat} {env : Env} {S : Store}
@[simp] theorem e_var {i : Nat} : ev Γ (.var i) env S = slotR (env.getD i none) S := by rw [ev]; rfl
@[simp] theorem e_cst {d : D} : ev Γ (.cst d) env S = .ok d S := by rw [ev]
@[simp] theorem e_glb {x : Str} {d : D} : ev Γ (.glb x d) env S = .ok d S := by rw [ev]
@[simp] theorem e_op {o : Op2} {a b : E} : ev Γ (.op o a b) env S = (ev Γ a env S).bind fun x S => (ev Γ b env S).bind fun y S => o.app x y S := by rw [ev]
@[simp] theorem e_neg {a : E} : ev Γ (.neg a) env S = (ev Γ a env S).bind fun x S => negR x S := by rw [ev]; rfl
@[simp] theorem e_cmp {o : Cm} {a b : E} : ev Γ (.cmp o a b) env S = (ev Γ a env S).bind fun x S => (ev Γ b env S).bind fun y S => cmA o x y S := by rw [ev]; rfl
@[simp] theorem e_chn {o o' : Cm} {a b c : E} : ev Γ (.chn o o' a b c) env S = (ev Γ a env S).bind fun x S => (ev Γ b env S).bind fun y S => (cmA o x y S).bind fun t S => ifb t ((ev Γ c env S).bind fun z S => cmA o' y z S) (.ok (.bl false) S) := by
  rw [ev]
  congr 1
  funext x S
  congr 1
  funext y S
  unfold cmA
  cases o.app x y S with
  | none => rfl
  | some t => cases t <;> rfl
@[simp] theorem e_not {a : E} : ev Γ (.not a) env S = (ev Γ a env S).bind fun x S => ifb x (.ok (.bl false) S) (.ok (.bl true) S) := by
  rw [ev]
  congr 1
  funext x S
  cases x with
  | bl b => cases b <;> rfl
  | _ => rfl
@[simp] theorem e_and {a b : E} : ev Γ (.and a b) env S = (ev Γ a env S).bind fun x S => ifb x (ev Γ b env S) (.ok (.bl false) S) := by rw [ev]; rfl
@[simp] theorem e_or {a b : E} : ev Γ (.or a b) env S = (ev Γ a env S).bind fun x S => ifb x (.ok (.bl true) S) (ev Γ b env S) := by rw [ev]; rfl
@[simp] theorem e_ite {c a b : E} : ev Γ (.ite c a b) env S = (ev Γ c env S).bind fun x S => ifb x (ev Γ a env S) (ev Γ b env S) := by rw [ev]; rfl
@[simp] theorem e_tup {es : Es} : ev Γ (.tup es) env S = (evs Γ es env S).bind fun l S => seqR .tup l S := by rw [ev]; rfl
@[simp] theorem e_lst {es : Es} : ev Γ (.lst es) env S = (evs Γ es env S).bind fun l S => seqR .lst l S := by rw [ev]; rfl
@[simp] theorem e_idx {a b : E} : ev Γ (.idx a b) env S = (ev Γ a env S).bind fun x S => (ev Γ b env S).bind fun y S => atD x y S := by rw [ev]
@[simp] theorem e_sl {a : E} {lo hi : Eo} : ev Γ (.sl a lo hi) env S = (ev Γ a env S).bind fun x S => (evo Γ lo env S).bind fun l S => (evo Γ hi env S).bind fun h S => cutD x l h S := by rw [ev]
@[simp] theorem e_call {f : Nat} {es : Es} : ev Γ (.call f es) env S = (evs Γ es env S).bind fun l S => Γ f l S := by rw [ev]
@[simp] theorem e_bi {f : Bi} {es : Es} : ev Γ (.bi f es) env S = (evs Γ es env S).bind fun l S => f.app l S := by rw [ev]
@[simp] theorem e_mth {m : Mt} {o : E} {es : Es} : ev Γ (.mth m o es) env S = (ev Γ o env S).bind fun x S => if m.recv x S then (evs Γ es env S).bind fun l S => m.app x l S else .bad := by rw [ev]
@[simp] theorem e_lc {elt : E} {tg : Tg} {it : It} {cond : Eo} : ev Γ (.lc elt tg it cond) env S = (evi Γ it env S).bind fun src S => lcR src.guard (fun d => tg.set d env) (fun env S => evc Γ cond env S) (fun env S => ev Γ elt env S) src.items S := by rw [ev]; rfl
@[simp] theorem e_cell {a : E} : ev Γ (.cell a) env S = (ev Γ a env S).bind fun x S => cellR x S := by rw [ev]; rfl
@[simp] theorem e_snap {i : Nat} : ev Γ (.snap i) env S = snapR (env.getD i none) S := by rw [ev]; rfl
@[simp] theorem es_nil : evs Γ .nil env S = .ok [] S := by rw [evs]
@[simp] theorem es_cons {e : E} {es : Es} : evs Γ (.cons e es) env S = (ev Γ e env S).bind fun x S => (evs Γ es env S).bind fun l S => .ok (x :: l) S := by rw [evs]
@[simp] theorem eo_none : evo Γ .none env S = .ok none S := by rw [evo]
@[simp] theorem eo_some {e : E} : evo Γ (.some e) env S = (ev Γ e env S).bind fun x S => intO x S := by rw [evo]; rfl
@[simp] theorem ec_none : evc Γ .none env S = .ok (.bl true) S := by rw [evc]
@[simp] theorem ec_some {e : E} : evc Γ (.some e) env S = ev Γ e env S := by rw [evc]
@[simp] theorem ei_e {a : E} : evi Γ (.e a) env S = (ev Γ a env S).bind fun x S => itR x S := by rw [evi]; rfl
@[simp] theorem ei_1 {a : E} : evi Γ (.rng1 a) env S = (ev Γ a env S).bind fun x S => rngR x S := by rw [evi]; rfl
@[simp] theorem ei_2 {a b : E} : evi Γ (.rng2 a b) env S = (ev Γ a env S).bind fun x S => (ev Γ b env S).bind fun y S => rng2R x y S := by rw [evi]; rfl
@[simp] theorem x_pass : xc Γ fu .pass env S = .ok (.nx env) S := by rw [xc]
@[simp] theorem x_expr {e : E} : xc Γ fu (.expr e) env S = (ev Γ e env S).bind fun _ S => .ok (.nx env) S := by rw [xc]
@[simp] theorem x_set {i : Nat} {e : E} : xc Γ fu (.set i e) env S = (ev Γ e env S).bind fun x S => .ok (.nx (env.set i (some x))) S := by rw [xc]
@[simp] theorem x_setT {i j : Nat} {e : E} : xc Γ fu (.setT i j e) env S = (ev Γ e env S).bind fun x S => setTR (.two i j) x env S := by rw [xc]; rfl
def parR (i j : Nat) (env : Env) (l : List D) (S : Store) : R Fl := match l with
    | [x, y] => .ok (.nx ((env.set i (some x)).set j (some y))) S
    | _ => .bad
@[simp] theorem parR_two {i j : Nat} {x y : D} : parR i j env [x, y] S = .ok (.nx ((env.set i (some x)).set j (some y))) S := by cases S <;> rfl
@[simp] theorem x_par {i j : Nat} {a b : E} : xc Γ fu (.par i j a b) env S = (evs Γ (.cons a (.cons b .nil)) env S).bind fun l S => parR i j env l S := by rw [xc]; rfl
@[simp] theorem x_ret {e : E} : xc Γ fu (.ret e) env S = (ev Γ e env S).bind fun x S => .ok (.ret x) S := by rw [xc]
@[simp] theorem x_retN : xc Γ fu .retN env S = .ok (.ret .non) S := by rw [xc]
@[simp] theorem x_ifs {c : E} {a b : Cs} : xc Γ fu (.ifs c a b) env S = (ev Γ c env S).bind fun x S => ifb x (xcs Γ fu a env S) (xcs Γ fu b env S) := by rw [xc]; rfl
@[simp] theorem x_for {tg : Tg} {it : It} {b : Cs} : xc Γ fu (.for tg it b) env S = (evi Γ it env S).bind fun src S => forLoop src.guard tg.set (fun env S => xcs Γ fu b env S) src.items env S := by rw [xc]
@[simp] theorem x_whl {c : E} {b : Cs} : xc Γ fu (.whl c b) env S = whlLoop (fun env S => ev Γ c env S) (fun env S => xcs Γ fu b env S) fu env S := by rw [xc]
@[simp] theorem x_brk : xc Γ fu .brk env S = .ok (.bk env) S := by rw [xc]
@[simp] theorem x_never : xc Γ fu .never env S = .bad := by rw [xc]
theorem xs_nil : xcs Γ fu .nil env S = .ok (.nx env) S := by rw [xcs]
theorem xs_cons {c : C} {cs : Cs} : xcs Γ fu (.cons c cs) env S = andThen (xc Γ fu c env S) fun env S => xcs Γ fu cs env S := by rw [xcs]; rfl
end
/-! ### operators -/
section
variable {S : Store} {i j : Int}
@[simp] theorem p_add : Op2.add.app (.int i) (.int j) S = .ok (.int (i + j)) S := by cases S <;> rfl
@[simp] theorem p_sub : Op2.sub.app (.int i) (.int j) S = .ok (.int (i - j)) S := by cases S <;> rfl
theorem p_mul (h : -(2 ^ 64) < j ∧ j < 2 ^ 64) : Op2.mul.app (.int i) (.int j) S = .ok (.int (i * j)) S := by
  show (if _ then _ else _) = _
  rw [decide_eq_true h, Bool.or_true, if_pos rfl]
theorem p_mul' (h : -(2 ^ 64) < i ∧ i < 2 ^ 64) : Op2.mul.app (.int i) (.int j) S = .ok (.int (i * j)) S := by
  show (if _ then _ else _) = _
  rw [decide_eq_true h, Bool.true_or, if_pos rfl]
@[simp] theorem p_mod (h : j ≠ 0) : Op2.mod.app (.int i) (.int j) S = .ok (.int (i.fmod j)) S := by
  show (if _ then _ else _) = _
  rw [if_neg h]
theorem p_pow (h : 0 ≤ j ∧ j ≤ 1000000 ∧ i.natAbs < 2 ^ 64) : Op2.pow.app (.int i) (.int j) S = .ok (.int (i ^ j.toNat)) S := by
  show (if _ then _ else _) = _
  rw [if_pos h]
@[simp] theorem q_lt : cmA .lt (.int i) (.int j) S = .ok (.bl (decide (i < j))) S := by cases S <;> rfl
@[simp] theorem q_le : cmA .le (.int i) (.int j) S = .ok (.bl (decide (i ≤ j))) S := by cases S <;> rfl
@[simp] theorem q_gt : cmA .gt (.int i) (.int j) S = .ok (.bl (decide (j < i))) S := by cases S <;> rfl
@[simp] theorem q_ge : cmA .ge (.int i) (.int j) S = .ok (.bl (decide (j ≤ i))) S := by cases S <;> rfl
end
theorem len_scr {l : List Int} {S : Store} : Bi.app .len [.scr l] S = .ok (.int l.length) S := by
  show (match D.items (.scr l) S with | some l => R.ok (D.int l.length) S | none => .bad) = _
  simp [D.items]
theorem atI_get {α : Type} {l : List α} {k : Nat} (h : k < l.length) : L2.atI l (k : Int) = some l[k] := L2.atI_nat (List.getElem?_eq_getElem h)
theorem at_scr {l : List Int} {k : Nat} {S : Store} (h : k < l.length) : atD (.scr l) (.int (k : Int)) S = .ok (.int l[k]) S := by
  unfold atD seqAt
  simp only [D.items]
  rw [atI_get (by simpa using h)]
  simp
/-! ### data that may be compared -/
mutual
def D.sim : D → Bool
  | .bl _ => false
  | .scr _ => false
  | .loc _ => false
  | .fn _ => false
  | .dctv _ _ => false
  | .exn _ => false
  | .tup l => D.sims l
  | .lst l => D.sims l
  | _ => true
def D.sims : List D → Bool
  | [] => true
  | d :: l => D.sim d && D.sims l
end
mutual
theorem sim_pure : ∀ {d : D}, d.sim = true → d.pure = true
  | .non, _ => rfl
  | .int _, _ => rfl
  | .str _, _ => rfl
  | .tup l, h => by
    unfold D.sim at h
    unfold D.pure
    exact sims_pures h
  | .lst l, h => by
    unfold D.sim at h
    unfold D.pure
    exact sims_pures h
theorem sims_pures : ∀ {l : List D}, D.sims l = true → D.pures l = true
  | [], _ => rfl
  | d :: l, h => by
    unfold D.sims at h
    rw [Bool.and_eq_true] at h
    unfold D.pures
    rw [sim_pure h.1, sims_pures h.2]
    rfl
end
mutual
theorem eqv_iff : ∀ {x y : D}, x.sim = true → y.sim = true → (PyData.eqv x.py y.py = true ↔ x = y)
  | .non, y, _, h => by cases y <;> first | (cases h; done) | simp [D.py, PyData.eqv]
  | .int i, y, _, h => by cases y <;> first | (cases h; done) | simp [D.py, PyData.eqv]
  | .str i, y, _, h => by cases y <;> first | (cases h; done) | simp [D.py, PyData.eqv]
  | .tup l, y, h1, h => by
    unfold D.sim at h1
    cases y with
    | tup m =>
      unfold D.sim at h
      simp only [D.py, PyData.eqv, D.tup.injEq]
      exact eqvs_iff h1 h
    | _ => first | (cases h; done) | simp [D.py, PyData.eqv]
  | .lst l, y, h1, h => by
    unfold D.sim at h1
    cases y with
    | lst m =>
      unfold D.sim at h
      simp only [D.py, PyData.eqv, D.lst.injEq]
      exact eqvs_iff h1 h
    | _ => first | (cases h; done) | simp [D.py, PyData.eqv]
theorem eqvs_iff : ∀ {x y : List D}, D.sims x = true → D.sims y = true → (PyData.eqvAll (D.pys x) (D.pys y) = true ↔ x = y)
  | [], [], _, _ => by simp [D.pys, PyData.eqvAll]
  | [], _ :: _, _, _ => by simp [D.pys, PyData.eqvAll]
  | _ :: _, [], _, _ => by simp [D.pys, PyData.eqvAll]
  | a :: x, b :: y, h1, h2 => by
    unfold D.sims at h1 h2
    rw [Bool.and_eq_true] at h1 h2
    simp only [D.pys, PyData.eqvAll, Bool.and_eq_true, List.cons.injEq]
    rw [eqv_iff h1.1 h2.1, eqvs_iff h1.2 h2.2]
end
/-- simple, of a depth -/
def Ok (n : Nat) (d : D) : Prop := d.sim = true ∧ d.py.depth ≤ n
theorem ok_int {n : Nat} {i : Int} : Ok n (.int i) := ⟨rfl, Nat.zero_le _⟩
theorem ok_str {n : Nat} {x : Str} : Ok n (.str x) := ⟨rfl, Nat.zero_le _⟩
theorem ok_non {n : Nat} : Ok n .non := ⟨rfl, Nat.zero_le _⟩
theorem oks {n : Nat} : ∀ {l : List D}, (∀ d ∈ l, Ok n d) → D.sims l = true ∧ PyData.depthAll (D.pys l) ≤ n
  | [], _ => ⟨rfl, Nat.zero_le _⟩
  | d :: l, h => by
    obtain ⟨h1, h2⟩ := h d List.mem_cons_self
    obtain ⟨h3, h4⟩ := oks fun e he => h e (List.mem_cons_of_mem _ he)
    refine ⟨by unfold D.sims; rw [h1, h3]; rfl, ?_⟩
    unfold D.pys PyData.depthAll
    exact Nat.max_le.mpr ⟨h2, h4⟩
theorem ok_tup {n : Nat} {l : List D} (h : ∀ d ∈ l, Ok n d) : Ok (n + 1) (.tup l) := by
  obtain ⟨h1, h2⟩ := oks h
  refine ⟨by unfold D.sim; exact h1, ?_⟩
  unfold D.py PyData.depth
  exact Nat.succ_le_succ h2
theorem ok_lst {n : Nat} {l : List D} (h : ∀ d ∈ l, Ok n d) : Ok (n + 1) (.lst l) := by
  obtain ⟨h1, h2⟩ := oks h
  refine ⟨by unfold D.sim; exact h1, ?_⟩
  unfold D.py PyData.depth
  exact Nat.succ_le_succ h2
theorem Ok.le {n m : Nat} {d : D} (h : Ok n d) (k : n ≤ m) : Ok m d := ⟨h.1, Nat.le_trans h.2 k⟩
open Classical in
theorem eqD_ok {x y : D} {S : Store} (hx : Ok 30 (x.rd S)) (hy : Ok 30 (y.rd S)) : eqD x y S = some (decide (x.rd S = y.rd S)) := by
  unfold eqD
  dsimp only
  rw [sim_pure hx.1, sim_pure hy.1, decide_eq_true hx.2, decide_eq_true hy.2]
  show some _ = some _
  congr 1
  rw [Bool.eq_iff_iff, eqv_iff hx.1 hy.1, decide_eq_true_eq]
open Classical in
theorem q_eq {x y : D} {S : Store} (hx : Ok 30 (x.rd S)) (hy : Ok 30 (y.rd S)) : cmA .eq x y S = .ok (.bl (decide (x.rd S = y.rd S))) S := by
  unfold cmA
  show (match eqD x y S with | some c => R.ok (D.bl c) S | none => R.bad) = _
  rw [eqD_ok hx hy]
open Classical in
theorem q_ne {x y : D} {S : Store} (hx : Ok 30 (x.rd S)) (hy : Ok 30 (y.rd S)) : cmA .ne x y S = .ok (.bl (!decide (x.rd S = y.rd S))) S := by
  unfold cmA
  show (match (eqD x y S).map (!·) with | some c => R.ok (D.bl c) S | none => R.bad) = _
  rw [eqD_ok hx hy]
  rfl
theorem ok_ints {n : Nat} {l : List Int} : Ok (n + 1) (.lst (l.map .int)) := ok_lst fun d hd => by
  obtain ⟨i, _, rfl⟩ := List.mem_map.mp hd
  exact ok_int
theorem ok_strs {n : Nat} {l : List Str} : Ok (n + 1) (.lst (l.map .str)) := ok_lst fun d hd => by
  obtain ⟨i, _, rfl⟩ := List.mem_map.mp hd
  exact ok_str
open Classical in
theorem eq_scr {l : List Int} {S : Store} : cmA .eq (.scr l) (.lst []) S = .ok (.bl (decide (l = []))) S := by
  have h1 : Ok 30 ((D.scr l).rd S) := ok_ints (n := 29) (l := l)
  have h2 : Ok 30 ((D.lst []).rd S) := ok_lst (n := 29) fun d hd => by cases hd
  rw [q_eq h1 h2]
  congr 2
  simp [D.rd]
/-! ### what the laws draw -/
/-- the script's cell as the laws read it -/
def cellAt (ns : List Int) (k : Nat) : Int := if h : k < ns.length then ns[k] else if h2 : ns = [] then 0 else ns[k % ns.length]'(Nat.mod_lt _ (by cases ns <;> simp_all)) * 31 + k
theorem r_cell {fu n : Nat} {ns : List Int} {k : Nat} {S : Store} (h : ns.length ≤ 63) : run G fu (n + 1) 0 [.scr ns, .int k] S = .ok (.int (cellAt ns k)) S := by
  rw [run_at G0]
  simp only [c0, List.length_cons, List.length_nil, List.map_cons, List.map_nil]
  rw [xs_cons]
  simp [len_scr]
  unfold cellAt
  by_cases h1 : k < ns.length
  · simp [h1, xs_cons, at_scr h1]
  · simp [h1, xs_cons, xs_nil, eq_scr]
    by_cases h2 : ns = []
    · simp [h2]
    · have h3 : 0 < ns.length := List.length_pos_iff.mpr h2
      have h4 : k % ns.length < ns.length := Nat.mod_lt _ h3
      have e1 : (k : Int) % (ns.length : Int) = ((k % ns.length : Nat) : Int) := rfl
      have e0 : Int.fmod (k : Int) (ns.length : Int) = ((k % ns.length : Nat) : Int) := by rw [Int.fmod_eq_emod_of_nonneg _ (by omega)]; rfl
      have e9 := at_scr (S := S) h4
      rw [← e0] at e9
      simp [h2, len_scr, e9, p_mul]
def mixed (ns : List Int) (k : Nat) (m : Int) : Int := Int.fmod (Int.fmod (Int.fmod ((Int.fmod (cellAt ns k * 1103515245 + 7919 * k + 12345) 2147483647) ^ 5) 2147483647) 999983) m
theorem r_mixed {fu n : Nat} {ns : List Int} {k : Nat} {m : Int} {S : Store} (h : ns.length ≤ 63) (hm : 0 < m) : run G fu (n + 2) 1 [.scr ns, .int k, .int m] S = .ok (.int (mixed ns k m)) S := by
  rw [run_at G1]
  simp only [c1, List.length_cons, List.length_nil, List.map_cons, List.map_nil]
  have hm' : m ≠ 0 := by omega
  have b := Int.emod_nonneg (cellAt ns k * 1103515245 + 7919 * k + 12345) (show (2147483647 : Int) ≠ 0 by decide)
  have b2 := Int.emod_lt_of_pos (cellAt ns k * 1103515245 + 7919 * k + 12345) (show (0 : Int) < 2147483647 by decide)
  have hp : (Int.fmod (cellAt ns k * 1103515245 + 7919 * k + 12345) 2147483647).natAbs < 2 ^ 64 := by
    rw [Int.fmod_eq_emod_of_nonneg _ (by decide)]
    omega
  simp [xs_cons, xs_nil, r_cell h, p_mul, p_mul', p_pow, hp, hm']
  rfl
theorem mixed_lt {ns : List Int} {k : Nat} {m : Int} (hm : 0 < m) : 0 ≤ mixed ns k m ∧ mixed ns k m < m := by
  unfold mixed
  rw [Int.fmod_eq_emod_of_nonneg _ (Int.le_of_lt hm)]
  exact ⟨Int.emod_nonneg _ (by omega), Int.emod_lt_of_pos _ hm⟩
/-- the town's cell -/
def tw (k : Nat) : Cell := .lst (List.replicate k (.int 0))
theorem r_draw {fu n : Nat} {ns : List Int} {k : Nat} {m : Int} {Z : Store} (h : ns.length ≤ 63) (hm : 0 < m) (hk : k < 100000) :
    run G fu (n + 3) 2 [.scr ns, .loc 0, .int m] (tw k :: Z) = .ok (.int (mixed ns (k + 1) m)) (tw (k + 1) :: Z) := by
  rw [run_at G2]
  simp only [c2, List.length_cons, List.length_nil, List.map_cons, List.map_nil]
  have e1 : Mt.append.app (.loc 0) [.int 0] (tw k :: Z) = .ok .non (tw (k + 1) :: Z) := by
    show (if okLen (List.replicate k (D.int 0)).length = true then _ else _) = _
    rw [if_pos (okLen_le' (by rw [List.length_replicate]; omega))]
    simp [tw, List.replicate_succ']
  have e2 : Mt.recv .append (.loc 0) (tw k :: Z) = true := rfl
  have e3 : Bi.len.app [.loc 0] (tw (k + 1) :: Z) = .ok (.int ((k + 1 : Nat) : Int)) (tw (k + 1) :: Z) := by
    show R.ok (D.int (List.replicate (k + 1) (D.int 0)).length) _ = _
    rw [List.length_replicate]
  rw [xs_cons]
  simp [e1, e2]
  rw [xs_cons]
  simp [e3]
  have e4 : ((k : Int) + 1) = ((k + 1 : Nat) : Int) := by omega
  rw [e4, r_mixed h hm]
  simp
  exact fin_len rfl
theorem draw_some {fu n : Nat} {ns : List Int} {k : Nat} {m : Nat} {Z : Store} (h : ns.length ≤ 63) (hm : 0 < m) (hk : k < 100000) :
    ∃ r : Nat, r < m ∧ run G fu (n + 3) 2 [.scr ns, .loc 0, .int (m : Int)] (tw k :: Z) = .ok (.int (r : Int)) (tw (k + 1) :: Z) := by
  have hb := mixed_lt (ns := ns) (k := k + 1) (m := m) (by omega)
  refine ⟨(mixed ns (k + 1) m).toNat, by omega, ?_⟩
  rw [r_draw h (by omega) hk]
  congr 2
  omega
end SV
/-! SvU: texts. -/
namespace SV
open PySem
/-- a text by its signs -/
def tx (l : List Nat) : Str := ⟨l.toArray⟩
theorem tx_add (a b : List Nat) : tx a ++ tx b = tx (a ++ b) := by
  show Str.append (tx a) (tx b) = _
  unfold Str.append tx
  simp
theorem tx_len (a : List Nat) : (tx a).length = a.length := by
  unfold tx Str.length
  simp
theorem tx_inj {a b : List Nat} : tx a = tx b ↔ a = b := by
  unfold tx
  simp
@[simp] theorem tx_cps (a : List Nat) : (tx a).cps.toList = a := by simp [tx]
theorem tx_abc : ("abc" : Str) = tx [97, 98, 99] := by decide +kernel
theorem tx_nil : ("" : Str) = tx [] := by decide +kernel
theorem tx_a : ("a" : Str) = tx [97] := by decide +kernel
theorem tx_b : ("b" : Str) = tx [98] := by decide +kernel
abbrev dt (l : List Nat) : D := .str (tx l)
theorem dt_inj {a b : List Nat} : dt a = dt b ↔ a = b := by
  unfold dt
  rw [D.str.injEq, tx_inj]
section
variable {S : Store} {a b : List Nat}
theorem t_add (h : a.length + b.length ≤ 16000000) : Op2.add.app (dt a) (dt b) S = .ok (dt (a ++ b)) S := by
  show (if okLen ((tx a).length + (tx b).length) = true then R.ok (D.str (tx a ++ tx b)) S else .bad) = _
  rw [tx_len, tx_len, if_pos (okLen_le' h), tx_add]
theorem t_len (h : a.length ≤ 16000000) : Bi.app .len [dt a] S = .ok (.int a.length) S := by
  show (if okLen (tx a).length = true then R.ok (D.int (tx a).length) S else .bad) = _
  rw [tx_len, if_pos (okLen_le' h)]
theorem t_cut {lo hi : Option Int} (h : a.length ≤ 16000000) : cutD (dt a) lo hi S = .ok (dt (cutL a lo hi)) S := by
  show (if okLen (tx a).length = true then R.ok (D.str ⟨(cutL (tx a).cps.toList lo hi).toArray⟩) S else .bad) = _
  rw [tx_len, if_pos (okLen_le' h), tx_cps]
  rfl
theorem t_at {i : Nat} (h : a.length ≤ 16000000) (hi : i < a.length) : atD (dt a) (.int (i : Int)) S = .ok (dt [a[i]]) S := by
  show (if okLen (tx a).length = true then (match L2.atI (tx a).cps.toList (i : Int) with | some c => R.ok (sign c) S | none => .bad) else .bad) = _
  rw [tx_len, if_pos (okLen_le' h), tx_cps, atI_get hi]
  rfl
end
theorem cut_to {α : Type} (l : List α) (n : Nat) : cutL l none (some (n : Int)) = l.take n := by
  unfold cutL
  rw [HT.sIx_none, HT.sIx_nat, List.drop_zero, Nat.sub_zero, List.take_eq_take_min (i := n)]
theorem cut_from {α : Type} (l : List α) (n : Nat) : cutL l (some (n : Int)) none = l.drop n := by
  unfold cutL
  rw [HT.sIx_none, HT.sIx_nat]
  by_cases h : n ≤ l.length
  · rw [Nat.min_eq_left h, List.take_of_length_le (by rw [List.length_drop]; omega)]
  · rw [Nat.min_eq_right (by omega), List.drop_length, List.drop_eq_nil_of_le (by omega)]
    exact List.take_nil
theorem cut_mid {α : Type} (l : List α) (m n : Nat) : cutL l (some (m : Int)) (some (n : Int)) = (l.drop m).take (n - m) := by
  unfold cutL
  rw [HT.sIx_nat, HT.sIx_nat]
  by_cases h : m ≤ l.length
  · rw [Nat.min_eq_left h]
    by_cases h2 : n ≤ l.length
    · rw [Nat.min_eq_left h2]
    · rw [Nat.min_eq_right (by omega), List.take_of_length_le (by rw [List.length_drop]; omega), List.take_of_length_le (by rw [List.length_drop]; omega)]
  · rw [Nat.min_eq_right (a := m) (by omega), List.drop_length, List.drop_eq_nil_of_le (show l.length ≤ m by omega)]
    rw [List.take_nil, List.take_nil]
theorem cut_last {α : Type} (l : List α) (n : Nat) (h : n ≤ l.length) (hn : 0 < n) : cutL l (some (-(n : Int))) none = l.drop (l.length - n) := by
  unfold cutL
  rw [HT.sIx_none]
  have e : HT.sIx l.length 0 (some (-(n : Int))) = l.length - n := by
    show (if -(n : Int) < 0 then (-(n : Int) + (l.length : Int)).toNat else _) = _
    rw [if_pos (by omega)]
    omega
  rw [e, List.take_of_length_le (by rw [List.length_drop]; omega)]
/-! ### loops -/
theorem for_inv {st : D → Env → Option Env} {f : Env → Store → R Fl} {items : List D} {env : Env} {S : Store} (Pv : Nat → Env → Store → Prop) (h0 : Pv 0 env S)
    (step : ∀ i x env S, items[i]? = some x → Pv i env S → ∃ env1 env2 S2, st x env = some env1 ∧ f env1 S = .ok (.nx env2) S2 ∧ Pv (i + 1) env2 S2) : ∃ env2 S2, forLoop none st f items env S = .ok (.nx env2) S2 ∧ Pv items.length env2 S2 := by
  have key : ∀ (m i : Nat) (env : Env) (S : Store), items.length - i = m → i ≤ items.length → Pv i env S → ∃ env2 S2, forLoop none st f (items.drop i) env S = .ok (.nx env2) S2 ∧ Pv items.length env2 S2 := by
    intro m
    induction m with
    | zero =>
      intro i env S em hi hP
      have e : i = items.length := by omega
      subst e
      rw [List.drop_length]
      refine ⟨env, S, ?_, hP⟩
      unfold forLoop
      rw [if_pos (good_none S)]
    | succ m ih =>
      intro i env S em hi hP
      have lt : i < items.length := by omega
      obtain ⟨env1, env2, S2, h1, h2, h3⟩ := step i items[i] env S (List.getElem?_eq_getElem lt) hP
      obtain ⟨env3, S3, h4, h5⟩ := ih (i + 1) env2 S2 (by omega) (by omega) h3
      refine ⟨env3, S3, ?_, h5⟩
      rw [List.drop_eq_getElem_cons lt]
      unfold forLoop
      rw [if_pos (good_none S), h1]
      dsimp only
      rw [h2]
      exact h4
  have := key items.length 0 env S (by omega) (Nat.zero_le _) h0
  rwa [List.drop_zero] at this
theorem whl_inv {c : Env → Store → R D} {f : Env → Store → R Fl} {env : Env} {S : Store} (Pv : Nat → Env → Store → Prop) {m fu : Nat} (hm : m < fu) (h0 : Pv m env S)
    (step : ∀ m env S, Pv m env S → (c env S = .ok (.bl false) S) ∨ (c env S = .ok (.bl true) S ∧ ∃ m' env2 S2, m' < m ∧ f env S = .ok (.nx env2) S2 ∧ Pv m' env2 S2)) :
    ∃ m env2 S2, whlLoop c f fu env S = .ok (.nx env2) S2 ∧ Pv m env2 S2 ∧ c env2 S2 = .ok (.bl false) S2 := by
  induction fu generalizing m env S with
  | zero => omega
  | succ fu ih =>
    unfold whlLoop
    rcases step m env S h0 with h | ⟨h, m', env2, S2, hlt, h2, h3⟩
    · rw [h]
      exact ⟨m, env, S, rfl, h0, h⟩
    · rw [h]
      dsimp only [R.bind_ok]
      rw [h2]
      dsimp only [R.bind_ok]
      exact ih (by omega) h3
/-- a comprehension without effects -/
theorem lc_pure {st : D → Option Env} {fc fe : Env → Store → R D} {S : Store} {p : D → Bool} {q : D → D} : ∀ {items : List D}, (∀ x ∈ items, ∃ env, st x = some env ∧ fc env S = .ok (.bl (p x)) S ∧ (p x = true → fe env S = .ok (q x) S)) →
    lcLoop none st fc fe items S = .ok ((items.filter p).map q) S
  | [], _ => by
    unfold lcLoop
    rw [if_pos (good_none S)]
    rfl
  | x :: xs, h => by
    unfold lcLoop
    rw [if_pos (good_none S)]
    obtain ⟨env, h1, h2, h3⟩ := h x List.mem_cons_self
    rw [h1]
    dsimp only
    rw [h2]
    dsimp only [R.nox_ok, R.bind_ok]
    have ih := lc_pure fun y hy => h y (List.mem_cons_of_mem _ hy)
    cases hp : p x with
    | false =>
      dsimp only
      rw [ih, List.filter_cons_of_neg (by simp [hp])]
    | true =>
      dsimp only
      rw [h3 hp]
      dsimp only [R.nox_ok, R.bind_ok]
      rw [ih, List.filter_cons_of_pos hp]
      rfl
theorem lcR_pure {st : D → Option Env} {fc fe : Env → Store → R D} {S : Store} {items : List D} (p : D → Bool) (q : D → D) (hl : items.length ≤ 16000000) (h : ∀ x ∈ items, ∃ env, st x = some env ∧ fc env S = .ok (.bl (p x)) S ∧ (p x = true → fe env S = .ok (q x) S)) :
    lcR none st fc fe items S = .ok (.lst ((items.filter p).map q)) S := by
  unfold lcR
  rw [if_pos (okLen_le' hl), lc_pure h]
  rfl
/-! ### the laws' texts -/
/-- letters only -/
def T3 (l : List Nat) : Prop := ∀ x ∈ l, x = 97 ∨ x = 98 ∨ x = 99
theorem T3.app {a b : List Nat} (h : T3 a) (k : T3 b) : T3 (a ++ b) := fun x hx => (List.mem_append.mp hx).elim (h x) (k x)
theorem T3.take {a : List Nat} (h : T3 a) (n : Nat) : T3 (a.take n) := fun x hx => h x (List.mem_of_mem_take hx)
theorem T3.drop {a : List Nat} (h : T3 a) (n : Nat) : T3 (a.drop n) := fun x hx => h x (List.mem_of_mem_drop hx)
section
variable {fu n : Nat} {ns : List Int} {k : Nat} {Z : Store}
theorem r_pick {l : List D} (h : ns.length ≤ 63) (hl : 0 < l.length) (hl2 : l.length ≤ 1000) (hk : k < 100000) :
    ∃ r, ∃ hr : r < l.length, run G fu (n + 4) 3 [.scr ns, .loc 0, .lst l] (tw k :: Z) = .ok l[r] (tw (k + 1) :: Z) := by
  obtain ⟨r, hr, e⟩ := draw_some (fu := fu) (n := n) (ns := ns) (k := k) (m := l.length) (Z := Z) h hl hk
  refine ⟨r, hr, ?_⟩
  rw [run_at G3]
  simp only [c3, List.length_cons, List.length_nil, List.map_cons, List.map_nil]
  have e2 : ∀ S, Bi.len.app [.lst l] S = .ok (.int l.length) S := fun S => rfl
  have e3 : ∀ S, atD (.lst l) (.int (r : Int)) S = .ok l[r] S := fun S => by
    show (match L2.atI l (r : Int) with | some d => R.ok d S | none => .bad) = _
    rw [atI_get hr]
  rw [xs_cons]
  simp [e2, e, e3]
  exact fin_len rfl
theorem text_loop {low most few : Nat} {w : Nat} (h : ns.length ≤ 63) (f1 : 0 < few) (f2 : few ≤ 3) (hw : w ≤ 60) (hk : k + 100 < 100000) :
    ∃ l o, T3 l ∧ l.length = w ∧ forLoop none (Tg.one 6).set (fun env S => xcs (run G fu (n + 4)) fu (.cons (.set 5 (.op .add (.var 5) (.idx (.cst (.str ("abc" : Str))) (.call 2 (.cons (.var 0) (.cons (.var 1) (.cons (.var 4) .nil))))))) .nil) env S) (rngD 0 w)
      [some (.scr ns), some (.loc 0), some (.int (low : Int)), some (.int (most : Int)), some (.int (few : Int)), some (.str ("" : Str)), none] (tw (k + 2) :: Z) =
      .ok (.nx [some (.scr ns), some (.loc 0), some (.int (low : Int)), some (.int (most : Int)), some (.int (few : Int)), some (dt l), o]) (tw (k + 2 + w) :: Z) := by
  obtain ⟨env2, S2, h1, h2⟩ := for_inv (items := rngD 0 (w)) (st := (Tg.one 6).set) (f := fun env S => xcs (run G fu (n + 4)) fu (.cons (.set 5 (.op .add (.var 5) (.idx (.cst (.str ("abc" : Str))) (.call 2 (.cons (.var 0) (.cons (.var 1) (.cons (.var 4) .nil))))))) .nil) env S)
    (env := [some (.scr ns), some (.loc 0), some (.int (low : Int)), some (.int (most : Int)), some (.int (few : Int)), some (.str ("" : Str)), none]) (S := tw (k + 2) :: Z)
    (fun i env S => ∃ l o, env = [some (.scr ns), some (.loc 0), some (.int (low : Int)), some (.int (most : Int)), some (.int (few : Int)), some (dt l), o] ∧ S = tw (k + 2 + i) :: Z ∧ T3 l ∧ l.length = i)
    ⟨[], none, by rw [tx_nil], rfl, (fun x hx => nomatch hx), rfl⟩ (by
      rintro i x env S hx ⟨l, o, rfl, rfl, hT, hl⟩
      have hi : i < w := by
        have := (List.getElem?_eq_some_iff.mp hx).1
        simpa [rngD] using this
      obtain ⟨r3, hr3, e4⟩ := draw_some (fu := fu) (n := n + 1) (ns := ns) (k := k + 2 + i) (m := few) (Z := Z) h f1 (by omega)
      have h3 : r3 < [97, 98, 99].length := by
        show r3 < 3
        omega
      refine ⟨_, _, _, rfl, ?_, l ++ [[97, 98, 99][r3]], some x, rfl, rfl, hT.app ?_, by simp [hl]⟩
      · rw [xs_cons]
        simp [e4, tx_abc, t_at (S := tw (k + 2 + i + 1) :: Z) (a := [97, 98, 99]) (i := r3) (by simp) h3, t_add (S := tw (k + 2 + i + 1) :: Z) (a := l) (b := [[97, 98, 99][r3]]) (by simp; omega), xs_nil]
        exact congrArg tw (by omega)
      · intro y hy
        rw [List.mem_singleton] at hy
        subst hy
        match r3, h3 with
        | 0, _ => exact .inl rfl
        | 1, _ => exact .inr (.inl rfl)
        | 2, _ => exact .inr (.inr rfl))
  have hz : (rngD 0 w).length = w := by simp [rngD]
  obtain ⟨l, o, rfl, rfl, hT, hl⟩ := h2
  rw [hz] at hl h1
  exact ⟨l, o, hT, hl, h1⟩
theorem r_text {low most : Nat} (h : ns.length ≤ 63) (hm : low ≤ most) (hm2 : most ≤ 60) (hk : k + 100 < 100000) :
    ∃ l k', T3 l ∧ low ≤ l.length ∧ l.length ≤ most ∧ k' ≤ k + 100 ∧ run G fu (n + 5) 4 [.scr ns, .loc 0, .int (low : Int), .int (most : Int)] (tw k :: Z) = .ok (dt l) (tw k' :: Z) := by
  obtain ⟨r, hr, e⟩ := r_pick (fu := fu) (n := n) (ns := ns) (k := k) (Z := Z) (l := [.int 1, .int 2, .int 2, .int 3, .int 3, .int 3]) h (by decide) (by decide) (by omega)
  have hfew : ∃ few : Nat, 0 < few ∧ few ≤ 3 ∧ [D.int 1, .int 2, .int 2, .int 3, .int 3, .int 3][r] = .int (few : Int) := by
    match r, hr with
    | 0, _ => exact ⟨1, by decide, by decide, rfl⟩
    | 1, _ => exact ⟨2, by decide, by decide, rfl⟩
    | 2, _ => exact ⟨2, by decide, by decide, rfl⟩
    | 3, _ => exact ⟨3, by decide, by decide, rfl⟩
    | 4, _ => exact ⟨3, by decide, by decide, rfl⟩
    | 5, _ => exact ⟨3, by decide, by decide, rfl⟩
  obtain ⟨few, f1, f2, e2⟩ := hfew
  rw [e2] at e
  obtain ⟨r2, hr2, e3⟩ := draw_some (fu := fu) (n := n + 1) (ns := ns) (k := k + 1) (m := most - low + 1) (Z := Z) h (by omega) (by omega)
  have em : ((most - low + 1 : Nat) : Int) = (most : Int) - (low : Int) + 1 := by omega
  rw [em, show k + 1 + 1 = k + 2 from rfl] at e3
  have el : ((low : Int) + (r2 : Int)).toNat = low + r2 := by omega
  obtain ⟨l, o, hT, hl, h1⟩ := text_loop (fu := fu) (n := n) (ns := ns) (k := k) (Z := Z) (low := low) (most := most) (w := low + r2) h f1 f2 (by omega) hk
  refine ⟨l, k + 2 + (low + r2), hT, by omega, by omega, by omega, ?_⟩
  rw [run_at G4]
  simp only [c4, List.length_cons, List.length_nil, List.map_cons, List.map_nil]
  rw [xs_cons]
  simp [e]
  rw [xs_cons]
  simp
  rw [xs_cons]
  simp only [x_for, ei_1, e_op, e_var, e_call, es_cons, es_nil, e_cst, List.getD_cons_zero, List.getD_cons_succ, slotR_some, bo, p_add, p_sub]
  rw [show n + 1 + 3 = n + 4 from rfl] at e3
  rw [e3]
  simp only [bo, p_add]
  rw [rngR_int (show -1000000 ≤ (low : Int) + (r2 : Int) ∧ (low : Int) + (r2 : Int) ≤ 1000000 by omega)]
  simp only [bo, el]
  rw [h1, andThen_nx, xs_cons]
  simp only [x_ret, e_var, List.getD_cons_zero, List.getD_cons_succ, slotR_some, bo, andThen_ret, toD_ret]
  exact fin_len rfl
end
end SV
/-! SvV: _law_like: a text in which pieces come again. -/
namespace SV
open PySem
section
variable {fu n : Nat} {ns : List Int} {k : Nat} {Z : Store}
/-- one more piece -/
theorem like_step {low M w : Nat} {a : List Nat} (h : ns.length ≤ 63) (hT : T3 a) (ha : 2 ≤ a.length) (ha2 : a.length ≤ 60) (hk : k < 100000) :
    ∃ b, T3 b ∧ 0 < b.length ∧ b.length ≤ 3 ∧ xcs (run G fu (n + 5)) fu (.cons (.set 5 (.op .add (.var 5) (.call 3 (.cons (.var 0) (.cons (.var 1) (.cons (.lst (.cons (.sl (.var 5) .none (.some (.cst (.int 2)))) (.cons (.sl (.var 5) .none (.some (.cst (.int 3)))) (.cons (.sl (.var 5) (.some (.cst (.int 1))) (.some (.cst (.int 3)))) (.cons (.cst (.str ("a" : Str))) (.cons (.cst (.str ("b" : Str))) (.cons (.sl (.var 5) (.some (.neg (.cst (.int 2)))) .none) .nil))))))) .nil)))))) .nil)
      [some (.scr ns), some (.loc 0), some (.int (low : Int)), some (.int (M : Int)), some (.int (w : Int)), some (dt a)] (tw k :: Z) =
      .ok (.nx [some (.scr ns), some (.loc 0), some (.int (low : Int)), some (.int (M : Int)), some (.int (w : Int)), some (dt (a ++ b))]) (tw (k + 1) :: Z) := by
  have hz : a.length ≤ 16000000 := by omega
  have c1 := t_cut (S := tw k :: Z) (a := a) (lo := none) (hi := some 2) hz
  have c2 := t_cut (S := tw k :: Z) (a := a) (lo := none) (hi := some 3) hz
  have c3 := t_cut (S := tw k :: Z) (a := a) (lo := some 1) (hi := some 3) hz
  have c4 := t_cut (S := tw k :: Z) (a := a) (lo := some (-2)) (hi := none) hz
  have d1 := cut_to a 2
  have d2 := cut_to a 3
  have d3 := cut_mid a 1 3
  have d4 := cut_last a 2 ha (by decide)
  rw [show ((2 : Nat) : Int) = 2 from rfl] at d1 d4
  rw [show ((3 : Nat) : Int) = 3 from rfl] at d2 d3
  rw [show ((1 : Nat) : Int) = 1 from rfl] at d3
  rw [d1] at c1
  rw [d2] at c2
  rw [d3] at c3
  rw [d4] at c4
  obtain ⟨r, hr, e⟩ := r_pick (fu := fu) (n := n + 1) (ns := ns) (k := k) (Z := Z) (l := [dt (a.take 2), dt (a.take 3), dt ((a.drop 1).take (3 - 1)), dt [97], dt [98], dt (a.drop (a.length - 2))]) h (by simp) (by simp) hk
  have hb : ∃ b, T3 b ∧ 0 < b.length ∧ b.length ≤ 3 ∧ [dt (a.take 2), dt (a.take 3), dt ((a.drop 1).take (3 - 1)), dt [97], dt [98], dt (a.drop (a.length - 2))][r] = dt b := by
    match r, hr with
    | 0, _ => exact ⟨_, hT.take 2, by rw [List.length_take]; omega, by rw [List.length_take]; omega, rfl⟩
    | 1, _ => exact ⟨_, hT.take 3, by rw [List.length_take]; omega, by rw [List.length_take]; omega, rfl⟩
    | 2, _ => exact ⟨_, (hT.drop 1).take _, by rw [List.length_take, List.length_drop]; omega, by rw [List.length_take]; omega, rfl⟩
    | 3, _ => exact ⟨[97], fun x hx => by rw [List.mem_singleton] at hx; exact .inl hx, by decide, by decide, rfl⟩
    | 4, _ => exact ⟨[98], fun x hx => by rw [List.mem_singleton] at hx; exact .inr (.inl hx), by decide, by decide, rfl⟩
    | 5, _ => exact ⟨_, hT.drop _, by rw [List.length_drop]; omega, by rw [List.length_drop]; omega, rfl⟩
  obtain ⟨b, b1, b2, b3, e2⟩ := hb
  rw [e2, show n + 1 + 4 = n + 5 from rfl] at e
  refine ⟨b, b1, b2, b3, ?_⟩
  rw [xs_cons]
  simp only [x_set, e_op, e_var, e_call, e_sl, e_lst, e_neg, eo_none, eo_some, es_cons, es_nil, e_cst, List.getD_cons_zero, List.getD_cons_succ, slotR_some, negR_int, intO_int, bo, c1, c2, c3, c4, tx_a, tx_b]
  rw [seqR_ok (by simp)]
  simp only [bo]
  rw [e]
  simp only [bo]
  rw [t_add (by omega)]
  simp only [bo, andThen_nx, xs_nil]
  rfl
theorem like_test {low M w : Nat} {a : List Nat} (ha2 : a.length ≤ 60) :
    ev (run G fu (n + 5)) (.cmp .lt (.bi .len (.cons (.var 5) .nil)) (.op .sub (.var 3) (.cst (.int 2)))) [some (.scr ns), some (.loc 0), some (.int (low : Int)), some (.int (M : Int)), some (.int (w : Int)), some (dt a)] (tw k :: Z) = .ok (.bl (decide ((a.length : Int) < (M : Int) - 2))) (tw k :: Z) := by
  simp only [e_cmp, e_bi, e_op, e_var, es_cons, es_nil, e_cst, List.getD_cons_zero, List.getD_cons_succ, slotR_some, bo, p_sub]
  rw [t_len (by omega)]
  simp only [bo, q_lt]
theorem r_like {low M : Nat} (h : ns.length ≤ 63) (hl : 2 ≤ low) (hl2 : low ≤ 4) (hM : 6 ≤ M) (hM2 : M ≤ 40) (hk : k + 1000 < 100000) (hfu : 1000 < fu) :
    ∃ (l : List Nat) (w k' : Nat), T3 l ∧ M - 2 ≤ l.length ∧ l.length ≤ M ∧ 2 ≤ w ∧ w ≤ 4 ∧ k' ≤ k + 1000 ∧ run G fu (n + 6) 5 [.scr ns, .loc 0, .int (low : Int), .int (M : Int)] (tw k :: Z) = .ok (.tup [dt l, .int (w : Int)]) (tw k' :: Z) := by
  obtain ⟨r, hr, e⟩ := r_pick (fu := fu) (n := n + 1) (ns := ns) (k := k) (Z := Z) (l := [.int 1, .int 1, .int 2, .int 2, .int 3]) h (by simp) (by simp) (by omega)
  have hw : ∃ w : Nat, 2 ≤ w ∧ w ≤ 4 ∧ [D.int 1, .int 1, .int 2, .int 2, .int 3][r] = .int ((w : Int) - 1) := by
    match r, hr with
    | 0, _ => exact ⟨2, by decide, by decide, rfl⟩
    | 1, _ => exact ⟨2, by decide, by decide, rfl⟩
    | 2, _ => exact ⟨3, by decide, by decide, rfl⟩
    | 3, _ => exact ⟨3, by decide, by decide, rfl⟩
    | 4, _ => exact ⟨4, by decide, by decide, rfl⟩
  obtain ⟨w, w1, w2, e2⟩ := hw
  rw [e2, show n + 1 + 4 = n + 5 from rfl] at e
  obtain ⟨a, k2, a1, a2, a3, a4, e3⟩ := r_text (fu := fu) (n := n) (ns := ns) (k := k + 1) (Z := Z) (low := low) (most := 4) h hl2 (by decide) (by omega)
  rw [show ((4 : Nat) : Int) = 4 from rfl] at e3
  obtain ⟨m, env2, S2, f1, ⟨l, j, rfl, rfl, l1, l2, l3, l4⟩, f3⟩ := whl_inv (fu := fu) (c := fun env S => ev (run G fu (n + 5)) (.cmp .lt (.bi .len (.cons (.var 5) .nil)) (.op .sub (.var 3) (.cst (.int 2)))) env S)
    (f := fun env S => xcs (run G fu (n + 5)) fu (.cons (.set 5 (.op .add (.var 5) (.call 3 (.cons (.var 0) (.cons (.var 1) (.cons (.lst (.cons (.sl (.var 5) .none (.some (.cst (.int 2)))) (.cons (.sl (.var 5) .none (.some (.cst (.int 3)))) (.cons (.sl (.var 5) (.some (.cst (.int 1))) (.some (.cst (.int 3)))) (.cons (.cst (.str ("a" : Str))) (.cons (.cst (.str ("b" : Str))) (.cons (.sl (.var 5) (.some (.neg (.cst (.int 2)))) .none) .nil))))))) .nil)))))) .nil) env S)
    (env := [some (.scr ns), some (.loc 0), some (.int (low : Int)), some (.int (M : Int)), some (.int (w : Int)), some (dt a)]) (S := tw k2 :: Z)
    (fun m env S => ∃ l j, env = [some (.scr ns), some (.loc 0), some (.int (low : Int)), some (.int (M : Int)), some (.int (w : Int)), some (dt l)] ∧ S = tw j :: Z ∧ T3 l ∧ 2 ≤ l.length ∧ l.length ≤ M ∧ j + m ≤ k2 + 60 ∧ m + l.length = 60)
    (m := 60 - a.length) (by omega) ⟨a, k2, rfl, rfl, a1, by omega, by omega, by omega, by omega⟩ (by
      rintro m env S ⟨l, j, rfl, rfl, l1, l2, l3, l4, l5⟩
      have ec := like_test (fu := fu) (n := n) (ns := ns) (Z := Z) (low := low) (M := M) (w := w) (a := l) (k := j) (by omega)
      by_cases hc : (l.length : Int) < (M : Int) - 2
      · right
        obtain ⟨b, b1, b2, b3, eb⟩ := like_step (fu := fu) (n := n) (ns := ns) (k := j) (Z := Z) (low := low) (M := M) (w := w) h l1 l2 (by omega) (by omega)
        refine ⟨by rw [ec, decide_eq_true hc], m - b.length, _, _, by omega, eb, l ++ b, j + 1, rfl, rfl, l1.app b1, ?_, ?_, ?_, ?_⟩
        · rw [List.length_append]
          omega
        · rw [List.length_append]
          omega
        · omega
        · rw [List.length_append]
          omega
      · left
        rw [ec, decide_eq_false hc])
  have ec := like_test (fu := fu) (n := n) (ns := ns) (Z := Z) (low := low) (M := M) (w := w) (a := l) (k := j) (by omega)
  rw [ec] at f3
  have hd : ¬ ((l.length : Int) < (M : Int) - 2) := fun z => by
    rw [decide_eq_true z] at f3
    cases f3
  obtain ⟨r2, hr2, e4⟩ := draw_some (fu := fu) (n := n + 2) (ns := ns) (k := j) (m := 3) (Z := Z) h (by decide) (by omega)
  rw [show ((3 : Nat) : Int) = 3 from rfl, show n + 2 + 3 = n + 5 from rfl] at e4
  have mx : ∀ S, Bi.max.app [.int (w : Int), .int ((M : Int) - (r2 : Int))] S = .ok (.int ((M - r2 : Nat) : Int)) S := fun S => by
    show R.ok (D.int (if (M : Int) - r2 > w then (M : Int) - r2 else w)) S = _
    congr 2
    split <;> omega
  refine ⟨l.take (M - r2), w, j + 1, l1.take _, by rw [List.length_take]; omega, by rw [List.length_take]; omega, w1, w2, by omega, ?_⟩
  rw [run_go (env := [some (.scr ns), some (.loc 0), some (.int (low : Int)), some (.int (M : Int)), none, none]) G5 rfl rfl]
  simp only [c5]
  rw [xs_cons]
  simp only [x_set, e_op, e_var, e_call, e_lst, es_cons, es_nil, e_cst, List.getD_cons_zero, List.getD_cons_succ, List.cons_append, List.nil_append, slotR_some, bo]
  rw [seqR_ok (by simp)]
  simp only [bo]
  rw [e]
  simp only [bo, p_add, andThen_nx, List.replicate, List.set_cons_succ, List.set_cons_zero]
  rw [show (1 : Int) + ((w : Int) - 1) = (w : Int) by omega, xs_cons]
  simp only [x_set, e_var, e_call, es_cons, es_nil, e_cst, List.getD_cons_zero, List.getD_cons_succ, slotR_some, bo, e3, andThen_nx, List.set_cons_succ, List.set_cons_zero]
  rw [xs_cons, x_whl, f1, andThen_nx, xs_cons]
  simp only [x_ret, e_tup, e_sl, e_bi, e_op, eo_none, eo_some, e_var, e_call, es_cons, es_nil, e_cst, List.getD_cons_zero, List.getD_cons_succ, slotR_some, bo, e4, p_sub, mx, intO_int]
  rw [t_cut (by omega), cut_to]
  simp only [bo]
  rw [seqR_ok (by simp)]
  simp only [bo, andThen_ret, toD_ret]
  exact fin_len rfl
end
end SV
/-! SvW: the program's checks, windows, views. -/
namespace SV
open PySem
theorem strip_all {a : List Nat} (h : T3 a) : Txt.stripChars (tx a) (tx [97, 98, 99]) = tx [] := by
  unfold Txt.stripChars
  rw [PyProof.Rows.stripBy_eq]
  have hg : ∀ x ∈ a, (tx [97, 98, 99]).cps.contains x = true := fun x hx => by
    rcases h x hx with rfl | rfl | rfl <;> decide +kernel
  have tk : ∀ {l : List Nat} {p : Nat → Bool}, (∀ x ∈ l, p x = true) → l.takeWhile p = l := by
    intro l p
    induction l with
    | nil => exact fun _ => rfl
    | cons x l ih => exact fun z => by rw [List.takeWhile_cons_of_pos (z x List.mem_cons_self), ih fun y hy => z y (List.mem_cons_of_mem _ hy)]
  have e1 : stripLo (tx [97, 98, 99]).cps.contains true (tx a) = a.length := by
    show ((tx a).cps.toList.takeWhile _).length = _
    rw [tx_cps, tk hg]
  rw [e1]
  have e2 : ∀ j, (Builtin.Str.strSub (tx a) a.length j).cps.toList = [] := fun j => by
    rw [show ∀ (z : Str) (i j : Nat), (Builtin.Str.strSub z i j).cps.toList = (z.cps.toList.drop i).take (j - i) from fun z i j => by simp [Builtin.Str.strSub], tx_cps, List.drop_length, List.take_nil]
  generalize stripHi _ _ _ _ = j
  have e3 := e2 j
  cases hq : Builtin.Str.strSub (tx a) a.length j with
  | mk c =>
    rw [hq] at e3
    have : c = #[] := Array.toList_inj.mp e3
    rw [this]
    rfl
section
variable {fu n : Nat} {S : Store} {a b : List Nat}
theorem t_eq : cmA .eq (dt a) (dt b) S = .ok (.bl (decide (a = b))) S := by
  classical
  rw [q_eq (show Ok 30 ((dt a).rd S) from ok_str) (show Ok 30 ((dt b).rd S) from ok_str)]
  congr 2
  rw [decide_eq_decide]
  exact dt_inj
theorem t_ne : cmA .ne (dt a) (dt b) S = .ok (.bl (!decide (a = b))) S := by
  classical
  rw [q_ne (show Ok 30 ((dt a).rd S) from ok_str) (show Ok 30 ((dt b).rd S) from ok_str)]
  congr 3
  rw [decide_eq_decide]
  exact dt_inj
theorem t_isStr : Bi.isStr.app [dt a] S = .ok (.bl true) S := rfl
theorem i_isInt {i : Int} : Bi.isInt.app [.int i] S = .ok (.bl true) S := rfl
theorem i_isBool {i : Int} : Bi.isBool.app [.int i] S = .ok (.bl false) S := rfl
theorem t_strip (h : T3 a) (hz : a.length ≤ 16000000) : Mt.strip.app (dt a) [.str ("abc" : Str)] S = .ok (dt []) S := by
  rw [tx_abc]
  show (if okLen (tx a).length = true then R.ok (D.str (Txt.stripChars (tx a) (tx [97, 98, 99]))) S else .bad) = _
  rw [tx_len, if_pos (okLen_le' hz), strip_all h]
theorem r_letters {low most : Nat} (h : T3 a) (h1 : low ≤ a.length) (h2 : a.length ≤ most) (hm : most ≤ 1000) : run G fu (n + 1) 6 [dt a, .int (low : Int), .int (most : Int)] S = .ok (.bl true) S := by
  rw [run_go (env := [some (dt a), some (.int (low : Int)), some (.int (most : Int))]) G6 rfl rfl]
  simp only [c6]
  rw [xs_cons]
  simp only [x_ret, e_and, e_bi, e_chn, e_cmp, e_mth, e_glb, e_var, e_cst, es_cons, es_nil, List.getD_cons_zero, List.getD_cons_succ, slotR_some, bo, t_isStr, ifb_t]
  rw [t_len (by omega)]
  simp only [bo, q_le]
  rw [decide_eq_true (show (low : Int) ≤ (a.length : Int) by omega)]
  simp only [bo, ifb_t, q_le]
  rw [decide_eq_true (show (a.length : Int) ≤ (most : Int) by omega)]
  simp only [bo, ifb_t]
  rw [if_pos (show Mt.recv .strip (dt a) S = true from rfl)]
  rw [t_strip h (by omega)]
  simp only [bo]
  rw [tx_nil, t_eq]
  simp
theorem r_needText (h : T3 a) (h1 : 1 ≤ a.length) (h2 : a.length ≤ 12) : run G fu (n + 2) 7 [dt a] S = .ok .non S := by
  rw [run_go (env := [some (dt a)]) G7 rfl rfl]
  simp only [c7]
  rw [xs_cons]
  have e := r_letters (fu := fu) (n := n) (S := S) (low := 1) (most := 12) h h1 h2 (by decide)
  rw [show ((1 : Nat) : Int) = 1 from rfl, show ((12 : Nat) : Int) = 12 from rfl] at e
  simp only [x_ifs, e_not, e_call, e_glb, e_var, e_cst, es_cons, es_nil, List.getD_cons_zero, slotR_some, bo, e, ifb_t, ifb_f, xs_nil, andThen_nx, toD_nx]
  exact fin_self
theorem r_whole {w low most : Int} (h1 : low ≤ w) (h2 : w ≤ most) : run G fu (n + 1) 8 [.int w, .int low, .int most] S = .ok (.bl true) S := by
  rw [run_go (env := [some (.int w), some (.int low), some (.int most)]) G8 rfl rfl]
  simp only [c8]
  rw [xs_cons]
  simp only [x_ret, e_and, e_bi, e_not, e_chn, e_var, es_cons, es_nil, List.getD_cons_zero, List.getD_cons_succ, slotR_some, bo, i_isInt, i_isBool, ifb_t, ifb_f, q_le]
  rw [decide_eq_true h1, decide_eq_true h2]
  simp only [bo, ifb_t, andThen_ret, toD_ret]
  exact fin_self
theorem r_needWidth {w : Int} (h1 : 1 ≤ w) (h2 : w ≤ 4) : run G fu (n + 2) 9 [.int w] S = .ok .non S := by
  rw [run_go (env := [some (.int w)]) G9 rfl rfl]
  simp only [c9]
  rw [xs_cons]
  simp only [x_ifs, e_not, e_call, e_glb, e_var, e_cst, es_cons, es_nil, List.getD_cons_zero, slotR_some, bo]
  rw [r_whole h1 h2]
  simp only [bo, ifb_t, ifb_f, xs_nil, andThen_nx, toD_nx]
  exact fin_self
/-- a text and a width that go together -/
structure Fit (a : List Nat) (w : Nat) : Prop where
  t : T3 a
  l : a.length ≤ 12
  w1 : 1 ≤ w
  w4 : w ≤ 4
  lo : w ≤ a.length
  hi : a.length ≤ w + 8
theorem r_needSeen {w : Nat} (h : Fit a w) : run G fu (n + 3) 10 [dt a, .int (w : Int)] S = .ok .non S := by
  rw [run_go (env := [some (dt a), some (.int (w : Int))]) G10 rfl rfl]
  simp only [c10]
  have := h.l
  have := h.lo
  have := h.hi
  have := h.w1
  have := h.w4
  rw [xs_cons]
  simp only [x_expr, e_call, e_var, es_cons, es_nil, List.getD_cons_zero, List.getD_cons_succ, slotR_some, bo]
  rw [r_needText h.t (by omega) (by omega)]
  simp only [bo, andThen_nx]
  rw [xs_cons]
  simp only [x_expr, e_call, e_var, es_cons, es_nil, List.getD_cons_zero, List.getD_cons_succ, slotR_some, bo]
  rw [r_needWidth (by omega) (by omega)]
  simp only [bo, andThen_nx]
  rw [xs_cons]
  simp only [x_ifs, e_not, e_chn, e_op, e_bi, e_glb, e_var, e_cst, es_cons, es_nil, List.getD_cons_zero, List.getD_cons_succ, slotR_some, bo]
  rw [t_len (by omega)]
  simp only [bo, p_add, p_sub, q_le]
  rw [decide_eq_true (show (1 : Int) ≤ (a.length : Int) - (w : Int) + 1 by omega)]
  simp only [bo, ifb_t, q_le]
  rw [decide_eq_true (show (a.length : Int) - (w : Int) + 1 ≤ 9 by omega)]
  simp only [bo, ifb_t, ifb_f, xs_nil, andThen_nx, toD_nx]
  exact fin_self
/-- a piece -/
def pc (a : List Nat) (w i : Nat) : List Nat := (a.drop i).take w
def pcs (a : List Nat) (w m : Nat) : List (List Nat) := (List.range m).map (pc a w)
theorem rng_lc {st : D → Option Env} {fc fe : Env → Store → R D} {m : Nat} {lo : Int} (q : Nat → List Nat) (hm : m ≤ 1000) (h : ∀ i, i < m → ∃ env, st (.int (lo + (i : Int))) = some env ∧ fc env S = .ok (.bl true) S ∧ fe env S = .ok (dt (q i)) S) :
    lcR none st fc fe (rngD lo m) S = .ok (.lst (((List.range m).map q).map dt)) S := by
  have e := lcR_pure (st := st) (fc := fc) (fe := fe) (S := S) (items := rngD lo m) (fun _ => true) (fun d => match d with | .int j => dt (q (j - lo).toNat) | d => d) (by simp [rngD]; omega) (fun x hx => by
    obtain ⟨i, hi, rfl⟩ := List.mem_map.mp hx
    obtain ⟨env, h1, h2, h3⟩ := h i (List.mem_range.mp hi)
    refine ⟨env, h1, h2, fun _ => ?_⟩
    rw [h3]
    congr 3
    omega)
  rw [e]
  congr 2
  rw [List.filter_eq_self.mpr (fun _ _ => rfl)]
  unfold rngD
  rw [List.map_map, List.map_map]
  refine List.map_congr_left fun i _ => ?_
  show dt (q (lo + (i : Int) - lo).toNat) = dt (q i)
  congr 3
  omega
theorem r_windows {w : Nat} (h : Fit a w) : run G fu (n + 1) 11 [dt a, .int (w : Int)] S = .ok (.lst ((pcs a w (a.length - w + 1)).map dt)) S := by
  rw [run_go (env := [some (dt a), some (.int (w : Int)), none]) G11 rfl rfl]
  simp only [c11]
  have := h.l
  have := h.lo
  have := h.w4
  rw [xs_cons]
  simp only [x_ret, e_lc, ei_1, e_op, e_bi, e_var, e_cst, es_cons, es_nil, List.getD_cons_zero, List.getD_cons_succ, slotR_some, bo]
  rw [t_len (by omega)]
  simp only [bo, p_add, p_sub]
  rw [rngR_int (by omega)]
  simp only [bo]
  rw [show ((a.length : Int) - (w : Int) + 1).toNat = a.length - w + 1 by omega]
  rw [rng_lc (pc a w) (by omega) (fun i hi => ⟨_, rfl, ec_none, ?_⟩)]
  · simp only [bo, andThen_ret, toD_ret]
    exact fin_self
  · simp only [e_sl, e_op, e_var, eo_some, List.set_cons_succ, List.set_cons_zero, List.getD_cons_zero, List.getD_cons_succ, slotR_some, bo, p_add, intO_int]
    rw [t_cut (by omega), show (0 : Int) + (i : Int) = ((i : Nat) : Int) by omega, show ((i : Nat) : Int) + (w : Int) = ((i + w : Nat) : Int) by omega, cut_mid, Nat.add_sub_cancel_left]
    rfl
end
/-! ### sorted texts -/
/-- texts, sorted -/
def srt (l : List (List Nat)) : List D := sortD (l.map dt)
theorem keys_texts (l : List (List Nat)) : l.map dt = (l.map fun t => (Sum.inr (tx t) : SKey)).map kD := by
  rw [List.map_map]
  rfl
theorem srt_perm {l m : List (List Nat)} (p : l.Perm m) : srt l = srt m := by
  unfold srt
  rw [keys_texts, keys_texts]
  exact sort_keys (p.map _)
theorem pys_strs : ∀ {l : List (List Nat)}, D.pys (l.map dt) = l.map fun t => PyData.str (tx t)
  | [] => rfl
  | t :: l => by
    show D.pys (dt t :: l.map dt) = _
    rw [D.pys, pys_strs]
    rfl
theorem okSort_texts {l : List (List Nat)} (h : l.length ≤ 16000000) : okSort (l.map dt) = true := by
  have o := oks (n := 0) (l := l.map dt) fun d hd => by
    obtain ⟨t, _, rfl⟩ := List.mem_map.mp hd
    exact ok_str
  unfold okSort
  rw [sims_pures o.1, List.length_map, okLen_le' h, decide_eq_true (Nat.le_trans o.2 (by decide))]
  have a1 : allAlike (D.pys (l.map dt)) = true := by
    rw [pys_strs]
    unfold allAlike
    rw [List.all_eq_true]
    intro x hx
    rw [List.all_eq_true]
    intro y hy
    obtain ⟨t, _, rfl⟩ := List.mem_map.mp hx
    obtain ⟨u, _, rfl⟩ := List.mem_map.mp hy
    rfl
  have a2 : sortable (l.map dt) = true := by
    unfold sortable
    rw [Bool.or_eq_true]
    refine .inr ?_
    rw [List.all_eq_true]
    intro x hx
    obtain ⟨t, _, rfl⟩ := List.mem_map.mp hx
    rfl
  rw [a1, a2]
  rfl
section
variable {fu n : Nat} {S : Store} {a b : List Nat}
theorem r_view {w : Nat} (h : Fit a w) : run G fu (n + 4) 12 [dt a, .int (w : Int)] S = .ok (.tup [.int (w : Int), .tup (srt (pcs a w (a.length - w + 1)))]) S := by
  rw [run_go (env := [some (dt a), some (.int (w : Int))]) G12 rfl rfl]
  simp only [c12]
  have := h.l
  rw [xs_cons]
  simp only [x_expr, e_call, e_var, es_cons, es_nil, List.getD_cons_zero, List.getD_cons_succ, slotR_some, bo]
  rw [r_needSeen h]
  simp only [bo, andThen_nx]
  rw [xs_cons]
  simp only [x_ret, e_tup, e_bi, e_call, e_var, es_cons, es_nil, List.getD_cons_zero, List.getD_cons_succ, slotR_some, bo]
  rw [show n + 3 = (n + 2) + 1 from rfl, r_windows h]
  simp only [bo]
  have e1 : Bi.sorted.app [.lst ((pcs a w (a.length - w + 1)).map dt)] S = .ok (.lst (srt (pcs a w (a.length - w + 1)))) S := by
    show (if okSort ((pcs a w (a.length - w + 1)).map dt) = true then R.ok (D.lst (sortD ((pcs a w (a.length - w + 1)).map dt))) S else .bad) = _
    rw [if_pos (okSort_texts (by simp [pcs]; omega))]
    rfl
  have e2 : ∀ l, Bi.tuple.app [.lst l] S = .ok (.tup l) S := fun l => rfl
  rw [e1]
  simp only [bo]
  rw [e2]
  simp only [bo]
  rw [seqR_ok (by simp)]
  simp only [bo, andThen_ret, toD_ret]
  exact fin_self
theorem ok_srt (l : List (List Nat)) : ∀ d ∈ srt l, Ok 0 d := fun d hd => by
  obtain ⟨t, _, rfl⟩ := List.mem_map.mp ((sortD_perm _).mem_iff.mp hd)
  exact ok_str
theorem ok_view {w : Nat} (l : List (List Nat)) : Ok 30 (.tup [.int (w : Int), .tup (srt l)]) := by
  refine (ok_tup (n := 1) fun d hd => ?_).le (by decide)
  rcases List.mem_cons.mp hd with rfl | hd
  · exact ok_int
  · rw [List.mem_singleton] at hd
    subst hd
    exact ok_tup (ok_srt l)
theorem r_alike {w : Nat} (h : Fit a w) (k : Fit b w) (p : (pcs a w (a.length - w + 1)).Perm (pcs b w (b.length - w + 1))) : run G fu (n + 5) 18 [dt a, dt b, .int (w : Int)] S = .ok (.bl true) S := by
  classical
  rw [run_go (env := [some (dt a), some (dt b), some (.int (w : Int))]) G18 rfl rfl]
  simp only [c18]
  rw [xs_cons]
  simp only [x_ret, e_cmp, e_call, e_var, es_cons, es_nil, List.getD_cons_zero, List.getD_cons_succ, slotR_some, bo]
  rw [r_view h]
  simp only [bo]
  rw [r_view k]
  simp only [bo]
  rw [srt_perm p]
  have o := ok_view (w := w) (pcs b w (b.length - w + 1))
  rw [q_eq (x := .tup [.int (w : Int), .tup (srt (pcs b w (b.length - w + 1)))]) (y := .tup [.int (w : Int), .tup (srt (pcs b w (b.length - w + 1)))]) (S := S) o o, decide_eq_true rfl]
  simp only [bo, andThen_ret, toD_ret]
  exact fin_self
end
end SV
/-! SvZ: walking a code: what is wanted of a result. -/
namespace SV
open PySem
universe u v
/-- so that simp does not look into what is wanted -/
inductive Tag {α : Sort u} {β : Sort v} (a : α) (b : β) : Type
  | mk
/-- what is wanted of a result -/
def Wp {α : Type} (r : R α) (Q : α → Store → Prop) (E : Nat → Store → Prop) (t : Tag Q E) : Prop := match r with
  | .ok a S => Q a S
  | .exc c S => E c S
  | .bad => False
section
variable {α β : Type} {Q : α → Store → Prop} {E : Nat → Store → Prop} {t : Tag Q E}
theorem wp_ok {a : α} {S : Store} : Wp (.ok a S) Q E t = Q a S := by cases S <;> rfl
theorem wp_exc {c : Nat} {S : Store} : Wp (.exc c S) Q E t = E c S := by cases S <;> rfl
theorem wp_bind {r : R β} {f : β → Store → R α} : Wp (r.bind f) Q E t = Wp r (fun a S => Wp (f a S) Q E .mk) E .mk := by cases r <;> rfl
theorem wp_cong {r : R α} {Q' : α → Store → Prop} {t' : Tag Q' E} (h : ∀ a S, Q a S = Q' a S) : Wp r Q E t = Wp r Q' E t' := by
  cases r with
  | ok a S => exact h a S
  | exc c S => rfl
  | bad => rfl
theorem wp_imp {r : R α} {Q' : α → Store → Prop} {t' : Tag Q' E} (h : Wp r Q' E t') (k : ∀ a S, Q' a S → Q a S) : Wp r Q E t := by
  cases r with
  | ok a S => exact k a S h
  | exc c S => exact h
  | bad => exact h
theorem wp_nox {r : R α} : Wp r.nox Q E t = Wp r Q (fun _ _ => False) .mk := by cases r <;> rfl
/-- the result itself -/
theorem wp_eq {r : R α} {a : α} {S : Store} {t' : Tag (fun x S' => x = a ∧ S' = S) (fun _ _ => False)} (h : Wp r (fun x S' => x = a ∧ S' = S) (fun _ _ => False) t') : r = .ok a S := by
  cases r with
  | ok b S2 =>
    obtain ⟨h1, h2⟩ := h
    rw [h1, h2]
  | exc c S => exact h.elim
  | bad => exact h.elim
theorem wp_of {r : R α} {a : α} {S : Store} (h : r = .ok a S) (k : Q a S) : Wp r Q E t := by
  rw [h]
  exact k
end
/-- the statements behind -/
def Sq (Γ : Nat → List D → Store → R D) (fu : Nat) (cs : Cs) (Q : Fl → Store → Prop) (E : Nat → Store → Prop) (t : Tag Q E) : Fl → Store → Prop := fun fl S => match fl with
  | .nx env => Wp (xcs Γ fu cs env S) Q E .mk
  | fl => Q fl S
section
variable {Γ : Nat → List D → Store → R D} {fu : Nat} {cs : Cs} {Q : Fl → Store → Prop} {E : Nat → Store → Prop} {t : Tag Q E} {env : Env} {S : Store}
theorem sq_nx : Sq Γ fu cs Q E t (.nx env) S = Wp (xcs Γ fu cs env S) Q E .mk := by cases S <;> rfl
theorem sq_bk : Sq Γ fu cs Q E t (.bk env) S = Q (.bk env) S := by cases S <;> rfl
theorem sq_ct : Sq Γ fu cs Q E t (.ct env) S = Q (.ct env) S := by cases S <;> rfl
theorem sq_ret {d : D} : Sq Γ fu cs Q E t (.ret d) S = Q (.ret d) S := by cases S <;> rfl
end
/-! ### expressions -/
section
variable {Γ : Nat → List D → Store → R D} {fu : Nat} {env : Env} {S : Store}
section
variable {Q : D → Store → Prop} {E : Nat → Store → Prop} {t : Tag Q E}
theorem w_var {i : Nat} : Wp (ev Γ (.var i) env S) Q E t = Wp (slotR (env.getD i none) S) Q E .mk := by rw [e_var]
theorem w_cst {d : D} : Wp (ev Γ (.cst d) env S) Q E t = Q d S := by rw [e_cst, wp_ok]
theorem w_glb {x : Str} {d : D} : Wp (ev Γ (.glb x d) env S) Q E t = Q d S := by rw [e_glb, wp_ok]
theorem w_op {o : Op2} {a b : SV.E} : Wp (ev Γ (.op o a b) env S) Q E t = Wp (ev Γ a env S) (fun x S => Wp (ev Γ b env S) (fun y S => Wp (o.app x y S) Q E .mk) E .mk) E .mk := by
  rw [e_op, wp_bind]; refine wp_cong fun x S => ?_; rw [wp_bind]
theorem w_neg {a : SV.E} : Wp (ev Γ (.neg a) env S) Q E t = Wp (ev Γ a env S) (fun x S => Wp (negR x S) Q E .mk) E .mk := by rw [e_neg, wp_bind]
theorem w_cmp {o : Cm} {a b : SV.E} : Wp (ev Γ (.cmp o a b) env S) Q E t = Wp (ev Γ a env S) (fun x S => Wp (ev Γ b env S) (fun y S => Wp (cmA o x y S) Q E .mk) E .mk) E .mk := by
  rw [e_cmp, wp_bind]; refine wp_cong fun x S => ?_; rw [wp_bind]
theorem wp_ifb {α : Type} {Q : α → Store → Prop} {E : Nat → Store → Prop} {t : Tag Q E} {c : Bool} {a b : R α} : Wp (ifb (.bl c) a b) Q E t = if c = true then Wp a Q E .mk else Wp b Q E .mk := by
  cases c
  · rw [ifb_f, if_neg (by decide)]
  · rw [ifb_t, if_pos rfl]
theorem wp_ift {α : Type} {Q : α → Store → Prop} {E : Nat → Store → Prop} {t : Tag Q E} {a b : R α} : Wp (ifb (.bl true) a b) Q E t = Wp a Q E .mk := by rw [ifb_t]
theorem wp_iff {α : Type} {Q : α → Store → Prop} {E : Nat → Store → Prop} {t : Tag Q E} {a b : R α} : Wp (ifb (.bl false) a b) Q E t = Wp b Q E .mk := by rw [ifb_f]
/-- by a proposition -/
theorem wp_ifd1 {α : Type} {Q : α → Store → Prop} {E : Nat → Store → Prop} {t : Tag Q E} {c : Prop} [Decidable c] {a b : R α} (h : c) : Wp (ifb (.bl (decide c)) a b) Q E t = Wp a Q E .mk := by rw [decide_eq_true h, ifb_t]
theorem wp_ifd0 {α : Type} {Q : α → Store → Prop} {E : Nat → Store → Prop} {t : Tag Q E} {c : Prop} [Decidable c] {a b : R α} (h : ¬ c) : Wp (ifb (.bl (decide c)) a b) Q E t = Wp b Q E .mk := by rw [decide_eq_false h, ifb_f]
theorem wp_ifn1 {α : Type} {Q : α → Store → Prop} {E : Nat → Store → Prop} {t : Tag Q E} {c : Prop} [Decidable c] {a b : R α} (h : c) : Wp (ifb (.bl (!decide c)) a b) Q E t = Wp b Q E .mk := by rw [decide_eq_true h]; exact wp_iff
theorem wp_ifn0 {α : Type} {Q : α → Store → Prop} {E : Nat → Store → Prop} {t : Tag Q E} {c : Prop} [Decidable c] {a b : R α} (h : ¬ c) : Wp (ifb (.bl (!decide c)) a b) Q E t = Wp a Q E .mk := by rw [decide_eq_false h]; exact wp_ift
theorem w_chn {o o' : Cm} {a b c : SV.E} : Wp (ev Γ (.chn o o' a b c) env S) Q E t = Wp (ev Γ a env S) (fun x S => Wp (ev Γ b env S) (fun y S => Wp (cmA o x y S) (fun d S => Wp (ifb d ((ev Γ c env S).bind fun z S => cmA o' y z S) (.ok (.bl false) S)) Q E .mk) E .mk) E .mk) E .mk := by
  rw [e_chn, wp_bind]; refine wp_cong fun x S => ?_; rw [wp_bind]; refine wp_cong fun y S => ?_; rw [wp_bind]
theorem w_not {a : SV.E} : Wp (ev Γ (.not a) env S) Q E t = Wp (ev Γ a env S) (fun x S => Wp (ifb x (.ok (.bl false) S) (.ok (.bl true) S)) Q E .mk) E .mk := by rw [e_not, wp_bind]
theorem w_and {a b : SV.E} : Wp (ev Γ (.and a b) env S) Q E t = Wp (ev Γ a env S) (fun x S => Wp (ifb x (ev Γ b env S) (.ok (.bl false) S)) Q E .mk) E .mk := by rw [e_and, wp_bind]
theorem w_or {a b : SV.E} : Wp (ev Γ (.or a b) env S) Q E t = Wp (ev Γ a env S) (fun x S => Wp (ifb x (.ok (.bl true) S) (ev Γ b env S)) Q E .mk) E .mk := by rw [e_or, wp_bind]
theorem w_ite {c a b : SV.E} : Wp (ev Γ (.ite c a b) env S) Q E t = Wp (ev Γ c env S) (fun x S => Wp (ifb x (ev Γ a env S) (ev Γ b env S)) Q E .mk) E .mk := by rw [e_ite, wp_bind]
theorem w_tup {es : Es} : Wp (ev Γ (.tup es) env S) Q E t = Wp (evs Γ es env S) (fun l S => Wp (seqR .tup l S) Q E .mk) E .mk := by rw [e_tup, wp_bind]
theorem w_lst {es : Es} : Wp (ev Γ (.lst es) env S) Q E t = Wp (evs Γ es env S) (fun l S => Wp (seqR .lst l S) Q E .mk) E .mk := by rw [e_lst, wp_bind]
theorem w_idx {a b : SV.E} : Wp (ev Γ (.idx a b) env S) Q E t = Wp (ev Γ a env S) (fun x S => Wp (ev Γ b env S) (fun y S => Wp (atD x y S) Q E .mk) E .mk) E .mk := by
  rw [e_idx, wp_bind]; refine wp_cong fun x S => ?_; rw [wp_bind]
theorem w_sl {a : SV.E} {lo hi : Eo} : Wp (ev Γ (.sl a lo hi) env S) Q E t = Wp (ev Γ a env S) (fun x S => Wp (evo Γ lo env S) (fun l S => Wp (evo Γ hi env S) (fun h S => Wp (cutD x l h S) Q E .mk) E .mk) E .mk) E .mk := by
  rw [e_sl, wp_bind]; refine wp_cong fun x S => ?_; rw [wp_bind]; refine wp_cong fun y S => ?_; rw [wp_bind]
theorem w_call {f : Nat} {es : Es} : Wp (ev Γ (.call f es) env S) Q E t = Wp (evs Γ es env S) (fun l S => Wp (Γ f l S) Q E .mk) E .mk := by rw [e_call, wp_bind]
theorem w_bi {f : Bi} {es : Es} : Wp (ev Γ (.bi f es) env S) Q E t = Wp (evs Γ es env S) (fun l S => Wp (f.app l S) Q E .mk) E .mk := by rw [e_bi, wp_bind]
noncomputable def mthR (m : Mt) (x : D) (r : R (List D)) (S : Store) : R D := if m.recv x S then r.bind fun l S => m.app x l S else .bad
theorem w_mth {m : Mt} {o : SV.E} {es : Es} : Wp (ev Γ (.mth m o es) env S) Q E t = Wp (ev Γ o env S) (fun x S => Wp (mthR m x (evs Γ es env S) S) Q E .mk) E .mk := by rw [e_mth, wp_bind]; rfl
theorem wp_mth {m : Mt} {x : D} {r : R (List D)} (h : m.recv x S = true) : Wp (mthR m x r S) Q E t = Wp r (fun l S => Wp (m.app x l S) Q E .mk) E .mk := by
  unfold mthR
  rw [if_pos h, wp_bind]
theorem w_lc {elt : SV.E} {tg : Tg} {it : It} {cond : Eo} : Wp (ev Γ (.lc elt tg it cond) env S) Q E t = Wp (evi Γ it env S) (fun src S => Wp (lcR src.guard (fun d => tg.set d env) (evc Γ cond) (ev Γ elt) src.items S) Q E .mk) E .mk := by rw [e_lc, wp_bind]
theorem w_cell {a : SV.E} : Wp (ev Γ (.cell a) env S) Q E t = Wp (ev Γ a env S) (fun x S => Wp (cellR x S) Q E .mk) E .mk := by rw [e_cell, wp_bind]
theorem w_snap {i : Nat} : Wp (ev Γ (.snap i) env S) Q E t = Wp (snapR (env.getD i none) S) Q E .mk := by rw [e_snap]
def ssR (x : D) (S : Store) : R D := match x.items S with
  | some l => ssetR l S
  | none => .bad
def lsR (x : D) (S : Store) : R D := match x.items S with
  | some l => lsetR l S
  | none => .bad
theorem w_rev {a : SV.E} : Wp (ev Γ (.rev a) env S) Q E t = Wp (ev Γ a env S) (fun x S => Wp (revD x S) Q E .mk) E .mk := by
  rw [ev, wp_bind]
theorem w_dict {es : Es} : Wp (ev Γ (.dict es) env S) Q E t = Wp (evs Γ es env S) (fun l S => Wp (dispR l S) Q E .mk) E .mk := by
  rw [ev, wp_bind]
theorem w_sset {a : SV.E} : Wp (ev Γ (.sset a) env S) Q E t = Wp (ev Γ a env S) (fun x S => Wp (ssR x S) Q E .mk) E .mk := by
  rw [ev, wp_bind]; rfl
theorem w_lset {a : SV.E} : Wp (ev Γ (.lset a) env S) Q E t = Wp (ev Γ a env S) (fun x S => Wp (lsR x S) Q E .mk) E .mk := by
  rw [ev, wp_bind]; rfl
theorem w_cn : Wp (evc Γ .none env S) Q E t = Q (.bl true) S := by rw [ec_none, wp_ok]
theorem w_cs {e : SV.E} : Wp (evc Γ (.some e) env S) Q E t = Wp (ev Γ e env S) Q E .mk := by rw [ec_some]
theorem w_slot {d : D} : Wp (slotR (some d) S) Q E t = Q d S := by rw [slotR_some, wp_ok]
end
section
variable {Q : List D → Store → Prop} {E : Nat → Store → Prop} {t : Tag Q E}
theorem w_nil : Wp (evs Γ .nil env S) Q E t = Q [] S := by rw [es_nil, wp_ok]
theorem w_cons {e : SV.E} {es : Es} : Wp (evs Γ (.cons e es) env S) Q E t = Wp (ev Γ e env S) (fun x S => Wp (evs Γ es env S) (fun l S => Q (x :: l) S) E .mk) E .mk := by
  rw [es_cons, wp_bind]; refine wp_cong fun x S => ?_; rw [wp_bind]; refine wp_cong fun l S => ?_; rw [wp_ok]
end
section
variable {Q : Option Int → Store → Prop} {E : Nat → Store → Prop} {t : Tag Q E}
theorem w_on : Wp (evo Γ .none env S) Q E t = Q none S := by rw [eo_none, wp_ok]
theorem w_os {e : SV.E} : Wp (evo Γ (.some e) env S) Q E t = Wp (ev Γ e env S) (fun x S => Wp (intO x S) Q E .mk) E .mk := by rw [eo_some, wp_bind]
end
section
variable {Q : Src → Store → Prop} {E : Nat → Store → Prop} {t : Tag Q E}
theorem w_ie {a : SV.E} : Wp (evi Γ (.e a) env S) Q E t = Wp (ev Γ a env S) (fun x S => Wp (itR x S) Q E .mk) E .mk := by rw [ei_e, wp_bind]
theorem w_i1 {a : SV.E} : Wp (evi Γ (.rng1 a) env S) Q E t = Wp (ev Γ a env S) (fun x S => Wp (rngR x S) Q E .mk) E .mk := by rw [ei_1, wp_bind]
theorem w_i2 {a b : SV.E} : Wp (evi Γ (.rng2 a b) env S) Q E t = Wp (ev Γ a env S) (fun x S => Wp (ev Γ b env S) (fun y S => Wp (rng2R x y S) Q E .mk) E .mk) E .mk := by
  rw [ei_2, wp_bind]; refine wp_cong fun x S => ?_; rw [wp_bind]
end
/-! ### statements -/
section
variable {Q : Fl → Store → Prop} {E : Nat → Store → Prop} {t : Tag Q E}
theorem w_xnil : Wp (xcs Γ fu .nil env S) Q E t = Q (.nx env) S := by rw [xs_nil, wp_ok]
theorem w_xcons {c : C} {cs : Cs} : Wp (xcs Γ fu (.cons c cs) env S) Q E t = Wp (xc Γ fu c env S) (Sq Γ fu cs Q E .mk) E .mk := by
  rw [xs_cons]
  unfold andThen
  rw [wp_bind]
  refine wp_cong fun fl S => ?_
  cases fl <;> first | rfl | exact wp_ok
theorem w_pass : Wp (xc Γ fu .pass env S) Q E t = Q (.nx env) S := by rw [x_pass, wp_ok]
theorem w_expr {e : SV.E} : Wp (xc Γ fu (.expr e) env S) Q E t = Wp (ev Γ e env S) (fun _ S => Q (.nx env) S) E .mk := by
  rw [x_expr, wp_bind]; refine wp_cong fun x S => ?_; rw [wp_ok]
theorem w_set {i : Nat} {e : SV.E} : Wp (xc Γ fu (.set i e) env S) Q E t = Wp (ev Γ e env S) (fun x S => Q (.nx (env.set i (some x))) S) E .mk := by
  rw [x_set, wp_bind]; refine wp_cong fun x S => ?_; rw [wp_ok]
theorem w_setT {i j : Nat} {e : SV.E} : Wp (xc Γ fu (.setT i j e) env S) Q E t = Wp (ev Γ e env S) (fun x S => Wp (setTR (.two i j) x env S) Q E .mk) E .mk := by rw [x_setT, wp_bind]
theorem w_par {i j : Nat} {a b : SV.E} : Wp (xc Γ fu (.par i j a b) env S) Q E t = Wp (ev Γ a env S) (fun x S => Wp (ev Γ b env S) (fun y S => Q (.nx ((env.set i (some x)).set j (some y))) S) E .mk) E .mk := by
  rw [x_par, wp_bind, w_cons]; refine wp_cong fun x S => ?_; rw [w_cons]; refine wp_cong fun y S => ?_; rw [w_nil, parR_two, wp_ok]
theorem w_put {o i v : SV.E} : Wp (xc Γ fu (.put o i v) env S) Q E t = Wp (ev Γ v env S) (fun z S => Wp (ev Γ o env S) (fun x S => Wp (ev Γ i env S) (fun y S => Wp (putD x y z S) (fun _ S => Q (.nx env) S) E .mk) E .mk) E .mk) E .mk := by
  rw [xc, wp_bind]
  unfold putF
  rw [wp_bind]; refine wp_cong fun z S => ?_; rw [wp_bind]; refine wp_cong fun x S => ?_; rw [wp_bind]; refine wp_cong fun y S => ?_; refine wp_cong fun u S => ?_; rw [wp_ok]
theorem w_ret {e : SV.E} : Wp (xc Γ fu (.ret e) env S) Q E t = Wp (ev Γ e env S) (fun x S => Q (.ret x) S) E .mk := by
  rw [x_ret, wp_bind]; refine wp_cong fun x S => ?_; rw [wp_ok]
theorem w_retN : Wp (xc Γ fu .retN env S) Q E t = Q (.ret .non) S := by rw [x_retN, wp_ok]
theorem w_ifs {c : SV.E} {a b : Cs} : Wp (xc Γ fu (.ifs c a b) env S) Q E t = Wp (ev Γ c env S) (fun x S => Wp (ifb x (xcs Γ fu a env S) (xcs Γ fu b env S)) Q E .mk) E .mk := by rw [x_ifs, wp_bind]
theorem w_for {tg : Tg} {it : It} {b : Cs} : Wp (xc Γ fu (.for tg it b) env S) Q E t = Wp (evi Γ it env S) (fun src S => Wp (forLoop src.guard tg.set (xcs Γ fu b) src.items env S) Q E .mk) E .mk := by rw [x_for, wp_bind]
theorem w_whl {c : SV.E} {b : Cs} : Wp (xc Γ fu (.whl c b) env S) Q E t = Wp (whlLoop (ev Γ c) (xcs Γ fu b) fu env S) Q E .mk := by rw [x_whl]
theorem w_brk : Wp (xc Γ fu .brk env S) Q E t = Q (.bk env) S := by rw [x_brk, wp_ok]
theorem w_cnt : Wp (xc Γ fu .cnt env S) Q E t = Q (.ct env) S := by rw [xc, wp_ok]
theorem w_two {i j : Nat} {a b : D} : Wp (setTR (.two i j) (.tup [a, b]) env S) Q E t = Q (.nx ((env.set i (some a)).set j (some b))) S := by rw [setTR_two, wp_ok]
end
end
/-! ### a def's answer -/
def Ret (n : Nat) (r : R D) : Fl → Store → Prop := fun fl S => fin n (toD (.ok fl S)) = r
def RetE (n : Nat) (r : R D) : Nat → Store → Prop := fun c S => fin n (.exc c S) = r
theorem ret_ret {n : Nat} {r : R D} {d : D} {S : Store} : Ret n r (.ret d) S = (fin n (.ok d S) = r) := by cases S <;> rfl
theorem ret_nx {n : Nat} {r : R D} {env : Env} {S : Store} : Ret n r (.nx env) S = (fin n (.ok .non S) = r) := by cases S <;> rfl
theorem run_wp {G : Nat → Option Fd} {fu n i : Nat} {c : Fd} {ds : List D} {S : Store} {r : R D} (h : G i = some c) (hn : 1 ≤ n) (hl : ds.length = c.ar) 
    (k : Wp (xcs (run G fu (n - 1)) fu c.body (ds.map some ++ List.replicate (c.sl - ds.length) none) S) (Ret S.length r) (RetE S.length r) .mk) : run G fu n i ds S = r := by
  obtain ⟨m, rfl⟩ : ∃ m, n = m + 1 := ⟨n - 1, by omega⟩
  rw [Nat.add_sub_cancel] at k
  rw [run_go h hl rfl]
  cases q : xcs (run G fu m) fu c.body (ds.map some ++ List.replicate (c.sl - ds.length) none) S with
  | bad =>
    rw [q] at k
    exact k.elim
  | exc c S =>
    rw [q] at k
    exact k
  | ok fl S =>
    rw [q] at k
    exact k
/-- a def's answer, where the result is not one value -/
theorem run_wpQ {G : Nat → Option Fd} {fu n i : Nat} {c : Fd} {ds : List D} {S : Store} {Q : D → Store → Prop} {E : Nat → Store → Prop} {t : Tag Q E} (h : G i = some c) (hn : 1 ≤ n) (hl : ds.length = c.ar) 
    (k : Wp (xcs (run G fu (n - 1)) fu c.body (ds.map some ++ List.replicate (c.sl - ds.length) none) S) (fun fl S' => Wp (fin S.length (toD (.ok fl S'))) Q E .mk) (fun c S' => Wp (fin S.length (.exc c S')) Q E .mk) .mk) : Wp (run G fu n i ds S) Q E t := by
  obtain ⟨m, rfl⟩ : ∃ m, n = m + 1 := ⟨n - 1, by omega⟩
  rw [Nat.add_sub_cancel] at k
  rw [run_go h hl rfl]
  cases q : xcs (run G fu m) fu c.body (ds.map some ++ List.replicate (c.sl - ds.length) none) S with
  | bad =>
    rw [q] at k
    exact k.elim
  | exc c S =>
    rw [q] at k
    exact k
  | ok fl S =>
    rw [q] at k
    exact k
/-! ### whole numbers as natural ones -/
theorem nc_add {a b : Nat} : (a : Int) + (b : Int) = ((a + b : Nat) : Int) := by omega
theorem nc_sub {a b : Nat} (h : b ≤ a) : (a : Int) - (b : Int) = ((a - b : Nat) : Int) := by omega
theorem nc_p1 {a : Nat} : (a : Int) + 1 = ((a + 1 : Nat) : Int) := by omega
theorem nc_p2 {a : Nat} : (a : Int) + 2 = ((a + 2 : Nat) : Int) := by omega
theorem nc_p3 {a : Nat} : (a : Int) + 3 = ((a + 3 : Nat) : Int) := by omega
theorem nc_p4 {a : Nat} : (a : Int) + 4 = ((a + 4 : Nat) : Int) := by omega
theorem nc_sub2 {a : Nat} (h : 2 ≤ a) : (a : Int) - 2 = ((a - 2 : Nat) : Int) := by omega
theorem nc_sub1 {a : Nat} (h : 1 ≤ a) : (a : Int) - 1 = ((a - 1 : Nat) : Int) := by omega
theorem nc_1add {a : Nat} : (1 : Int) + (a : Int) = ((1 + a : Nat) : Int) := by omega
theorem nc_mul {a b : Nat} : (a : Int) * (b : Int) = ((a * b : Nat) : Int) := (Int.natCast_mul a b).symm
end SV
/-! SvR: texts in order. -/
namespace SV
open PySem
/-! ### the order of texts -/
theorem lexItem_str (a b : List Nat) : PyProof.Rows.lexLt PyProof.Rows.itemOrd [.inr a] [.inr b] = decide (a < b) := by
  rw [PyProof.Rows.lex_cons]
  have e1 : PyProof.Rows.itemOrd.blt (.inr a) (.inr b) = decide (a < b) := rfl
  have e2 : PyProof.Rows.lexLt PyProof.Rows.itemOrd [] [] = false := rfl
  rw [e1, e2, Bool.and_false, Bool.or_false]
theorem dataLt_str (a b : List Nat) : PySem.W.dataLt (dt a).py (dt b).py = decide (a < b) := by
  unfold PySem.W.dataLt
  have e : ∀ a : List Nat, PySem.W.keyToks (dt a).py = [.inr a] := fun a => by
    show [(Sum.inr (tx a).cps.toList : Int ⊕ List Nat)] = _
    rw [tx_cps]
  rw [e, e, lexItem_str]
def leT (a b : List Nat) : Bool := !decide (b < a)
theorem dataLe_dt (a b : List Nat) : PySem.W.dataLe false D.py (dt a) (dt b) = leT a b := by
  show (!PySem.W.dataLt (dt b).py (dt a).py) = _
  rw [dataLt_str]
  rfl
def sortT (l : List (List Nat)) : List (List Nat) := l.mergeSort leT
theorem leT_trans (a b c : List Nat) (h : leT a b = true) (k : leT b c = true) : leT a c = true := by
  unfold leT at *
  simp only [Bool.not_eq_true', decide_eq_false_iff_not] at *
  exact fun z => (List.le_trans (List.not_lt.mp h) (List.not_lt.mp k)) z
theorem leT_total (a b : List Nat) : (leT a b || leT b a) = true := by
  unfold leT
  by_cases h : b < a
  · have : ¬ a < b := fun z => List.lt_irrefl _ (List.lt_trans h z)
    simp [this]
  · simp [h]
theorem leT_anti {a b : List Nat} (h : leT a b = true) (k : leT b a = true) : a = b := by
  unfold leT at *
  simp only [Bool.not_eq_true', decide_eq_false_iff_not] at *
  exact List.le_antisymm (List.not_lt.mp h) (List.not_lt.mp k)
theorem leT_lt {a b : List Nat} (h : a < b) : leT a b = true := by
  unfold leT
  simp only [Bool.not_eq_true', decide_eq_false_iff_not]
  exact fun z => List.lt_irrefl _ (List.lt_trans h z)
theorem lt_leT {a b : List Nat} (h : leT a b = true) (n : a ≠ b) : a < b := by
  by_cases c : a < b
  · exact c
  · exfalso
    refine n (leT_anti h ?_)
    unfold leT
    simp [c]
theorem sortT_perm (l : List (List Nat)) : (sortT l).Perm l := List.mergeSort_perm _ _
theorem sortT_sorted (l : List (List Nat)) : (sortT l).Pairwise fun a b => leT a b = true := List.pairwise_mergeSort leT_trans leT_total l
theorem sorted_eq {l m : List (List Nat)} (h : l.Pairwise fun a b => leT a b = true) (k : m.Pairwise fun a b => leT a b = true) (p : l.Perm m) : l = m :=
  p.eq_of_pairwise (fun a b _ _ h1 h2 => leT_anti h1 h2) h k
theorem sortT_eq {l m : List (List Nat)} (p : l.Perm m) : sortT l = sortT m := sorted_eq (sortT_sorted l) (sortT_sorted m) ((sortT_perm l).trans (p.trans (sortT_perm m).symm))
theorem sortT_self {l : List (List Nat)} (h : l.Pairwise fun a b => leT a b = true) : sortT l = l := sorted_eq (sortT_sorted l) h (sortT_perm l)
theorem srt_sortT (l : List (List Nat)) : srt l = (sortT l).map dt := by
  unfold srt sortD sortT
  exact (List.map_mergeSort fun a _ b _ => (dataLe_dt a b).symm).symm
@[simp] theorem sortT_len (l : List (List Nat)) : (sortT l).length = l.length := (sortT_perm l).length_eq
theorem mem_sortT {l : List (List Nat)} {t : List Nat} : t ∈ sortT l ↔ t ∈ l := (sortT_perm l).mem_iff
/-! ### each once, rising -/
def ddT : List (List Nat) → List (List Nat)
  | [] => []
  | k :: l => if k ∈ l then ddT l else k :: ddT l
theorem mem_ddT {t : List Nat} : ∀ {l : List (List Nat)}, t ∈ ddT l ↔ t ∈ l
  | [] => Iff.rfl
  | k :: l => by
    unfold ddT
    split
    · next h =>
      rw [mem_ddT, List.mem_cons]
      exact ⟨.inr, fun z => z.elim (fun e => e ▸ h) id⟩
    · rw [List.mem_cons, List.mem_cons, mem_ddT]
theorem ddT_nodup : ∀ l : List (List Nat), (ddT l).Nodup
  | [] => List.nodup_nil
  | k :: l => by
    unfold ddT
    split
    · exact ddT_nodup l
    · next h => exact List.nodup_cons.mpr ⟨fun z => h (mem_ddT.mp z), ddT_nodup l⟩
theorem ddT_len : ∀ l : List (List Nat), (ddT l).length ≤ l.length
  | [] => Nat.le_refl _
  | k :: l => by
    have := ddT_len l
    unfold ddT
    split <;> simp <;> omega
def setT (l : List (List Nat)) : List (List Nat) := sortT (ddT l)
/-- strictly rising -/
abbrev Rises (l : List (List Nat)) : Prop := l.Pairwise fun a b => a < b
theorem mem_setT {l : List (List Nat)} {t : List Nat} : t ∈ setT l ↔ t ∈ l := by
  unfold setT
  rw [mem_sortT, mem_ddT]
theorem setT_len (l : List (List Nat)) : (setT l).length ≤ l.length := by
  unfold setT
  rw [sortT_len]
  exact ddT_len l
theorem rises_of {l : List (List Nat)} (h : l.Pairwise fun a b => leT a b = true) (n : l.Nodup) : Rises l := (h.and n).imp fun ⟨a, b⟩ => lt_leT a b
theorem Rises.le {l : List (List Nat)} (h : Rises l) : l.Pairwise fun a b => leT a b = true := h.imp leT_lt
theorem Rises.nodup {l : List (List Nat)} (h : Rises l) : l.Nodup := List.Pairwise.imp (S := fun a b => a ≠ b) (fun {a b} z => fun e => by subst e; exact List.lt_irrefl _ z) h
theorem setT_rises (l : List (List Nat)) : Rises (setT l) := rises_of (sortT_sorted _) ((sortT_perm _).nodup_iff.mpr (ddT_nodup l))
theorem rises_ext {l m : List (List Nat)} (h : Rises l) (k : Rises m) (e : ∀ t, t ∈ l ↔ t ∈ m) : l = m :=
  sorted_eq h.le k.le ((List.perm_ext_iff_of_nodup h.nodup k.nodup).mpr e)
theorem sortT_rises {l : List (List Nat)} (h : l.Nodup) : Rises (sortT l) := rises_of (sortT_sorted l) ((sortT_perm l).nodup_iff.mpr h)
theorem setT_self {l : List (List Nat)} (h : Rises l) : setT l = l := rises_ext (setT_rises l) h fun t => mem_setT
theorem setT_ext {l m : List (List Nat)} (e : ∀ t, t ∈ l ↔ t ∈ m) : setT l = setT m := rises_ext (setT_rises l) (setT_rises m) fun t => by rw [mem_setT, mem_setT, e]
theorem dd_texts : ∀ l : List (List Nat), dd (l.map fun t => (Sum.inr (tx t) : SKey)) = (ddT l).map fun t => (Sum.inr (tx t) : SKey)
  | [] => rfl
  | k :: l => by
    have hm : ((Sum.inr (tx k) : SKey) ∈ l.map fun t => (Sum.inr (tx t) : SKey)) ↔ k ∈ l := by
      constructor
      · intro h
        obtain ⟨t, ht, e⟩ := List.mem_map.mp h
        rw [Sum.inr.injEq, tx_inj] at e
        exact e ▸ ht
      · exact fun h => List.mem_map.mpr ⟨k, h, rfl⟩
    rw [List.map_cons]
    unfold dd ddT
    by_cases h : k ∈ l
    · rw [if_pos (hm.mpr h), if_pos h, dd_texts l]
    · rw [if_neg fun z => h (hm.mp z), if_neg h, dd_texts l, List.map_cons]
theorem keysD_txs : ∀ {l : List (List Nat)}, keysD (l.map dt) = some (l.map fun t => Sum.inr (tx t))
  | [] => rfl
  | t :: l => by
    show keysD (dt t :: l.map dt) = _
    unfold keysD
    rw [keysD_txs]
    rfl
theorem okKeys_txs {l : List (List Nat)} (h : l.length < 4000) : okKeys (l.map fun t => (Sum.inr (tx t) : SKey)) = true := by
  unfold okKeys
  rw [Bool.and_eq_true, Bool.or_eq_true, List.length_map]
  refine ⟨.inr ?_, decide_eq_true h⟩
  rw [List.all_eq_true]
  intro x hx
  obtain ⟨t, _, rfl⟩ := List.mem_map.mp hx
  rfl
theorem sset_setT {l : List (List Nat)} {S : Store} (h : l.length < 4000) : ssetR (l.map dt) S = .ok (.lst ((setT l).map dt)) S := by
  unfold ssetR
  rw [keysD_txs]
  dsimp only
  rw [if_pos (okKeys_txs h), dd_texts]
  congr 2
  unfold setT
  rw [← srt_sortT]
  unfold srt
  congr 1
  rw [List.map_map]
  rfl
theorem lset_setT {l : List (List Nat)} {S : Store} (h : l.length < 4000) : lsetR (l.map dt) S = .ok (.int ((setT l).length : Int)) S := by
  unfold lsetR
  rw [keysD_txs]
  dsimp only
  rw [if_pos (okKeys_txs h), dd_texts, List.length_map]
  unfold setT
  rw [sortT_len]
/-! ### lists of texts, by values -/
section
variable {S : Store} {l m : List (List Nat)} {a b : List Nat}
theorem b_sortT (h : l.length ≤ 16000000) : Bi.app .sorted [.lst (l.map dt)] S = .ok (.lst ((sortT l).map dt)) S := by
  show (if okSort (l.map dt) = true then R.ok (D.lst (sortD (l.map dt))) S else .bad) = _
  rw [if_pos (okSort_texts h)]
  exact congrArg (fun z => R.ok (D.lst z) S) (srt_sortT l)
theorem b_sortTt (h : l.length ≤ 16000000) : Bi.app .sorted [.tup (l.map dt)] S = .ok (.lst ((sortT l).map dt)) S := by
  show (if okSort (l.map dt) = true then R.ok (D.lst (sortD (l.map dt))) S else .bad) = _
  rw [if_pos (okSort_texts h)]
  exact congrArg (fun z => R.ok (D.lst z) S) (srt_sortT l)
theorem b_tuple_lst {l : List D} : Bi.app .tuple [.lst l] S = .ok (.tup l) S := by cases S <;> rfl
theorem b_tuple_tup {l : List D} : Bi.app .tuple [.tup l] S = .ok (.tup l) S := by cases S <;> rfl
theorem b_list_lst {l : List D} : Bi.app .list [.lst l] S = .ok (.lst l) S := by cases S <;> rfl
theorem b_list_tup {l : List D} : Bi.app .list [.tup l] S = .ok (.lst l) S := by cases S <;> rfl
theorem b_len_lst {l : List D} : Bi.app .len [.lst l] S = .ok (.int (l.length : Int)) S := by cases S <;> rfl
theorem b_len_tup {l : List D} : Bi.app .len [.tup l] S = .ok (.int (l.length : Int)) S := by cases S <;> rfl
theorem ss_lst (h : l.length < 4000) : ssR (.lst (l.map dt)) S = .ok (.lst ((setT l).map dt)) S := sset_setT h
theorem ss_tup (h : l.length < 4000) : ssR (.tup (l.map dt)) S = .ok (.lst ((setT l).map dt)) S := sset_setT h
theorem ls_lst (h : l.length < 4000) : lsR (.lst (l.map dt)) S = .ok (.int ((setT l).length : Int)) S := lset_setT h
theorem p_cat {l m : List D} (h : l.length + m.length ≤ 16000000) : Op2.add.app (.lst l) (.lst m) S = .ok (.lst (l ++ m)) S := by
  show (if okLen (l.length + m.length) = true then R.ok (D.lst (l ++ m)) S else .bad) = _
  rw [if_pos (okLen_le' h)]
theorem p_catT {l m : List D} (h : l.length + m.length ≤ 16000000) : Op2.add.app (.tup l) (.tup m) S = .ok (.tup (l ++ m)) S := by
  show (if okLen (l.length + m.length) = true then R.ok (D.tup (l ++ m)) S else .bad) = _
  rw [if_pos (okLen_le' h)]
theorem c_tup {l : List D} {lo hi : Option Int} : cutD (.tup l) lo hi S = .ok (.tup (cutL l lo hi)) S := by cases S <;> rfl
theorem c_lst {l : List D} {lo hi : Option Int} : cutD (.lst l) lo hi S = .ok (.lst (cutL l lo hi)) S := by cases S <;> rfl
theorem x_tup {l : List D} {i : Nat} (h : i < l.length) : atD (.tup l) (.int (i : Int)) S = .ok l[i] S := by
  show (match L2.atI l (i : Int) with | some d => R.ok d S | none => .bad) = _
  rw [atI_get h]
theorem x_lst {l : List D} {i : Nat} (h : i < l.length) : atD (.lst l) (.int (i : Int)) S = .ok l[i] S := by
  show (match L2.atI l (i : Int) with | some d => R.ok d S | none => .bad) = _
  rw [atI_get h]
theorem x_tup0 {d : D} {l : List D} : atD (.tup (d :: l)) (.int 0) S = .ok d S := x_tup (l := d :: l) (i := 0) (by simp)
theorem x_tup1 {d e : D} {l : List D} : atD (.tup (d :: e :: l)) (.int 1) S = .ok e S := x_tup (l := d :: e :: l) (i := 1) (by simp)
theorem x_lst0 {d : D} {l : List D} : atD (.lst (d :: l)) (.int 0) S = .ok d S := x_lst (l := d :: l) (i := 0) (by simp)
theorem it_lst {l : List D} : itR (.lst l) S = .ok ⟨l, none⟩ S := by cases S <;> rfl
theorem it_tup {l : List D} : itR (.tup l) S = .ok ⟨l, none⟩ S := by cases S <;> rfl
end
end SV
/-! SvLo: what hangs on which cells. -/
namespace SV
open PySem
mutual
theorem lo_mono {n m : Nat} (h : n ≤ m) : ∀ {d : D}, D.lo n d = true → D.lo m d = true
  | .non, _ => rfl
  | .bl _, _ => rfl
  | .int _, _ => rfl
  | .str _, _ => rfl
  | .scr _, _ => rfl
  | .fn _, _ => rfl
  | .exn _, _ => rfl
  | .dctv _ l, z => by
    unfold D.lo at z ⊢
    exact los_mono h z
  | .loc k, z => by
    unfold D.lo at z ⊢
    have := of_decide_eq_true z
    exact decide_eq_true (by omega)
  | .tup l, z => by
    unfold D.lo at z ⊢
    exact los_mono h z
  | .lst l, z => by
    unfold D.lo at z ⊢
    exact los_mono h z
theorem los_mono {n m : Nat} (h : n ≤ m) : ∀ {l : List D}, D.los n l = true → D.los m l = true
  | [], _ => rfl
  | d :: l, z => by
    unfold D.los at z ⊢
    rw [Bool.and_eq_true] at z ⊢
    exact ⟨lo_mono h z.1, los_mono h z.2⟩
end
theorem cell_mono {n m : Nat} (h : n ≤ m) : ∀ {c : Cell}, c.lo n = true → c.lo m = true
  | .lst l, z => los_mono h z
  | .dead, _ => rfl
  | .dct l, z => by
    unfold Cell.lo at z ⊢
    rw [List.all_eq_true] at z ⊢
    intro p hp
    have := z p hp
    rw [Bool.and_eq_true] at this ⊢
    exact ⟨lo_mono h this.1, lo_mono h this.2⟩
  | .obj _ l, z => by
    unfold Cell.lo at z ⊢
    rw [List.all_eq_true] at z ⊢
    exact fun p hp => lo_mono h (z p hp)
theorem los_strs {n : Nat} : ∀ {l : List (List Nat)}, D.los n (l.map dt) = true
  | [] => rfl
  | t :: l => by
    show D.los n (dt t :: l.map dt) = true
    unfold D.los
    rw [los_strs]
    rfl
theorem lo_strs {n : Nat} {l : List (List Nat)} : D.lo n (.lst (l.map dt)) = true := by
  unfold D.lo
  exact los_strs
theorem Wf.strs {S : Store} {l : List (List Nat)} (w : Wf S) : Wf (S ++ [.lst (l.map dt)]) := by
  unfold Wf at w ⊢
  rw [List.all_append, Bool.and_eq_true]
  refine ⟨?_, ?_⟩
  · rw [List.all_eq_true] at w ⊢
    exact fun c hc => cell_mono (by simp) (w c hc)
  · simp [Cell.lo, los_strs]
theorem Wf.app {S T : Store} (w : Wf S) (h : T.all (Cell.lo (S.length + T.length)) = true) : Wf (S ++ T) := by
  unfold Wf at w ⊢
  rw [List.all_append, Bool.and_eq_true, List.length_append]
  refine ⟨?_, h⟩
  rw [List.all_eq_true] at w ⊢
  exact fun c hc => cell_mono (by omega) (w c hc)
theorem lo_tup {n : Nat} {l : List D} : D.lo n (.tup l) = D.los n l := by rw [D.lo]
theorem lo_lst {n : Nat} {l : List D} : D.lo n (.lst l) = D.los n l := by rw [D.lo]
theorem los_cons {n : Nat} {d : D} {l : List D} : D.los n (d :: l) = (D.lo n d && D.los n l) := by rw [D.los]
theorem los_nil {n : Nat} : D.los n [] = true := by rw [D.los]
theorem los_dts {n : Nat} {l : List (List Nat)} : D.los n (l.map dt) = true := los_strs
/-- cells that hold nothing that hangs on cells -/
def Flat (c : Cell) : Prop := ∀ n, c.lo n = true
theorem flat_strs {l : List (List Nat)} : Flat (.lst (l.map dt)) := fun n => los_strs
theorem flat_dead : Flat .dead := fun n => rfl
theorem flat_nil : Flat (.lst []) := fun n => rfl
theorem Wf.flat {S : Store} {c : Cell} (w : Wf S) (h : Flat c) : Wf (S ++ [c]) := w.app (by simp [h _])
theorem Wf.flat2 {S : Store} {c d : Cell} (w : Wf S) (h : Flat c) (k : Flat d) : Wf (S ++ [c, d]) := w.app (by simp [h _, k _])
end SV
/-! SvR2: loops; cells. -/
namespace SV
open PySem
section
variable {α : Type}
/-- a loop over items that are known, with an invariant -/
theorem wp_forI {g : Option (Nat × Cell)} {st : D → Env → Option Env} {f : Env → Store → R Fl} {enc : α → D} {xs : List α} {env : Env} {S : Store} {Q : Fl → Store → Prop} {E : Nat → Store → Prop} {t : Tag Q E} (I : List α → Env → Store → Prop) (h0 : I [] env S) (hg : ∀ p env S, I p env S → Good g S)
    (step : ∀ p x r env S, xs = p ++ x :: r → I p env S → ∃ env1, st (enc x) env = some env1 ∧ Wp (f env1 S) (fun fl S' => match fl with | .nx e => I (p ++ [x]) e S' | .ct e => I (p ++ [x]) e S' | .bk e => Q (.nx e) S' | .ret d => Q (.ret d) S') E .mk)
    (last : ∀ env S, I xs env S → Q (.nx env) S) : Wp (forLoop g st f (xs.map enc) env S) Q E t := by
  have key : ∀ (r p : List α) (env : Env) (S : Store), xs = p ++ r → I p env S → Wp (forLoop g st f (r.map enc) env S) Q E t := by
    intro r
    induction r with
    | nil =>
      intro p env S e h
      rw [List.append_nil] at e
      subst e
      unfold forLoop
      rw [List.map_nil]
      dsimp only
      rw [if_pos (hg _ _ _ h), wp_ok]
      exact last env S h
    | cons x r ih =>
      intro p env S e h
      obtain ⟨env1, h1, h2⟩ := step p x r env S e h
      rw [List.map_cons]
      unfold forLoop
      rw [if_pos (hg _ _ _ h), h1]
      dsimp only
      rw [wp_bind]
      refine wp_imp h2 fun fl S' k => ?_
      cases fl with
      | nx e1 => exact ih (p ++ [x]) e1 S' (by simp [e]) k
      | ct e1 => exact ih (p ++ [x]) e1 S' (by simp [e]) k
      | bk e1 =>
        rw [wp_ok]
        exact k
      | ret d =>
        rw [wp_ok]
        exact k
  exact key xs [] env S rfl h0
/-- a loop over numbers -/
theorem wp_forN {st : D → Env → Option Env} {f : Env → Store → R Fl} {lo : Int} {m : Nat} {env : Env} {S : Store} {Q : Fl → Store → Prop} {E : Nat → Store → Prop} {t : Tag Q E} (I : Nat → Env → Store → Prop) (h0 : I 0 env S)
    (step : ∀ i env S, i < m → I i env S → ∃ env1, st (.int (lo + (i : Int))) env = some env1 ∧ Wp (f env1 S) (fun fl S' => match fl with | .nx e => I (i + 1) e S' | .ct e => I (i + 1) e S' | .bk e => Q (.nx e) S' | .ret d => Q (.ret d) S') E .mk)
    (last : ∀ env S, I m env S → Q (.nx env) S) : Wp (forLoop none st f (rngD lo m) env S) Q E t := by
  refine wp_forI (enc := fun (i : Nat) => .int (lo + (i : Int))) (xs := List.range m) (fun p env S => I p.length env S) h0 (fun _ _ _ _ => good_none _) (fun p x r env S e h => ?_) (fun env S h => last env S (by simpa using h))
  have hl : (List.range m).length = p.length + (r.length + 1) := by rw [e]; simp
  rw [List.length_range] at hl
  have hx : x = p.length := by
    have h1 : (List.range m)[p.length]? = some x := by rw [e]; simp
    rw [List.getElem?_range (by omega)] at h1
    exact (Option.some.inj h1).symm
  subst hx
  obtain ⟨env1, h1, h2⟩ := step p.length env S (by omega) h
  refine ⟨env1, h1, wp_imp h2 fun fl S' k => ?_⟩
  cases fl <;> simpa using k
/-- .. from 0 on -/
theorem wp_forN0 {st : D → Env → Option Env} {f : Env → Store → R Fl} {m : Nat} {env : Env} {S : Store} {Q : Fl → Store → Prop} {E : Nat → Store → Prop} {t : Tag Q E} (I : Nat → Env → Store → Prop) (h0 : I 0 env S)
    (step : ∀ i env S, i < m → I i env S → ∃ env1, st (.int (i : Int)) env = some env1 ∧ Wp (f env1 S) (fun fl S' => match fl with | .nx e => I (i + 1) e S' | .ct e => I (i + 1) e S' | .bk e => Q (.nx e) S' | .ret d => Q (.ret d) S') E .mk)
    (last : ∀ env S, I m env S → Q (.nx env) S) : Wp (forLoop none st f (rngD 0 m) env S) Q E t :=
  wp_forN I h0 (fun i env S hi h => by
    obtain ⟨e, h1, h2⟩ := step i env S hi h
    exact ⟨e, by rw [show (0 : Int) + (i : Int) = (i : Int) by omega]; exact h1, h2⟩) last
/-- a while: a number falls -/
theorem wp_whlI {c : Env → Store → R D} {f : Env → Store → R Fl} {fu : Nat} {env : Env} {S : Store} {Q : Fl → Store → Prop} {E : Nat → Store → Prop} {t : Tag Q E} (I : Nat → Env → Store → Prop) {m : Nat} (hm : m < fu) (h0 : I m env S)
    (step : ∀ m env S, I m env S → Wp (c env S) (fun d S1 => (d = .bl false ∧ Q (.nx env) S1) ∨ (d = .bl true ∧ Wp (f env S1) (fun fl S' => match fl with | .nx e => ∃ m', m' < m ∧ I m' e S' | .ct e => ∃ m', m' < m ∧ I m' e S' | .bk e => Q (.nx e) S' | .ret d => Q (.ret d) S') E .mk)) E .mk) :
    Wp (whlLoop c f fu env S) Q E t := by
  induction fu generalizing m env S with
  | zero => omega
  | succ fu ih =>
    unfold whlLoop
    rw [wp_bind]
    refine wp_imp (step m env S h0) fun d S1 k => ?_
    rcases k with ⟨rfl, k⟩ | ⟨rfl, k⟩
    · dsimp only
      rw [wp_ok]
      exact k
    · dsimp only
      rw [wp_bind]
      refine wp_imp k fun fl S' k => ?_
      cases fl with
      | nx e =>
        obtain ⟨m', h1, h2⟩ := k
        exact ih (by omega) h2
      | ct e =>
        obtain ⟨m', h1, h2⟩ := k
        exact ih (by omega) h2
      | bk e =>
        dsimp only
        rw [wp_ok]
        exact k
      | ret d =>
        dsimp only
        rw [wp_ok]
        exact k
/-- a comprehension without effects -/
theorem wp_lcI {g : Option (Nat × Cell)} {st : D → Option Env} {fc fe : Env → Store → R D} {enc : α → D} {xs : List α} {S : Store} {Q : D → Store → Prop} {E : Nat → Store → Prop} {t : Tag Q E} (p : α → Bool) (q : α → D) (hg : Good g S) (hl : xs.length ≤ 16000000)
    (h : ∀ x ∈ xs, ∃ env, st (enc x) = some env ∧ Wp (fc env S) (fun d S' => d = .bl (p x) ∧ S' = S) (fun _ _ => False) .mk ∧ (p x = true → Wp (fe env S) (fun d S' => d = q x ∧ S' = S) (fun _ _ => False) .mk)) (k : Q (.lst ((xs.filter p).map q)) S) :
    Wp (lcR g st fc fe (xs.map enc) S) Q E t := by
  have key : ∀ xs : List α, (∀ x ∈ xs, ∃ env, st (enc x) = some env ∧ Wp (fc env S) (fun d S' => d = .bl (p x) ∧ S' = S) (fun _ _ => False) .mk ∧ (p x = true → Wp (fe env S) (fun d S' => d = q x ∧ S' = S) (fun _ _ => False) .mk)) → lcLoop g st fc fe (xs.map enc) S = .ok ((xs.filter p).map q) S := by
    intro xs
    induction xs with
    | nil =>
      intro _
      unfold lcLoop
      rw [List.map_nil]
      dsimp only
      rw [if_pos hg]
      rfl
    | cons x xs ih =>
      intro h
      rw [List.map_cons]
      unfold lcLoop
      rw [if_pos hg]
      obtain ⟨env, h1, h2, h3⟩ := h x List.mem_cons_self
      rw [h1]
      dsimp only
      have e2 := wp_eq h2
      have ih := ih fun y hy => h y (List.mem_cons_of_mem _ hy)
      cases hp : p x with
      | false =>
        rw [hp] at e2
        rw [e2]
        dsimp only [R.nox_ok, R.bind_ok]
        rw [ih, List.filter_cons_of_neg (by simp [hp])]
      | true =>
        rw [hp] at e2
        rw [e2]
        dsimp only [R.nox_ok, R.bind_ok]
        rw [wp_eq (h3 hp)]
        dsimp only [R.nox_ok, R.bind_ok]
        rw [ih, List.filter_cons_of_pos hp]
        rfl
  unfold lcR
  rw [if_pos (okLen_le' (by rw [List.length_map]; exact hl)), key xs h]
  show Wp (R.ok _ S) Q E t
  rw [wp_ok]
  exact k
/-- .. without a test -/
theorem wp_mapI {g : Option (Nat × Cell)} {st : D → Option Env} {Γ : Nat → List D → Store → R D} {fe : Env → Store → R D} {enc : α → D} {xs : List α} {S : Store} {Q : D → Store → Prop} {E : Nat → Store → Prop} {t : Tag Q E} (q : α → D) (hg : Good g S) (hl : xs.length ≤ 16000000)
    (h : ∀ x ∈ xs, ∃ env, st (enc x) = some env ∧ Wp (fe env S) (fun d S' => d = q x ∧ S' = S) (fun _ _ => False) .mk) (k : Q (.lst (xs.map q)) S) :
    Wp (lcR g st (evc Γ .none) fe (xs.map enc) S) Q E t := by
  refine wp_lcI (fun _ => true) q hg hl (fun x hx => ?_) (by rw [List.filter_eq_self.mpr (fun _ _ => rfl)]; exact k)
  obtain ⟨env, h1, h2⟩ := h x hx
  refine ⟨env, h1, ?_, fun _ => h2⟩
  rw [w_cn]
  exact ⟨rfl, rfl⟩
theorem wp_mapN {st : D → Option Env} {Γ : Nat → List D → Store → R D} {fe : Env → Store → R D} {m : Nat} {S : Store} {Q : D → Store → Prop} {E : Nat → Store → Prop} {t : Tag Q E} (q : Nat → D) (hl : m ≤ 16000000)
    (h : ∀ i, i < m → ∃ env, st (.int (i : Int)) = some env ∧ Wp (fe env S) (fun d S' => d = q i ∧ S' = S) (fun _ _ => False) .mk) (k : Q (.lst ((List.range m).map q)) S) :
    Wp (lcR none st (evc Γ .none) fe (rngD 0 m) S) Q E t := by
  refine wp_mapI (enc := fun (i : Nat) => .int (0 + (i : Int))) (xs := List.range m) q (good_none _) (by rw [List.length_range]; exact hl) (fun i hi => ?_) k
  obtain ⟨env, h1, h2⟩ := h i (List.mem_range.mp hi)
  exact ⟨env, by rw [show (0 : Int) + (i : Int) = (i : Int) by omega]; exact h1, h2⟩
/-- numbers with a test -/
theorem wp_lcN {st : D → Option Env} {fc fe : Env → Store → R D} {m : Nat} {S : Store} {Q : D → Store → Prop} {E : Nat → Store → Prop} {t : Tag Q E} (p : Nat → Bool) (q : Nat → D) (hl : m ≤ 16000000)
    (h : ∀ i, i < m → ∃ env, st (.int (i : Int)) = some env ∧ Wp (fc env S) (fun d S' => d = .bl (p i) ∧ S' = S) (fun _ _ => False) .mk ∧ (p i = true → Wp (fe env S) (fun d S' => d = q i ∧ S' = S) (fun _ _ => False) .mk)) (k : Q (.lst (((List.range m).filter p).map q)) S) :
    Wp (lcR none st fc fe (rngD 0 m) S) Q E t := by
  refine wp_lcI (enc := fun (i : Nat) => .int (0 + (i : Int))) (xs := List.range m) p q (good_none _) (by rw [List.length_range]; exact hl) (fun i hi => ?_) k
  obtain ⟨env, h1, h2, h3⟩ := h i (List.mem_range.mp hi)
  exact ⟨env, by rw [show (0 : Int) + (i : Int) = (i : Int) by omega]; exact h1, h2, h3⟩
/-- with texts for results -/
theorem wp_mapT {g : Option (Nat × Cell)} {st : D → Option Env} {Γ : Nat → List D → Store → R D} {fe : Env → Store → R D} {enc : α → D} {xs : List α} {S : Store} {Q : D → Store → Prop} {E : Nat → Store → Prop} {t : Tag Q E} (q : α → List Nat) (hg : Good g S) (hl : xs.length ≤ 16000000)
    (h : ∀ x ∈ xs, ∃ env, st (enc x) = some env ∧ Wp (fe env S) (fun d S' => d = dt (q x) ∧ S' = S) (fun _ _ => False) .mk) (k : Q (.lst ((xs.map q).map dt)) S) :
    Wp (lcR g st (evc Γ .none) fe (xs.map enc) S) Q E t := wp_mapI (fun x => dt (q x)) hg hl h (by rw [List.map_map] at k; exact k)
theorem wp_mapNT {st : D → Option Env} {Γ : Nat → List D → Store → R D} {fe : Env → Store → R D} {m : Nat} {S : Store} {Q : D → Store → Prop} {E : Nat → Store → Prop} {t : Tag Q E} (q : Nat → List Nat) (hl : m ≤ 16000000)
    (h : ∀ i, i < m → ∃ env, st (.int (i : Int)) = some env ∧ Wp (fe env S) (fun d S' => d = dt (q i) ∧ S' = S) (fun _ _ => False) .mk) (k : Q (.lst (((List.range m).map q).map dt)) S) :
    Wp (lcR none st (evc Γ .none) fe (rngD 0 m) S) Q E t := wp_mapN (fun x => dt (q x)) hl h (by rw [List.map_map] at k; exact k)
theorem wp_lcT {g : Option (Nat × Cell)} {st : D → Option Env} {fc fe : Env → Store → R D} {enc : α → D} {xs : List α} {S : Store} {Q : D → Store → Prop} {E : Nat → Store → Prop} {t : Tag Q E} (p : α → Bool) (q : α → List Nat) (hg : Good g S) (hl : xs.length ≤ 16000000)
    (h : ∀ x ∈ xs, ∃ env, st (enc x) = some env ∧ Wp (fc env S) (fun d S' => d = .bl (p x) ∧ S' = S) (fun _ _ => False) .mk ∧ (p x = true → Wp (fe env S) (fun d S' => d = dt (q x) ∧ S' = S) (fun _ _ => False) .mk)) (k : Q (.lst (((xs.filter p).map q).map dt)) S) :
    Wp (lcR g st fc fe (xs.map enc) S) Q E t := wp_lcI p (fun x => dt (q x)) hg hl h (by rw [List.map_map] at k; exact k)
theorem wp_lcNT {st : D → Option Env} {fc fe : Env → Store → R D} {m : Nat} {S : Store} {Q : D → Store → Prop} {E : Nat → Store → Prop} {t : Tag Q E} (p : Nat → Bool) (q : Nat → List Nat) (hl : m ≤ 16000000)
    (h : ∀ i, i < m → ∃ env, st (.int (i : Int)) = some env ∧ Wp (fc env S) (fun d S' => d = .bl (p i) ∧ S' = S) (fun _ _ => False) .mk ∧ (p i = true → Wp (fe env S) (fun d S' => d = dt (q i) ∧ S' = S) (fun _ _ => False) .mk)) (k : Q (.lst ((((List.range m).filter p).map q).map dt)) S) :
    Wp (lcR none st fc fe (rngD 0 m) S) Q E t := wp_lcN p (fun x => dt (q x)) hl h (by rw [List.map_map] at k; exact k)
end
/-! ### cells -/
section
variable {S T : Store} {c c' : Cell} {l m : List D} {k : Nat}
theorem g_at : (S ++ c :: T)[S.length]? = some c := by simp
theorem g_at1 {c1 : Cell} : (S ++ c1 :: c :: T)[S.length + 1]? = some c := by simp
theorem g_at2 {c1 c2 : Cell} : (S ++ c1 :: c2 :: c :: T)[S.length + 2]? = some c := by simp
theorem s_at : (S ++ c :: T).set S.length c' = S ++ c' :: T := by simp
theorem s_at1 {c1 : Cell} : (S ++ c1 :: c :: T).set (S.length + 1) c' = S ++ c1 :: c' :: T := by
  rw [List.set_append_right _ _ (by omega), show S.length + 1 - S.length = 1 by omega]
  rfl
theorem s_at2 {c1 c2 : Cell} : (S ++ c1 :: c2 :: c :: T).set (S.length + 2) c' = S ++ c1 :: c2 :: c' :: T := by
  rw [List.set_append_right _ _ (by omega), show S.length + 2 - S.length = 2 by omega]
  rfl
/-- by what stands in a cell -/
def isLstC : Option Cell → Bool
  | some (.lst _) => true
  | _ => false
def isDctC : Option Cell → Bool
  | some (.dct _) => true
  | _ => false
theorem isLst_some : isLstC (some (.lst l)) = true := by cases l <;> rfl
theorem isDct_some {l : List (D × D)} : isDctC (some (.dct l)) = true := by cases l <;> rfl
theorem rv_append : Mt.recv .append (.loc k) S = isLstC S[k]? := by cases S <;> rfl
theorem rv_extend : Mt.recv .extend (.loc k) S = isLstC S[k]? := by cases S <;> rfl
theorem rv_pop : Mt.recv .pop (.loc k) S = isLstC S[k]? := by cases S <;> rfl
theorem rv_popAt : Mt.recv .popAt (.loc k) S = isLstC S[k]? := by cases S <;> rfl
theorem rv_remove : Mt.recv .remove (.loc k) S = isLstC S[k]? := by cases S <;> rfl
theorem rv_get : Mt.recv .get (.loc k) S = isDctC S[k]? := by cases S <;> rfl
theorem rv_strip {x : Str} : Mt.recv .strip (.str x) S = true := by cases S <;> rfl
theorem rv_join {x : Str} : Mt.recv .join (.str x) S = true := by cases S <;> rfl
theorem rv_split {x : Str} : Mt.recv .split (.str x) S = true := by cases S <;> rfl
theorem rv_find {x : Str} : Mt.recv .find (.str x) S = true := by cases S <;> rfl
theorem rv_scount {x : Str} : Mt.recv .scount (.str x) S = true := by cases S <;> rfl
theorem rv_sindex {x : Str} : Mt.recv .sindex (.str x) S = true := by cases S <;> rfl
theorem rv_tcount : Mt.recv .tcount (.tup l) S = true := by cases S <;> rfl
theorem rv_tindex : Mt.recv .tindex (.tup l) S = true := by cases S <;> rfl
theorem rv_lcount : Mt.recv .lcount (.lst l) S = true := by cases S <;> rfl
theorem rv_lindex : Mt.recv .lindex (.lst l) S = true := by cases S <;> rfl
def appendC (o : Option Cell) (k : Nat) (x : D) (S : Store) : R D := match o with
  | some (.lst l) => if okLen l.length then .ok .non (S.set k (.lst (l ++ [x]))) else .bad
  | _ => .bad
def extendC (o : Option Cell) (k : Nat) (m : List D) (S : Store) : R D := match o with
  | some (.lst l) => if okLen (l.length + m.length) then .ok .non (S.set k (.lst (l ++ m))) else .bad
  | _ => .bad
theorem a_append {x : D} : Mt.app .append (.loc k) [x] S = appendC S[k]? k x S := by cases S <;> rfl
theorem a_extend : Mt.app .extend (.loc k) [.lst m] S = extendC S[k]? k m S := by cases S <;> rfl
theorem appendC_some {x : D} (h : l.length ≤ 16000000) : appendC (some (.lst l)) k x S = .ok .non (S.set k (.lst (l ++ [x]))) := by
  unfold appendC
  dsimp only
  rw [if_pos (okLen_le' h)]
theorem extendC_some (h : l.length + m.length ≤ 16000000) : extendC (some (.lst l)) k m S = .ok .non (S.set k (.lst (l ++ m))) := by
  unfold extendC
  dsimp only
  rw [if_pos (okLen_le' h)]
def popC (o : Option Cell) (k : Nat) (S : Store) : R D := match o with
  | some (.lst l) => match l.getLast? with
    | some x => .ok x (S.set k (.lst l.dropLast))
    | none => .bad
  | _ => .bad
theorem a_pop : Mt.app .pop (.loc k) [] S = popC S[k]? k S := by cases S <;> rfl
theorem popC_some {x : D} : popC (some (.lst (l ++ [x]))) k S = .ok x (S.set k (.lst l)) := by
  unfold popC
  simp
def popAtC (o : Option Cell) (k : Nat) (i : Int) (S : Store) : R D := match o with
  | some (.lst (x :: m)) => if i = 0 then .ok x (S.set k (.lst m)) else .bad
  | _ => .bad
theorem a_popAt {i : Int} : Mt.app .popAt (.loc k) [.int i] S = popAtC S[k]? k i S := by cases S <;> rfl
theorem popAtC_some {x : D} : popAtC (some (.lst (x :: l))) k 0 S = .ok x (S.set k (.lst l)) := by cases S <;> rfl
def snapC (o : Option Cell) (k : Nat) (S : Store) : R D := match o with
  | some (.lst l) => .ok (.lst l) (S.set k .dead)
  | some (.dct l) => snapD l k S
  | _ => .bad
theorem snap_c : snapR (some (.loc k)) S = snapC S[k]? k S := by cases S <;> rfl
theorem snapC_lst : snapC (some (.lst l)) k S = .ok (.lst l) (S.set k .dead) := by cases S <;> rfl
def itC (o : Option Cell) (k : Nat) (S : Store) : R Src := match o with
  | some (.lst l) => .ok ⟨l, some (k, .lst l)⟩ S
  | _ => .bad
theorem it_c : itR (.loc k) S = itC S[k]? k S := by
  unfold itR srcD itC
  dsimp only
  cases q : S[k]? with
  | none => rfl
  | some c => cases c <;> rfl
theorem itC_some : itC (some (.lst l)) k S = .ok ⟨l, some (k, .lst l)⟩ S := by cases S <;> rfl
def lenC (o : Option Cell) (S : Store) : R D := match o with
  | some (.lst l) => .ok (.int (l.length : Int)) S
  | _ => .bad
theorem len_c : Bi.app .len [.loc k] S = lenC S[k]? S := by
  show (match D.items (.loc k) S with | some l => R.ok (D.int (l.length : Int)) S | none => .bad) = _
  unfold D.items lenC
  dsimp only
  cases q : S[k]? with
  | none => rfl
  | some c => cases c <;> rfl
theorem lenC_some : lenC (some (.lst l)) S = .ok (.int (l.length : Int)) S := by cases S <;> rfl
def sortC (o : Option Cell) (S : Store) : R D := match o with
  | some (.lst l) => if okSort l then .ok (.lst (sortD l)) S else .bad
  | _ => .bad
theorem sort_c : Bi.app .sorted [.loc k] S = sortC S[k]? S := by
  show (match D.items (.loc k) S with | some l => if okSort l then R.ok (D.lst (sortD l)) S else .bad | none => .bad) = _
  unfold D.items sortC
  dsimp only
  cases q : S[k]? with
  | none => rfl
  | some c => cases c <;> rfl
theorem sortC_T {l : List (List Nat)} (h : l.length ≤ 16000000) : sortC (some (.lst (l.map dt))) S = .ok (.lst ((sortT l).map dt)) S := b_sortT h
def tupC (o : Option Cell) (S : Store) : R D := match o with
  | some (.lst l) => .ok (.tup l) S
  | _ => .bad
theorem tup_c : Bi.app .tuple [.loc k] S = tupC S[k]? S := by
  show (match D.items (.loc k) S with | some l => R.ok (D.tup l) S | none => .bad) = _
  unfold D.items tupC
  dsimp only
  cases q : S[k]? with
  | none => rfl
  | some c => cases c <;> rfl
theorem tupC_some : tupC (some (.lst l)) S = .ok (.tup l) S := by cases S <;> rfl
def listC (o : Option Cell) (S : Store) : R D := match o with
  | some (.lst l) => .ok (.lst l) S
  | some (.dct l) => if (l.all fun p => !isTup p.1) = true then .ok (.lst (l.map (·.1))) S else .bad
  | _ => .bad
theorem list_c : Bi.app .list [.loc k] S = listC S[k]? S := by cases S <;> rfl
theorem listC_lst : listC (some (.lst l)) S = .ok (.lst l) S := by cases S <;> rfl
theorem dec_le {a b : Nat} : decide ((a : Int) ≤ (b : Int)) = decide (a ≤ b) := by simp
theorem dec_lt {a b : Nat} : decide ((a : Int) < (b : Int)) = decide (a < b) := by simp
theorem dec_eq {a b : Nat} : decide ((a : Int) = (b : Int)) = decide (a = b) := by
  congr 1
  exact propext ⟨fun h => by omega, fun h => by omega⟩
theorem pc_fold {a : List Nat} {i w : Nat} : List.take (i + w - i) (List.drop i a) = pc a w i := by rw [Nat.add_sub_cancel_left]; rfl
section
variable {c1 : Cell}
theorem g_set (h : k < S.length) : (S.set k c)[k]? = some c := by simp [h]
theorem g_setA (h : k < S.length) : (S.set k c ++ T)[k]? = some c := by
  rw [List.getElem?_append_left (by rw [List.length_set]; exact h)]
  exact g_set h
theorem s_set : (S.set k c).set k c' = S.set k c' := List.set_set ..
theorem s_setA (h : k < S.length) : (S.set k c ++ T).set k c' = S.set k c' ++ T := by
  rw [List.set_append_left _ _ (by rw [List.length_set]; exact h), s_set]
theorem g_atS : (S.set k c ++ c1 :: T)[S.length]? = some c1 := by
  have e := g_at (S := S.set k c) (c := c1) (T := T)
  rw [List.length_set] at e
  exact e
theorem s_atS : (S.set k c ++ c1 :: T).set S.length c' = S.set k c ++ c' :: T := by
  have e := s_at (S := S.set k c) (c := c1) (c' := c') (T := T)
  rw [List.length_set] at e
  exact e
end
/-! what a def leaves of its cells -/
theorem lo_strsT {n : Nat} {l : List (List Nat)} : D.lo n (.tup (l.map dt)) = true := by
  unfold D.lo
  exact los_strs
theorem lo_strsL {n : Nat} {l : List (List Nat)} : D.lo n (.lst (l.map dt)) = true := lo_strs
theorem lo_dt {n : Nat} {a : List Nat} : D.lo n (dt a) = true := by cases n <;> rfl
theorem lo_int {n : Nat} {i : Int} : D.lo n (.int i) = true := by cases n <;> rfl
theorem lo_bl {n : Nat} {i : Bool} : D.lo n (.bl i) = true := by cases n <;> rfl
theorem lo_non {n : Nat} : D.lo n .non = true := by cases n <;> rfl
theorem fin_t {n : Nat} {d : D} {S T : Store} (hn : S.length = n) (w : Wf S) (h : D.lo n d = true) : fin n (.ok d (S ++ T)) = .ok d S := by
  subst hn
  exact fin_more w h
end
end SV
/-! SvS: views, texts that have one. -/
namespace SV
open PySem
theorem dr_m1 {α : Type} {l : List α} : cutL l none (some (-1)) = l.dropLast := by
  have e0 : HT.sIx l.length 0 none = 0 := rfl
  have e : HT.sIx l.length l.length (some (-1)) = l.length - 1 := by
    show (if (-1 : Int) < 0 then (-1 + (l.length : Int)).toNat else (-1 : Int).toNat.min l.length) = _
    rw [if_pos (by decide)]
    omega
  unfold cutL
  rw [e0, List.drop_zero, Nat.sub_zero, e, List.dropLast_eq_take]
theorem lt_m1 {a : List Nat} {S : Store} (h : 1 ≤ a.length) (h2 : a.length ≤ 16000000) : atD (dt a) (.int (-1)) S = .ok (dt [a.getLastD 0]) S := by
  show (if okLen (tx a).length = true then (match L2.atI (tx a).cps.toList (-1 : Int) with | some c => R.ok (sign c) S | none => .bad) else .bad) = _
  rw [tx_len, if_pos (okLen_le' h2), tx_cps]
  have e : L2.atI a (-1) = some (a.getLastD 0) := by
    unfold L2.atI L2.ixN
    rw [if_neg (by decide), if_pos (by omega)]
    have : ((-1 : Int) + (a.length : Int)).toNat = a.length - 1 := by omega
    simp only [Option.bind_some, this]
    rw [List.getLastD_eq_getLast?, List.getLast?_eq_getElem?]
    rw [List.getElem?_eq_getElem (by omega)]
    rfl
  rw [e]
  rfl
theorem i_eqZ {i j : Int} {S : Store} : cmA .eq (.int i) (.int j) S = .ok (.bl (decide (i = j))) S := by
  classical
  rw [q_eq (show Ok 30 ((D.int i).rd S) from ok_int) (show Ok 30 ((D.int j).rd S) from ok_int)]
  congr 2
  rw [decide_eq_decide]
  show D.int i = D.int j ↔ _
  rw [D.int.injEq]
theorem ltD_dt (a b : List Nat) : ltD (dt a) (dt b) = some (decide (a < b)) := by
  have : (D.pure (dt a) && D.pure (dt b) && PySem.W.alike (dt a).py (dt b).py && decide ((PyData.depth (dt a).py) ≤ 30) && !isNon (dt a)) = true := rfl
  unfold ltD
  rw [if_pos this, dataLt_str]
theorem t_ltq {a b : List Nat} {S : Store} : cmA .lt (dt a) (dt b) S = .ok (.bl (decide (a < b))) S := by
  show (match ltD (dt a) (dt b) with | some c => R.ok (D.bl c) S | none => .bad) = _
  rw [ltD_dt]
theorem t_leq {a b : List Nat} {S : Store} : cmA .le (dt a) (dt b) S = .ok (.bl (leT a b)) S := by
  show (match (ltD (dt b) (dt a)).map (!·) with | some c => R.ok (D.bl c) S | none => .bad) = _
  rw [ltD_dt]
  rfl
/-- all sorts of equations between tuples of texts -/
theorem ok_tupT (l : List (List Nat)) : Ok 30 (.tup (l.map dt)) := (ok_tup (n := 0) fun d hd => by
  obtain ⟨t, _, rfl⟩ := List.mem_map.mp hd
  exact ok_str).le (by decide)
theorem map_dt_inj {l m : List (List Nat)} : l.map dt = m.map dt ↔ l = m := ⟨fun e => List.map_inj_right (fun x y => dt_inj.mp) |>.mp e, fun e => by rw [e]⟩
theorem q_tupT {l m : List (List Nat)} {S : Store} : cmA .eq (.tup (l.map dt)) (.tup (m.map dt)) S = .ok (.bl (decide (l = m))) S := by
  classical
  rw [q_eq (show Ok 30 ((D.tup (l.map dt)).rd S) from ok_tupT l) (show Ok 30 ((D.tup (m.map dt)).rd S) from ok_tupT m)]
  congr 2
  rw [decide_eq_decide]
  show D.tup (l.map dt) = D.tup (m.map dt) ↔ _
  rw [D.tup.injEq, map_dt_inj]
theorem q_tnil {S : Store} : cmA .eq (.tup []) (.tup []) S = .ok (.bl true) S := by
  have e := q_tupT (l := []) (m := []) (S := S)
  simpa using e
local macro_rules
  | `(tactic| simp_arith) => `(tactic| simp -dsimp (disch := first | assumption | omega | (simp only [rv_append, rv_extend, rv_pop, rv_popAt, rv_remove, rv_get, rv_strip, rv_join, rv_split, rv_find, rv_scount, rv_sindex, rv_tcount, rv_tindex, rv_lcount, rv_lindex, g_at, g_at1, g_at2, g_atS, isLst_some, isDct_some, List.getElem?_cons_zero, List.getElem?_cons_succ, List.length_cons, List.length_nil, List.length_map, List.length_append, List.length_take, List.length_drop, List.length_range, List.length_dropLast, lo_strsL, lo_strsT, lo_dt, lo_int, lo_bl, lo_non, lo_tup, lo_lst, los_cons, los_nil, los_dts, Bool.and_true, Bool.and_self] <;> omega) | fail) only [↓wp_bind, ↓w_var, ↓w_cst, ↓w_glb, ↓w_op, ↓w_neg, ↓w_cmp, ↓wp_ift, ↓wp_iff, ↓wp_ifd1, ↓wp_ifd0, ↓wp_ifn1, ↓wp_ifn0, ↓w_chn, ↓w_not, ↓w_and, ↓w_or, ↓w_ite, ↓w_tup, ↓w_lst, ↓w_idx, ↓w_sl, ↓w_call, ↓w_bi, ↓w_mth, ↓w_lc, ↓w_cell, ↓w_snap, ↓w_rev, ↓w_dict, ↓w_sset, ↓w_lset, ↓w_cn, ↓w_cs, ↓w_nil, ↓w_cons, ↓w_on, ↓w_os, ↓w_ie, ↓w_i1, ↓w_i2, ↓w_xnil, ↓w_xcons, ↓w_pass, ↓w_expr, ↓w_set, ↓w_setT, ↓w_par, ↓w_put, ↓w_ret, ↓w_retN, ↓w_ifs, ↓w_for, ↓w_whl, ↓w_brk, ↓w_cnt, ↓w_two, ↓sq_nx, ↓sq_ret, ↓sq_bk, ↓sq_ct, wp_ok, wp_exc, wp_mth, slotR_some, negR_int, intO_int, List.getD_cons_zero, List.getD_cons_succ, List.set_cons_succ, List.set_cons_zero, List.map_cons, List.map_nil, List.length_cons, List.length_nil, List.replicate_succ, List.replicate_zero, List.cons_append, List.nil_append, Nat.reduceAdd, Nat.reduceSub, ret_ret, ret_nx, fin_self, seqR_ok, cellR_lst, p_add, p_sub, p_mul, p_mul', p_mod, q_lt, q_le, q_gt, q_ge, rngR_int, rng2R_int, t_add, t_len, t_cut, t_at, t_eq, t_ne, t_isStr, i_isInt, i_isBool, nc_add, nc_sub, nc_p1, nc_p2, nc_p3, nc_p4, nc_sub1, nc_sub2, nc_1add, nc_mul, Int.toNat_natCast, fin_t, cut_to, cut_from, cut_mid, decide_true, decide_false, Bool.not_true, Bool.not_false, wp_ift, wp_iff, wp_ifd1, wp_ifd0, wp_ifn1, wp_ifn0, b_sortT, b_sortTt, b_tuple_lst, b_tuple_tup, b_list_lst, b_list_tup, b_len_lst, b_len_tup, ss_lst, ss_tup, ls_lst, p_cat, p_catT, c_tup, c_lst, x_tup0, x_tup1, x_lst0, it_lst, it_tup, ← List.map_take, ← List.map_drop, ← List.map_append, List.length_append, List.length_map, List.append_assoc, Nat.zero_add, Nat.add_zero, g_at, g_at1, g_at2, s_at, s_at1, s_at2, g_atS, s_atS, g_set, g_setA, s_set, s_setA, isLst_some, isDct_some, rv_append, rv_extend, rv_pop, rv_popAt, rv_remove, rv_get, rv_strip, rv_join, rv_split, rv_find, rv_scount, rv_sindex, rv_tcount, rv_tindex, rv_lcount, rv_lindex, a_append, a_extend, appendC_some, extendC_some, a_pop, popC_some, a_popAt, popAtC_some, snap_c, snapC_lst, it_c, itC_some, len_c, lenC_some, List.getElem?_cons_zero, List.getElem?_cons_succ, q_tnil, sort_c, sortC_T, tup_c, tupC_some, list_c, listC_lst, dec_le, dec_lt, dec_eq, pc_fold, and_true, true_and, dr_m1, lt_m1, i_eqZ, t_ltq, t_leq])
  | `(tactic| simp_arith [$xs,*]) => `(tactic| simp -dsimp (disch := first | assumption | omega | (simp only [rv_append, rv_extend, rv_pop, rv_popAt, rv_remove, rv_get, rv_strip, rv_join, rv_split, rv_find, rv_scount, rv_sindex, rv_tcount, rv_tindex, rv_lcount, rv_lindex, g_at, g_at1, g_at2, g_atS, isLst_some, isDct_some, List.getElem?_cons_zero, List.getElem?_cons_succ, List.length_cons, List.length_nil, List.length_map, List.length_append, List.length_take, List.length_drop, List.length_range, List.length_dropLast, lo_strsL, lo_strsT, lo_dt, lo_int, lo_bl, lo_non, lo_tup, lo_lst, los_cons, los_nil, los_dts, Bool.and_true, Bool.and_self] <;> omega) | fail) only [↓wp_bind, ↓w_var, ↓w_cst, ↓w_glb, ↓w_op, ↓w_neg, ↓w_cmp, ↓wp_ift, ↓wp_iff, ↓wp_ifd1, ↓wp_ifd0, ↓wp_ifn1, ↓wp_ifn0, ↓w_chn, ↓w_not, ↓w_and, ↓w_or, ↓w_ite, ↓w_tup, ↓w_lst, ↓w_idx, ↓w_sl, ↓w_call, ↓w_bi, ↓w_mth, ↓w_lc, ↓w_cell, ↓w_snap, ↓w_rev, ↓w_dict, ↓w_sset, ↓w_lset, ↓w_cn, ↓w_cs, ↓w_nil, ↓w_cons, ↓w_on, ↓w_os, ↓w_ie, ↓w_i1, ↓w_i2, ↓w_xnil, ↓w_xcons, ↓w_pass, ↓w_expr, ↓w_set, ↓w_setT, ↓w_par, ↓w_put, ↓w_ret, ↓w_retN, ↓w_ifs, ↓w_for, ↓w_whl, ↓w_brk, ↓w_cnt, ↓w_two, ↓sq_nx, ↓sq_ret, ↓sq_bk, ↓sq_ct, wp_ok, wp_exc, wp_mth, slotR_some, negR_int, intO_int, List.getD_cons_zero, List.getD_cons_succ, List.set_cons_succ, List.set_cons_zero, List.map_cons, List.map_nil, List.length_cons, List.length_nil, List.replicate_succ, List.replicate_zero, List.cons_append, List.nil_append, Nat.reduceAdd, Nat.reduceSub, ret_ret, ret_nx, fin_self, seqR_ok, cellR_lst, p_add, p_sub, p_mul, p_mul', p_mod, q_lt, q_le, q_gt, q_ge, rngR_int, rng2R_int, t_add, t_len, t_cut, t_at, t_eq, t_ne, t_isStr, i_isInt, i_isBool, nc_add, nc_sub, nc_p1, nc_p2, nc_p3, nc_p4, nc_sub1, nc_sub2, nc_1add, nc_mul, Int.toNat_natCast, fin_t, cut_to, cut_from, cut_mid, decide_true, decide_false, Bool.not_true, Bool.not_false, wp_ift, wp_iff, wp_ifd1, wp_ifd0, wp_ifn1, wp_ifn0, b_sortT, b_sortTt, b_tuple_lst, b_tuple_tup, b_list_lst, b_list_tup, b_len_lst, b_len_tup, ss_lst, ss_tup, ls_lst, p_cat, p_catT, c_tup, c_lst, x_tup0, x_tup1, x_lst0, it_lst, it_tup, ← List.map_take, ← List.map_drop, ← List.map_append, List.length_append, List.length_map, List.append_assoc, Nat.zero_add, Nat.add_zero, g_at, g_at1, g_at2, s_at, s_at1, s_at2, g_atS, s_atS, g_set, g_setA, s_set, s_setA, isLst_some, isDct_some, rv_append, rv_extend, rv_pop, rv_popAt, rv_remove, rv_get, rv_strip, rv_join, rv_split, rv_find, rv_scount, rv_sindex, rv_tcount, rv_tindex, rv_lcount, rv_lindex, a_append, a_extend, appendC_some, extendC_some, a_pop, popC_some, a_popAt, popAtC_some, snap_c, snapC_lst, it_c, itC_some, len_c, lenC_some, List.getElem?_cons_zero, List.getElem?_cons_succ, q_tnil, sort_c, sortC_T, tup_c, tupC_some, list_c, listC_lst, dec_le, dec_lt, dec_eq, pc_fold, and_true, true_and, dr_m1, lt_m1, i_eqZ, t_ltq, t_leq, $xs,*])
theorem q_tupT0 {l : List (List Nat)} {S : Store} : cmA .eq (.tup (l.map dt)) (.tup []) S = .ok (.bl (decide (l = []))) S := q_tupT (m := [])
section
variable {fu n : Nat} {S : Store} {a : List Nat} {ws : List (List Nat)}
theorem strsD_map : ∀ ws : List (List Nat), strsD (ws.map dt) = some (ws.map tx)
  | [] => rfl
  | x :: ws => by
    show (strsD (ws.map dt)).map (tx x :: ·) = _
    rw [strsD_map ws]
    rfl
theorem idxS_map {x : List Nat} {ws : List (List Nat)} (h : x ∈ ws) : idxS (ws.map tx) (tx x) = some (ws.idxOf x) := by
  unfold idxS
  induction ws with
  | nil => cases h
  | cons y ws ih =>
    rw [List.map_cons, List.findIdx?_cons, List.idxOf_cons]
    by_cases e : y = x
    · subst e
      simp
    · have : ¬ tx y = tx x := fun z => e (tx_inj.mp z)
      simp only [this, decide_false, Bool.false_eq_true, if_false]
      rw [ih ((List.mem_cons.mp h).resolve_left fun z => e z.symm)]
      have e2 : (y == x) = false := by simpa using e
      rw [e2]
      rfl
theorem m_tidx {x : List Nat} (h : x ∈ ws) : Mt.app .tindex (.tup (ws.map dt)) [dt x] S = .ok (.int ((ws.idxOf x : Nat) : Int)) S := by
  show (match (strsD (ws.map dt)).bind (idxS · (tx x)) with | some k => R.ok (D.int (k : Int)) S | none => .bad) = _
  rw [strsD_map]
  show (match idxS (ws.map tx) (tx x) with | some k => R.ok (D.int (k : Int)) S | none => .bad) = _
  rw [idxS_map h]
theorem erase_cut {x : List Nat} : ∀ {ws : List (List Nat)}, x ∈ ws → ws.take (ws.idxOf x) ++ ws.drop (ws.idxOf x + 1) = ws.erase x
  | [], h => by cases h
  | y :: ws, h => by
    rw [List.idxOf_cons, List.erase_cons]
    by_cases e : y = x
    · subst e
      simp
    · have e2 : (y == x) = false := by simpa using e
      rw [e2]
      simp only [cond_false, Bool.false_eq_true, if_false, List.take_succ_cons, List.drop_succ_cons, List.cons_append]
      rw [erase_cut ((List.mem_cons.mp h).resolve_left fun z => e z.symm)]
theorem s_without {x : List Nat} (hn : 1 ≤ n) (h : x ∈ ws) (hl : ws.length ≤ 1000) : run G fu n 34 [.tup (ws.map dt), dt x] S = .ok (.tup ((ws.erase x).map dt)) S := by
  refine run_wp G34 hn rfl ?_
  simp only [c34]
  simp_arith [m_tidx h, erase_cut h]
/-! ### texts that begin so -/
/-- all texts that begin so, and have these windows behind -/
def grownT (w : Nat) : Nat → List (List Nat) → List Nat → List (List Nat)
  | 0, _, a => [a]
  | n + 1, ws, a => (setT ws).flatMap fun x => if x.dropLast = a.drop (a.length + 1 - w) then grownT w n (ws.erase x) (a ++ [x.getLastD 0]) else []
def fac : Nat → Nat
  | 0 => 1
  | n + 1 => (n + 1) * fac n
theorem flatMap_len {α β : Type} {f : α → List β} {c : Nat} : ∀ {l : List α}, (∀ x ∈ l, (f x).length ≤ c) → (l.flatMap f).length ≤ l.length * c
  | [], _ => by simp
  | x :: l, h => by
    have h1 := h x List.mem_cons_self
    have h2 := flatMap_len (l := l) fun y hy => h y (List.mem_cons_of_mem _ hy)
    rw [List.flatMap_cons, List.length_append, List.length_cons, Nat.succ_mul]
    omega
theorem grownT_len (w : Nat) : ∀ (n : Nat) (ws : List (List Nat)) (a : List Nat), ws.length = n → (grownT w n ws a).length ≤ fac n
  | 0, _, _, _ => by simp [grownT, fac]
  | n + 1, ws, a, h => by
    unfold grownT fac
    have h1 := flatMap_len (f := fun x => if x.dropLast = a.drop (a.length + 1 - w) then grownT w n (ws.erase x) (a ++ [x.getLastD 0]) else []) (c := fac n) (l := setT ws) fun x hx => by
      split
      · exact grownT_len w n _ _ (by rw [List.length_erase_of_mem (mem_setT.mp hx), h]; rfl)
      · simp
    have h2 := setT_len ws
    exact Nat.le_trans h1 (Nat.mul_le_mul_right _ (by omega))
theorem fac_le : ∀ n, n ≤ 9 → fac n ≤ 362880 := by decide
theorem s_grown : ∀ (m : Nat) (ws : List (List Nat)) (a : List Nat) (w n : Nat) (S : Store), ws.length = m → m ≤ 9 → m + 2 ≤ n → 1 ≤ w → w ≤ a.length → a.length + m ≤ 100 → (∀ x ∈ ws, x.length = w) → Wf S →
    run G fu n 35 [.tup (ws.map dt), dt a, .int (w : Int)] S = .ok (.lst ((grownT w m ws a).map dt)) S := by
  intro m
  induction m with
  | zero =>
    intro ws a w n S hm h9 hn hw hwa ha hx wf
    have e : ws = [] := List.length_eq_zero_iff.mp hm
    subst e
    refine run_wp G35 (by omega) rfl ?_
    simp only [c35]
    simp_arith [grownT]
  | succ m ih =>
    intro ws a w n S hm h9 hn hw hwa ha hx wf
    have e : ws ≠ [] := fun z => by rw [z] at hm; cases hm
    have hs := setT_len ws
    refine run_wp G35 (by omega) rfl ?_
    simp only [c35]
    simp_arith [q_tupT0, e]
    refine wp_forI (enc := dt) (xs := setT ws) (fun p env S' => ∃ o, env = [some (.tup (ws.map dt)), some (dt a), some (.int (w : Int)), some (.loc S.length), o] ∧ S' = S ++ [.lst ((p.flatMap fun x => if x.dropLast = a.drop (a.length + 1 - w) then grownT w m (ws.erase x) (a ++ [x.getLastD 0]) else []).map dt)])
      ⟨none, rfl, rfl⟩ (fun _ _ _ _ => good_none _) ?_ ?_
    · rintro p x r env S' hp ⟨o, rfl, rfl⟩
      refine ⟨_, rfl, ?_⟩
      have hxm : x ∈ ws := mem_setT.mp (by rw [hp]; simp)
      have hxl := hx x hxm
      have bl := flatMap_len (f := fun x => if x.dropLast = a.drop (a.length + 1 - w) then grownT w m (ws.erase x) (a ++ [x.getLastD 0]) else []) (c := 362880) (l := p) fun y hy => by
        split
        · exact Nat.le_trans (grownT_len w m _ _ (by rw [List.length_erase_of_mem (mem_setT.mp (by rw [hp]; simp [hy])), hm]; rfl)) (fac_le m (by omega))
        · simp
      have pl : p.length ≤ 9 := by
        have := congrArg List.length hp
        simp at this
        omega
      have gl := grownT_len w m (ws.erase x) (a ++ [x.getLastD 0]) (by rw [List.length_erase_of_mem hxm, hm]; rfl)
      have fl := fac_le m (by omega)
      have e1 : a.length - w + 1 = a.length + 1 - w := by omega
      have hrec := ih (ws.erase x) (a ++ [x.getLastD 0]) w (n - 1) (S ++ [.lst ((p.flatMap fun x => if x.dropLast = a.drop (a.length + 1 - w) then grownT w m (ws.erase x) (a ++ [x.getLastD 0]) else []).map dt)]) (by rw [List.length_erase_of_mem hxm, hm]; rfl) (by omega) (by omega) hw (by simp; omega) (by simp; omega) (fun y hy => hx y (List.mem_of_mem_erase hy)) wf.strs
      by_cases c : x.dropLast = a.drop (a.length + 1 - w)
      · simp_arith [e1, c, s_without, hrec]
        exact ⟨_, rfl, by simp [List.flatMap_append, c]⟩
      · simp_arith [e1, c]
        exact ⟨_, rfl, by simp [List.flatMap_append, c]⟩
    · rintro env S' ⟨o, rfl, rfl⟩
      simp_arith [grownT]
end
end SV
/-! SvS2: windows, views, the laws' own texts. -/
namespace SV
open PySem
theorem eq_texts {ts us : List (List Nat)} {S : Store} : cmA .eq (.lst (ts.map dt)) (.lst (us.map dt)) S = .ok (.bl (decide (ts = us))) S := by
  classical
  have o : ∀ l : List (List Nat), Ok 30 ((D.lst (l.map dt)).rd S) := fun l => ok_lst (n := 29) fun d hd => by
    obtain ⟨t, _, rfl⟩ := List.mem_map.mp hd
    exact ok_str
  rw [q_eq (o ts) (o us)]
  congr 2
  rw [decide_eq_decide]
  show D.lst (ts.map dt) = D.lst (us.map dt) ↔ _
  rw [D.lst.injEq, map_dt_inj]
/-- the other way about -/
theorem ne_of_eq {x y : D} {b : Bool} {S : Store} (e : cmA .eq x y S = .ok (.bl b) S) : cmA .ne x y S = .ok (.bl (!b)) S := by
  unfold cmA at e ⊢
  have e : (match eqD x y S with | some c => R.ok (D.bl c) S | none => .bad) = _ := e
  show (match (eqD x y S).map (!·) with | some c => R.ok (D.bl c) S | none => .bad) = _
  cases q : eqD x y S with
  | none =>
    rw [q] at e
    cases e
  | some c =>
    rw [q] at e
    injection e with e
    injection e with e
    rw [e]
    rfl
theorem ne_texts {ts us : List (List Nat)} {S : Store} : cmA .ne (.lst (ts.map dt)) (.lst (us.map dt)) S = .ok (.bl (!decide (ts = us))) S := ne_of_eq eq_texts
theorem i_neZ {i j : Int} {S : Store} : cmA .ne (.int i) (.int j) S = .ok (.bl (!decide (i = j))) S := ne_of_eq i_eqZ
theorem ne_tupT {l m : List (List Nat)} {S : Store} : cmA .ne (.tup (l.map dt)) (.tup (m.map dt)) S = .ok (.bl (!decide (l = m))) S := ne_of_eq q_tupT
theorem ne_tupT0 {l : List (List Nat)} {S : Store} : cmA .ne (.tup (l.map dt)) (.tup []) S = .ok (.bl (!decide (l = []))) S := ne_of_eq q_tupT0
theorem le_int {i j : Int} {S : Store} : cmA .le (.int i) (.int j) S = .ok (.bl (decide (i ≤ j))) S := q_le
theorem and_dec {a b : Prop} [Decidable a] [Decidable b] : (decide a && decide b) = decide (a ∧ b) := by simp
/-- the signs of abc -/
theorem it_abc {S : Store} : itR (.str ("abc" : Str)) S = .ok ⟨[97, 98, 99].map fun c => dt [c], none⟩ S := by
  rw [tx_abc]
  have e : (dt [97, 98, 99] : D) = .str (tx [97, 98, 99]) := rfl
  show (match srcD (.str (tx [97, 98, 99])) S with | some s => R.ok s S | none => .bad) = _
  have h : srcD (.str (tx [97, 98, 99])) S = some ⟨signsD (tx [97, 98, 99]), none⟩ := by
    show (if okLen (tx [97, 98, 99]).length = true then some (Src.mk (signsD (tx [97, 98, 99])) none) else none) = _
    rw [tx_len, if_pos (okLen_le' (by decide))]
  rw [h]
  rfl
theorem cnt_texts {ws : List (List Nat)} {x : List Nat} {S : Store} : cntR (ws.map dt) (dt x) S = .ok (.int ((ws.count x : Nat) : Int)) S := by
  have o := oks (n := 0) (l := ws.map dt) fun d hd => by
    obtain ⟨t, _, rfl⟩ := List.mem_map.mp hd
    exact ok_str
  have c : ((dt x).pure && D.pures (ws.map dt) && decide ((PyData.depth (dt x).py) ≤ 30) && decide (PyData.depthAll (D.pys (ws.map dt)) ≤ 30)) = true := by
    rw [sims_pures o.1, decide_eq_true (Nat.le_trans o.2 (by decide))]
    rfl
  have e : (D.pys (ws.map dt)).countP (fun y => PyData.eqv y (dt x).py) = ws.count x := by
    rw [pys_strs, List.countP_map, List.count]
    congr 1
    funext y
    show PyData.eqv (dt y).py (dt x).py = (y == x)
    rw [Bool.eq_iff_iff, eqv_iff (x := dt y) (y := dt x) rfl rfl, dt_inj, beq_iff_eq]
  unfold cntR cntD
  rw [if_pos c, e]
theorem m_tcnt {ws : List (List Nat)} {x : List Nat} {S : Store} : Mt.app .tcount (.tup (ws.map dt)) [dt x] S = .ok (.int ((ws.count x : Nat) : Int)) S := cnt_texts
theorem m_lcnt {ws : List (List Nat)} {x : List Nat} {S : Store} : Mt.app .lcount (.lst (ws.map dt)) [dt x] S = .ok (.int ((ws.count x : Nat) : Int)) S := cnt_texts
theorem bools_map {α : Type} (f : α → Bool) : ∀ l : List α, boolsD (l.map fun x => .bl (f x)) = some (l.map f)
  | [] => rfl
  | x :: l => by
    show (boolsD (l.map fun x => .bl (f x))).map (f x :: ·) = _
    rw [bools_map f l]
    rfl
theorem b_allM {α : Type} {f : α → Bool} {l : List α} {S : Store} : Bi.app .all [.lst (l.map fun x => .bl (f x))] S = .ok (.bl (l.all f)) S := by
  show (match boolsD (l.map fun x => .bl (f x)) with | some l => R.ok (D.bl (l.all id)) S | none => .bad) = _
  rw [bools_map]
  dsimp only
  rw [List.all_map]
  rfl
theorem b_anyM {α : Type} {f : α → Bool} {l : List α} {S : Store} : Bi.app .any [.lst (l.map fun x => .bl (f x))] S = .ok (.bl (l.any f)) S := by
  show (match boolsD (l.map fun x => .bl (f x)) with | some l => R.ok (D.bl (l.any id)) S | none => .bad) = _
  rw [bools_map]
  dsimp only
  rw [List.any_map]
  rfl
/-- the windows of a text -/
def wins (w : Nat) (a : List Nat) : List (List Nat) := (List.range (a.length + 1 - w)).map (pc a w)
def seenT (w : Nat) (a : List Nat) : List (List Nat) := sortT (wins w a)
theorem wins_len {w : Nat} {a : List Nat} : (wins w a).length = a.length + 1 - w := by simp [wins]
theorem filter_range {n w : Nat} (hw : 1 ≤ w) : (List.range n).filter (fun i => decide (i + w ≤ n)) = List.range (n + 1 - w) := by
  have e : List.range n = List.range (n + 1 - w) ++ (List.range (n - (n + 1 - w))).map (n + 1 - w + ·) := by
    rw [← List.range_add]
    congr 1
    omega
  rw [e, List.filter_append, List.filter_eq_self.mpr, List.filter_eq_nil_iff.mpr, List.append_nil]
  · intro i hi
    obtain ⟨j, hj, rfl⟩ := List.mem_map.mp hi
    simp only [decide_eq_true_eq]
    omega
  · intro i hi
    have := List.mem_range.mp hi
    simp only [decide_eq_true_eq]
    omega
theorem range_filter_succ (p : Nat → Bool) (i : Nat) : (List.range (i + 1)).filter p = (List.range i).filter p ++ (if p i = true then [i] else []) := by
  rw [List.range_succ, List.filter_append]
  congr 1
  by_cases h : p i = true
  · rw [if_pos h, List.filter_cons_of_pos h, List.filter_nil]
  · rw [if_neg h, List.filter_cons_of_neg h, List.filter_nil]
local macro_rules
  | `(tactic| simp_arith) => `(tactic| simp -dsimp (disch := first | assumption | omega | (simp only [rv_append, rv_extend, rv_pop, rv_popAt, rv_remove, rv_get, rv_strip, rv_join, rv_split, rv_find, rv_scount, rv_sindex, rv_tcount, rv_tindex, rv_lcount, rv_lindex, g_at, g_at1, g_at2, g_atS, isLst_some, isDct_some, List.getElem?_cons_zero, List.getElem?_cons_succ, List.length_cons, List.length_nil, List.length_map, List.length_append, List.length_take, List.length_drop, List.length_range, List.length_dropLast, lo_strsL, lo_strsT, lo_dt, lo_int, lo_bl, lo_non, lo_tup, lo_lst, los_cons, los_nil, los_dts, Bool.and_true, Bool.and_self] <;> omega) | fail) only [↓wp_bind, ↓w_var, ↓w_cst, ↓w_glb, ↓w_op, ↓w_neg, ↓w_cmp, ↓wp_ift, ↓wp_iff, ↓wp_ifd1, ↓wp_ifd0, ↓wp_ifn1, ↓wp_ifn0, ↓w_chn, ↓w_not, ↓w_and, ↓w_or, ↓w_ite, ↓w_tup, ↓w_lst, ↓w_idx, ↓w_sl, ↓w_call, ↓w_bi, ↓w_mth, ↓w_lc, ↓w_cell, ↓w_snap, ↓w_rev, ↓w_dict, ↓w_sset, ↓w_lset, ↓w_cn, ↓w_cs, ↓w_nil, ↓w_cons, ↓w_on, ↓w_os, ↓w_ie, ↓w_i1, ↓w_i2, ↓w_xnil, ↓w_xcons, ↓w_pass, ↓w_expr, ↓w_set, ↓w_setT, ↓w_par, ↓w_put, ↓w_ret, ↓w_retN, ↓w_ifs, ↓w_for, ↓w_whl, ↓w_brk, ↓w_cnt, ↓w_two, ↓sq_nx, ↓sq_ret, ↓sq_bk, ↓sq_ct, wp_ok, wp_exc, wp_mth, slotR_some, negR_int, intO_int, List.getD_cons_zero, List.getD_cons_succ, List.set_cons_succ, List.set_cons_zero, List.map_cons, List.map_nil, List.length_cons, List.length_nil, List.replicate_succ, List.replicate_zero, List.cons_append, List.nil_append, Nat.reduceAdd, Nat.reduceSub, ret_ret, ret_nx, fin_self, seqR_ok, cellR_lst, p_add, p_sub, p_mul, p_mul', p_mod, q_lt, q_le, q_gt, q_ge, rngR_int, rng2R_int, t_add, t_len, t_cut, t_at, t_eq, t_ne, t_isStr, i_isInt, i_isBool, nc_add, nc_sub, nc_p1, nc_p2, nc_p3, nc_p4, nc_sub1, nc_sub2, nc_1add, nc_mul, Int.toNat_natCast, fin_t, cut_to, cut_from, cut_mid, decide_true, decide_false, Bool.not_true, Bool.not_false, wp_ift, wp_iff, wp_ifd1, wp_ifd0, wp_ifn1, wp_ifn0, b_sortT, b_sortTt, b_tuple_lst, b_tuple_tup, b_list_lst, b_list_tup, b_len_lst, b_len_tup, ss_lst, ss_tup, ls_lst, p_cat, p_catT, c_tup, c_lst, x_tup0, x_tup1, x_lst0, it_lst, it_tup, ← List.map_take, ← List.map_drop, ← List.map_append, List.length_append, List.length_map, List.append_assoc, Nat.zero_add, Nat.add_zero, g_at, g_at1, g_at2, s_at, s_at1, s_at2, g_atS, s_atS, g_set, g_setA, s_set, s_setA, isLst_some, isDct_some, rv_append, rv_extend, rv_pop, rv_popAt, rv_remove, rv_get, rv_strip, rv_join, rv_split, rv_find, rv_scount, rv_sindex, rv_tcount, rv_tindex, rv_lcount, rv_lindex, a_append, a_extend, appendC_some, extendC_some, a_pop, popC_some, a_popAt, popAtC_some, snap_c, snapC_lst, it_c, itC_some, len_c, lenC_some, List.getElem?_cons_zero, List.getElem?_cons_succ, q_tnil, sort_c, sortC_T, tup_c, tupC_some, list_c, listC_lst, dec_le, dec_lt, dec_eq, pc_fold, and_true, true_and, dr_m1, lt_m1, i_eqZ, t_ltq, t_leq])
  | `(tactic| simp_arith [$xs,*]) => `(tactic| simp -dsimp (disch := first | assumption | omega | (simp only [rv_append, rv_extend, rv_pop, rv_popAt, rv_remove, rv_get, rv_strip, rv_join, rv_split, rv_find, rv_scount, rv_sindex, rv_tcount, rv_tindex, rv_lcount, rv_lindex, g_at, g_at1, g_at2, g_atS, isLst_some, isDct_some, List.getElem?_cons_zero, List.getElem?_cons_succ, List.length_cons, List.length_nil, List.length_map, List.length_append, List.length_take, List.length_drop, List.length_range, List.length_dropLast, lo_strsL, lo_strsT, lo_dt, lo_int, lo_bl, lo_non, lo_tup, lo_lst, los_cons, los_nil, los_dts, Bool.and_true, Bool.and_self] <;> omega) | fail) only [↓wp_bind, ↓w_var, ↓w_cst, ↓w_glb, ↓w_op, ↓w_neg, ↓w_cmp, ↓wp_ift, ↓wp_iff, ↓wp_ifd1, ↓wp_ifd0, ↓wp_ifn1, ↓wp_ifn0, ↓w_chn, ↓w_not, ↓w_and, ↓w_or, ↓w_ite, ↓w_tup, ↓w_lst, ↓w_idx, ↓w_sl, ↓w_call, ↓w_bi, ↓w_mth, ↓w_lc, ↓w_cell, ↓w_snap, ↓w_rev, ↓w_dict, ↓w_sset, ↓w_lset, ↓w_cn, ↓w_cs, ↓w_nil, ↓w_cons, ↓w_on, ↓w_os, ↓w_ie, ↓w_i1, ↓w_i2, ↓w_xnil, ↓w_xcons, ↓w_pass, ↓w_expr, ↓w_set, ↓w_setT, ↓w_par, ↓w_put, ↓w_ret, ↓w_retN, ↓w_ifs, ↓w_for, ↓w_whl, ↓w_brk, ↓w_cnt, ↓w_two, ↓sq_nx, ↓sq_ret, ↓sq_bk, ↓sq_ct, wp_ok, wp_exc, wp_mth, slotR_some, negR_int, intO_int, List.getD_cons_zero, List.getD_cons_succ, List.set_cons_succ, List.set_cons_zero, List.map_cons, List.map_nil, List.length_cons, List.length_nil, List.replicate_succ, List.replicate_zero, List.cons_append, List.nil_append, Nat.reduceAdd, Nat.reduceSub, ret_ret, ret_nx, fin_self, seqR_ok, cellR_lst, p_add, p_sub, p_mul, p_mul', p_mod, q_lt, q_le, q_gt, q_ge, rngR_int, rng2R_int, t_add, t_len, t_cut, t_at, t_eq, t_ne, t_isStr, i_isInt, i_isBool, nc_add, nc_sub, nc_p1, nc_p2, nc_p3, nc_p4, nc_sub1, nc_sub2, nc_1add, nc_mul, Int.toNat_natCast, fin_t, cut_to, cut_from, cut_mid, decide_true, decide_false, Bool.not_true, Bool.not_false, wp_ift, wp_iff, wp_ifd1, wp_ifd0, wp_ifn1, wp_ifn0, b_sortT, b_sortTt, b_tuple_lst, b_tuple_tup, b_list_lst, b_list_tup, b_len_lst, b_len_tup, ss_lst, ss_tup, ls_lst, p_cat, p_catT, c_tup, c_lst, x_tup0, x_tup1, x_lst0, it_lst, it_tup, ← List.map_take, ← List.map_drop, ← List.map_append, List.length_append, List.length_map, List.append_assoc, Nat.zero_add, Nat.add_zero, g_at, g_at1, g_at2, s_at, s_at1, s_at2, g_atS, s_atS, g_set, g_setA, s_set, s_setA, isLst_some, isDct_some, rv_append, rv_extend, rv_pop, rv_popAt, rv_remove, rv_get, rv_strip, rv_join, rv_split, rv_find, rv_scount, rv_sindex, rv_tcount, rv_tindex, rv_lcount, rv_lindex, a_append, a_extend, appendC_some, extendC_some, a_pop, popC_some, a_popAt, popAtC_some, snap_c, snapC_lst, it_c, itC_some, len_c, lenC_some, List.getElem?_cons_zero, List.getElem?_cons_succ, q_tnil, sort_c, sortC_T, tup_c, tupC_some, list_c, listC_lst, dec_le, dec_lt, dec_eq, pc_fold, and_true, true_and, dr_m1, lt_m1, i_eqZ, t_ltq, t_leq, $xs,*])
section
variable {fu n : Nat} {S : Store} {a : List Nat} {ws : List (List Nat)} {w : Nat}
theorem s_windows (hn : 1 ≤ n) (ha : a.length ≤ 1000) (hw : w ≤ 1000) : run G fu n 11 [dt a, .int (w : Int)] S = .ok (.lst ((wins w a).map dt)) S := by
  refine run_wp G11 hn rfl ?_
  simp only [c11]
  have e : ((a.length : Int) - (w : Int) + 1).toNat = a.length + 1 - w := by omega
  simp_arith [e]
  refine wp_mapNT (pc a w) (by omega) (fun i hi => ⟨_, rfl, ?_⟩) ?_
  · simp_arith
  · simp_arith [wins]
theorem s_seen (hn : 1 ≤ n) (ha : a.length ≤ 1000) (hw : w ≤ 1000) (hw1 : 1 ≤ w) (wf : Wf S) : run G fu n 28 [dt a, .int (w : Int)] S = .ok (.tup ((seenT w a).map dt)) S := by
  refine run_wp G28 hn rfl ?_
  simp only [c28]
  simp_arith
  refine wp_forN0 (fun i env S' => ∃ o, env = [some (dt a), some (.int (w : Int)), some (.loc S.length), o] ∧ S' = S ++ [.lst ((((List.range i).filter (fun i => decide (i + w ≤ a.length))).map (pc a w)).map dt)]) ⟨none, rfl, rfl⟩ ?_ ?_
  · rintro i env S' hi ⟨o, rfl, rfl⟩
    refine ⟨_, rfl, ?_⟩
    have := List.length_filter_le (fun i => decide (i + w ≤ a.length)) (List.range i)
    rw [List.length_range] at this
    by_cases c : i + w ≤ a.length
    · simp_arith
      exact ⟨_, rfl, by simp [range_filter_succ, c]⟩
    · simp_arith
      exact ⟨_, rfl, by simp [range_filter_succ, c]⟩
  · rintro env S' ⟨o, rfl, rfl⟩
    rw [filter_range hw1]
    simp_arith [seenT, wins]
theorem s_seen2 (hn : 1 ≤ n) (ha : a.length ≤ 1000) (hw : w ≤ 1000) (hw1 : 1 ≤ w) : run G fu n 51 [dt a, .int (w : Int)] S = .ok (.tup ((seenT w a).map dt)) S := by
  refine run_wp G51 hn rfl ?_
  simp only [c51]
  simp_arith
  refine wp_lcNT (fun i => decide (i + w ≤ a.length)) (pc a w) (by omega) (fun i hi => ⟨_, rfl, ?_, fun c => ?_⟩) ?_
  · simp_arith
  · simp_arith
  · rw [filter_range hw1]
    simp_arith [seenT, wins]
/-! ### views -/
abbrev dv (w : Nat) (ws : List (List Nat)) : D := .tup [.int (w : Int), .tup (ws.map dt)]
structure VW (w : Nat) (ws : List (List Nat)) : Prop where
  w1 : 1 ≤ w
  w4 : w ≤ 4
  n1 : 1 ≤ ws.length
  n9 : ws.length ≤ 9
  t3 : ∀ x ∈ ws, T3 x
  el : ∀ x ∈ ws, x.length = w
  so : ws.Pairwise fun a b => leT a b = true
theorem s_letters {low most : Nat} (hn : 1 ≤ n) (h : T3 a) (h1 : low ≤ a.length) (h2 : a.length ≤ most) (hm : most ≤ 1000) : run G fu n 6 [dt a, .int (low : Int), .int (most : Int)] S = .ok (.bl true) S := by
  obtain ⟨m, rfl⟩ := Nat.exists_eq_add_of_le' hn
  exact r_letters h h1 h2 hm
theorem s_whole {i low most : Int} (hn : 1 ≤ n) (h1 : low ≤ i) (h2 : i ≤ most) : run G fu n 8 [.int i, .int low, .int most] S = .ok (.bl true) S := by
  obtain ⟨m, rfl⟩ := Nat.exists_eq_add_of_le' hn
  exact r_whole h1 h2
theorem b_isTup {l : List (List Nat)} : Bi.isTuple.app [.tup (l.map dt)] S = .ok (.bl true) S := by
  have : (D.tup (l.map dt)).pure = true := by
    have := sim_pure (ok_tupT l).1
    exact this
  show (if (D.tup (l.map dt)).pure = true then R.ok (D.bl (D.tup (l.map dt)).py.isTuple) S else .bad) = _
  rw [if_pos this]
  rfl
theorem ok_dv : Ok 30 (dv w ws) := (ok_tup (n := 1) fun d hd => by
  rcases List.mem_cons.mp hd with rfl | hd
  · exact ok_int
  · rw [List.mem_singleton] at hd
    subst hd
    exact ok_tup fun d hd => by
      obtain ⟨t, _, rfl⟩ := List.mem_map.mp hd
      exact ok_str).le (by decide)
theorem b_isTupV : Bi.isTuple.app [dv w ws] S = .ok (.bl true) S := by
  show (if (dv w ws).pure = true then R.ok (D.bl (dv w ws).py.isTuple) S else .bad) = _
  rw [if_pos (sim_pure ok_dv.1)]
  rfl
theorem s_isView (hn : 2 ≤ n) (h : VW w ws) : run G fu n 32 [dv w ws] S = .ok (.bl true) S := by
  have := h.w1
  have := h.w4
  have := h.n1
  have := h.n9
  refine run_wp G32 (by omega) rfl ?_
  simp only [c32]
  simp_arith [b_isTupV, b_isTup, s_whole, i_neZ]
  refine wp_lcI (enc := dt) (xs := ws) (fun _ => true) (fun _ => .bl true) (good_none _) (by omega) (fun x hx => ⟨_, rfl, ?_, fun _ => ?_⟩) ?_
  · simp_arith
  · have h1 := h.t3 x hx
    have h2 := h.el x hx
    simp_arith [s_letters]
  · have e : ((ws.filter fun _ => true).all fun _ => true) = true := by simp
    simp_arith [b_allM, e]
    have e2 : decide (ws = sortT ws) = true := by
      rw [sortT_self h.so]
      simp
    simp_arith [eq_texts, e2]
/-- what a view must be: nothing is done -/
theorem s_needView (hn : 3 ≤ n) (h : VW w ws) (wf : Wf S) : run G fu n 33 [dv w ws] S = .ok .non S := by
  refine run_wp G33 (by omega) rfl ?_
  simp only [c33]
  simp_arith [s_isView]
end
end SV
/-! SvS3: dicts that keep what was told; texts of a view, and how many. -/
namespace SV
open PySem
/-! ### a dict that keeps what was told -/
section
variable {α β : Type} [DecidableEq α]
def memo (kq : α → D) (vq : β → D) (f : α → β) (as : List α) : List (D × D) := as.map fun a => (kq a, vq (f a))
variable {kq : α → D} {vq : β → D} {f : α → β}
structure GoodK (kq : α → D) (b : Bool) : Prop where
  inj : ∀ a c, kq a = kq c → a = c
  ok : ∀ a, okKeyD (kq a) = true
  tu : ∀ a, isTup (kq a) = b
theorem okIn_memo {b : Bool} (g : GoodK kq b) (as : List α) (a : α) : okIn (memo kq vq f as) (kq a) = true := by
  unfold okIn
  rw [g.ok, Bool.true_and, List.all_eq_true]
  intro p hp
  obtain ⟨c, _, rfl⟩ := List.mem_map.mp hp
  rw [g.tu, g.tu]
  exact beq_self_eq_true _
theorem dGet_memo {b : Bool} (g : GoodK kq b) (a : α) : ∀ as : List α, dGet (memo kq vq f as) (kq a) = if a ∈ as then some (vq (f a)) else none
  | [] => rfl
  | c :: as => by
    have ih := dGet_memo g a as
    classical
    unfold dGet at ih ⊢
    show (((kq c, vq (f c)) :: memo kq vq f as).find? _).map _ = _
    rw [List.find?_cons]
    by_cases e : kq c = kq a
    · have := g.inj _ _ e
      subst this
      simp
    · have e2 : a ≠ c := fun z => e (by rw [z])
      simp only [e, decide_false]
      rw [ih]
      simp [e2]
def addK (as : List α) (a : α) : List α := if a ∈ as then as else as ++ [a]
theorem mem_addK {as : List α} {a : α} : a ∈ addK as a := by
  unfold addK
  split
  · assumption
  · simp
theorem addK_len {as : List α} {a : α} : (addK as a).length ≤ as.length + 1 := by
  unfold addK
  split
  · omega
  · simp
theorem dPut_memo {b : Bool} (g : GoodK kq b) {a : α} {as : List α} : dPut (memo kq vq f as) (kq a) (vq (f a)) = memo kq vq f (addK as a) := by
  classical
  unfold dPut addK
  by_cases h : a ∈ as
  · rw [if_pos, if_pos h]
    · unfold memo
      rw [List.map_map]
      refine List.map_congr_left fun c hc => ?_
      show (if kq c = kq a then (kq c, vq (f a)) else (kq c, vq (f c))) = _
      split
      · next e => rw [g.inj _ _ e]
      · rfl
    · rw [List.any_eq_true]
      exact ⟨_, List.mem_map.mpr ⟨a, h, rfl⟩, by simp⟩
  · rw [if_neg, if_neg h]
    · simp [memo]
    · intro z
      rw [List.any_eq_true] at z
      obtain ⟨p, hp, e⟩ := z
      obtain ⟨c, hc, rfl⟩ := List.mem_map.mp hp
      have e : kq c = kq a := by simpa using e
      exact h (g.inj _ _ e ▸ hc)
/-- what a cell answers -/
theorem inD_dct {x : D} {k : Nat} {S : Store} {l : List (D × D)} (h : S[k]? = some (.dct l)) : inD x (.loc k) S = hasD l x := by
  have e : D.items (.loc k) S = none := by
    unfold D.items
    dsimp only
    rw [h]
  unfold inD
  rw [e]
  cases x <;> simp only [h]
theorem nin_memo {b : Bool} (g : GoodK kq b) {as : List α} {a : α} {k : Nat} {S : Store} (h : S[k]? = some (.dct (memo kq vq f as))) : cmA .notin (kq a) (.loc k) S = .ok (.bl (!decide (a ∈ as))) S := by
  have hi : inD (kq a) (.loc k) S = some (decide (a ∈ as)) := by
    rw [inD_dct h]
    unfold hasD
    rw [if_pos (okIn_memo g as a), dGet_memo g]
    by_cases c : a ∈ as <;> simp [c]
  show (match (inD (kq a) (.loc k) S).map (!·) with | some c => R.ok (D.bl c) S | none => .bad) = _
  rw [hi]
  rfl
theorem at_memo {b : Bool} (g : GoodK kq b) {as : List α} {a : α} {k : Nat} {S : Store} (h : S[k]? = some (.dct (memo kq vq f as))) (m : a ∈ as) : atD (.loc k) (kq a) S = .ok (vq (f a)) S := by
  show (match S[k]? with | some (.dct l) => dctAt l (kq a) S | _ => seqAt (.loc k) (kq a) S) = _
  rw [h]
  show dctAt (memo kq vq f as) (kq a) S = _
  unfold dctAt
  rw [if_pos (okIn_memo g as a), dGet_memo g, if_pos m]
theorem put_memo {b : Bool} (g : GoodK kq b) {as : List α} {a : α} {v : D} {k : Nat} {S : Store} (h : S[k]? = some (.dct (memo kq vq f as))) (hl : as.length < 16000000) (e : v = vq (f a)) : putD (.loc k) (kq a) v S = .ok () (S.set k (.dct (memo kq vq f (addK as a)))) := by
  subst e
  show (match S[k]? with
    | some (.lst l) => match kq a with
      | .int i => match L2.ixN l.length i with
        | some j => R.ok () (S.set k (.lst (l.set j (vq (f a)))))
        | none => .bad
      | _ => .bad
    | some (.dct l) => if okIn l (kq a) && decide (l.length < 16000000) then .ok () (S.set k (.dct (dPut l (kq a) (vq (f a))))) else .bad
    | _ => .bad) = _
  rw [h]
  dsimp only
  rw [if_pos, dPut_memo g]
  rw [okIn_memo g, Bool.true_and]
  exact decide_eq_true (by rw [show (memo kq vq f as).length = as.length from List.length_map ..]; exact hl)
theorem flat_memo {as : List α} (h1 : ∀ a n, D.lo n (kq a) = true) (h2 : ∀ b n, D.lo n (vq b) = true) : Flat (.dct (memo kq vq f as)) := fun n => by
  show (List.all (memo kq vq f as) fun p => D.lo n p.1 && D.lo n p.2) = true
  rw [List.all_eq_true]
  intro p hp
  obtain ⟨c, hc, rfl⟩ := List.mem_map.mp hp
  rw [h1, h2]
  rfl
end
/-- keys: windows, and a text -/
abbrev kWT (p : List (List Nat) × List Nat) : D := .tup [.tup (p.1.map dt), dt p.2]
abbrev vInt (n : Nat) : D := .int (n : Int)
theorem ok_kWT {p : List (List Nat) × List Nat} : Ok 2 (kWT p) := ok_tup (n := 1) fun d hd => by
  rcases List.mem_cons.mp hd with rfl | hd
  · exact ok_tup (n := 0) fun d hd => by
      obtain ⟨t, _, rfl⟩ := List.mem_map.mp hd
      exact ok_str
  · rw [List.mem_singleton] at hd
    subst hd
    exact ok_str
theorem good_kWT : GoodK kWT true where
  inj := fun ⟨a, b⟩ ⟨c, d⟩ e => by
    simp only [kWT, D.tup.injEq, List.cons.injEq, map_dt_inj, dt_inj, and_true] at e
    rw [e.1, e.2]
  ok := fun ⟨a, b⟩ => by
    unfold okKeyD
    rw [Bool.and_eq_true]
    refine ⟨?_, decide_eq_true (Nat.le_trans ok_kWT.2 (by decide))⟩
    have h : ∀ l : List (List Nat), D.isKeys (l.map dt) = true := fun l => by
      induction l with
      | nil => rw [List.map_nil, D.isKeys]
      | cons x l ih =>
        rw [List.map_cons, D.isKeys, ih]
        rfl
    show (D.isKeys [.tup (a.map dt), dt b]) = true
    rw [D.isKeys, D.isKeys, D.isKeys, show (D.tup (a.map dt)).isKey = D.isKeys (a.map dt) by rw [D.isKey], h]
    rfl
  tu := fun _ => rfl
theorem lo_kWT (p : List (List Nat) × List Nat) (n : Nat) : D.lo n (kWT p) = true := by
  show D.lo n (.tup [.tup (p.1.map dt), dt p.2]) = true
  rw [lo_tup, los_cons, los_cons, los_nil, lo_strsT, lo_dt]
  rfl
theorem Wf.set {S : Store} {k : Nat} {c : Cell} (w : Wf S) (h : Flat c) : Wf (S.set k c) := by
  unfold Wf at w ⊢
  rw [List.length_set]
  rw [List.all_eq_true] at w ⊢
  intro x hx
  rcases List.mem_or_eq_of_mem_set hx with hx | rfl
  · exact w x hx
  · exact h _
/-! ### a def's answer, told by some thing -/
section
variable {ι : Type} {f : ι → D} {g : ι → Store} {P : ι → Prop}
def RetX (n : Nat) (f : ι → D) (g : ι → Store) (P : ι → Prop) : Fl → Store → Prop := fun fl S => ∃ i, fin n (toD (.ok fl S)) = .ok (f i) (g i) ∧ P i
theorem retX_ret {n : Nat} {d : D} {S : Store} : RetX n f g P (.ret d) S = ∃ i, fin n (.ok d S) = .ok (f i) (g i) ∧ P i := by cases S <;> rfl
theorem retX_nx {n : Nat} {env : Env} {S : Store} : RetX n f g P (.nx env) S = ∃ i, fin n (.ok .non S) = .ok (f i) (g i) ∧ P i := by cases S <;> rfl
theorem run_wpX {G : Nat → Option Fd} {fu n i : Nat} {c : Fd} {ds : List D} {S : Store} (h : G i = some c) (hn : 1 ≤ n) (hl : ds.length = c.ar)
    (k : Wp (xcs (run G fu (n - 1)) fu c.body (ds.map some ++ List.replicate (c.sl - ds.length) none) S) (RetX S.length f g P) (fun _ _ => False) .mk) : ∃ j, run G fu n i ds S = .ok (f j) (g j) ∧ P j := by
  obtain ⟨m, rfl⟩ : ∃ m, n = m + 1 := ⟨n - 1, by omega⟩
  rw [Nat.add_sub_cancel] at k
  rw [run_go h hl rfl]
  cases q : xcs (run G fu m) fu c.body (ds.map some ++ List.replicate (c.sl - ds.length) none) S with
  | bad =>
    rw [q] at k
    exact k.elim
  | exc c S =>
    rw [q] at k
    exact k.elim
  | ok fl S =>
    rw [q] at k
    exact k
end
/-! ### how many ways there are on -/
def countT : Nat → List (List Nat) → List Nat → Nat
  | 0, _, _ => 1
  | m + 1, ws, e => ((setT ws).map fun x => if x.dropLast = e then countT m (ws.erase x) (x.drop 1) else 0).sum
/-- how many keys are new -/
def gr : Nat → Nat
  | 0 => 0
  | m + 1 => 1 + (m + 1) * gr m
theorem gr_le : ∀ m, m ≤ 9 → gr m ≤ 1000000 := by decide
theorem countT_le : ∀ (m : Nat) (ws : List (List Nat)) (e : List Nat), ws.length = m → countT m ws e ≤ fac m
  | 0, _, _, _ => Nat.le_refl _
  | m + 1, ws, e, h => by
    unfold countT fac
    have key : ∀ l : List (List Nat), (∀ x ∈ l, x ∈ ws) → (l.map fun x => if x.dropLast = e then countT m (ws.erase x) (x.drop 1) else 0).sum ≤ l.length * fac m := by
      intro l
      induction l with
      | nil => intro _; simp
      | cons x l ih =>
        intro hx
        have i1 := ih fun y hy => hx y (List.mem_cons_of_mem _ hy)
        have i2 : (if x.dropLast = e then countT m (ws.erase x) (x.drop 1) else 0) ≤ fac m := by
          split
          · exact countT_le m _ _ (by rw [List.length_erase_of_mem (hx x List.mem_cons_self), h]; rfl)
          · exact Nat.zero_le _
        rw [List.map_cons, List.sum_cons, List.length_cons, Nat.succ_mul]
        omega
    refine Nat.le_trans (key (setT ws) fun x hx => mem_setT.mp hx) (Nat.mul_le_mul_right _ ?_)
    have := setT_len ws
    omega
abbrev cntF (p : List (List Nat) × List Nat) : Nat := countT p.1.length p.1 p.2
abbrev cntM (as : List (List (List Nat) × List Nat)) : Cell := .dct (memo kWT vInt cntF as)
local macro_rules
  | `(tactic| simp_arith) => `(tactic| simp -dsimp (disch := first | assumption | omega | (simp only [rv_append, rv_extend, rv_pop, rv_popAt, rv_remove, rv_get, rv_strip, rv_join, rv_split, rv_find, rv_scount, rv_sindex, rv_tcount, rv_tindex, rv_lcount, rv_lindex, g_at, g_at1, g_at2, g_atS, isLst_some, isDct_some, List.getElem?_cons_zero, List.getElem?_cons_succ, List.length_cons, List.length_nil, List.length_map, List.length_append, List.length_take, List.length_drop, List.length_range, List.length_dropLast, lo_strsL, lo_strsT, lo_dt, lo_int, lo_bl, lo_non, lo_tup, lo_lst, los_cons, los_nil, los_dts, Bool.and_true, Bool.and_self] <;> omega) | fail) only [↓wp_bind, ↓w_var, ↓w_cst, ↓w_glb, ↓w_op, ↓w_neg, ↓w_cmp, ↓wp_ift, ↓wp_iff, ↓wp_ifd1, ↓wp_ifd0, ↓wp_ifn1, ↓wp_ifn0, ↓w_chn, ↓w_not, ↓w_and, ↓w_or, ↓w_ite, ↓w_tup, ↓w_lst, ↓w_idx, ↓w_sl, ↓w_call, ↓w_bi, ↓w_mth, ↓w_lc, ↓w_cell, ↓w_snap, ↓w_rev, ↓w_dict, ↓w_sset, ↓w_lset, ↓w_cn, ↓w_cs, ↓w_nil, ↓w_cons, ↓w_on, ↓w_os, ↓w_ie, ↓w_i1, ↓w_i2, ↓w_xnil, ↓w_xcons, ↓w_pass, ↓w_expr, ↓w_set, ↓w_setT, ↓w_par, ↓w_put, ↓w_ret, ↓w_retN, ↓w_ifs, ↓w_for, ↓w_whl, ↓w_brk, ↓w_cnt, ↓w_two, ↓sq_nx, ↓sq_ret, ↓sq_bk, ↓sq_ct, wp_ok, wp_exc, wp_mth, slotR_some, negR_int, intO_int, List.getD_cons_zero, List.getD_cons_succ, List.set_cons_succ, List.set_cons_zero, List.map_cons, List.map_nil, List.length_cons, List.length_nil, List.replicate_succ, List.replicate_zero, List.cons_append, List.nil_append, Nat.reduceAdd, Nat.reduceSub, ret_ret, ret_nx, fin_self, seqR_ok, cellR_lst, p_add, p_sub, p_mul, p_mul', p_mod, q_lt, q_le, q_gt, q_ge, rngR_int, rng2R_int, t_add, t_len, t_cut, t_at, t_eq, t_ne, t_isStr, i_isInt, i_isBool, nc_add, nc_sub, nc_p1, nc_p2, nc_p3, nc_p4, nc_sub1, nc_sub2, nc_1add, nc_mul, Int.toNat_natCast, fin_t, cut_to, cut_from, cut_mid, decide_true, decide_false, Bool.not_true, Bool.not_false, wp_ift, wp_iff, wp_ifd1, wp_ifd0, wp_ifn1, wp_ifn0, b_sortT, b_sortTt, b_tuple_lst, b_tuple_tup, b_list_lst, b_list_tup, b_len_lst, b_len_tup, ss_lst, ss_tup, ls_lst, p_cat, p_catT, c_tup, c_lst, x_tup0, x_tup1, x_lst0, it_lst, it_tup, ← List.map_take, ← List.map_drop, ← List.map_append, List.length_append, List.length_map, List.append_assoc, Nat.zero_add, Nat.add_zero, g_at, g_at1, g_at2, s_at, s_at1, s_at2, g_atS, s_atS, g_set, g_setA, s_set, s_setA, isLst_some, isDct_some, rv_append, rv_extend, rv_pop, rv_popAt, rv_remove, rv_get, rv_strip, rv_join, rv_split, rv_find, rv_scount, rv_sindex, rv_tcount, rv_tindex, rv_lcount, rv_lindex, a_append, a_extend, appendC_some, extendC_some, a_pop, popC_some, a_popAt, popAtC_some, snap_c, snapC_lst, it_c, itC_some, len_c, lenC_some, List.getElem?_cons_zero, List.getElem?_cons_succ, q_tnil, sort_c, sortC_T, tup_c, tupC_some, list_c, listC_lst, dec_le, dec_lt, dec_eq, pc_fold, and_true, true_and, dr_m1, lt_m1, i_eqZ, t_ltq, t_leq])
  | `(tactic| simp_arith [$xs,*]) => `(tactic| simp -dsimp (disch := first | assumption | omega | (simp only [rv_append, rv_extend, rv_pop, rv_popAt, rv_remove, rv_get, rv_strip, rv_join, rv_split, rv_find, rv_scount, rv_sindex, rv_tcount, rv_tindex, rv_lcount, rv_lindex, g_at, g_at1, g_at2, g_atS, isLst_some, isDct_some, List.getElem?_cons_zero, List.getElem?_cons_succ, List.length_cons, List.length_nil, List.length_map, List.length_append, List.length_take, List.length_drop, List.length_range, List.length_dropLast, lo_strsL, lo_strsT, lo_dt, lo_int, lo_bl, lo_non, lo_tup, lo_lst, los_cons, los_nil, los_dts, Bool.and_true, Bool.and_self] <;> omega) | fail) only [↓wp_bind, ↓w_var, ↓w_cst, ↓w_glb, ↓w_op, ↓w_neg, ↓w_cmp, ↓wp_ift, ↓wp_iff, ↓wp_ifd1, ↓wp_ifd0, ↓wp_ifn1, ↓wp_ifn0, ↓w_chn, ↓w_not, ↓w_and, ↓w_or, ↓w_ite, ↓w_tup, ↓w_lst, ↓w_idx, ↓w_sl, ↓w_call, ↓w_bi, ↓w_mth, ↓w_lc, ↓w_cell, ↓w_snap, ↓w_rev, ↓w_dict, ↓w_sset, ↓w_lset, ↓w_cn, ↓w_cs, ↓w_nil, ↓w_cons, ↓w_on, ↓w_os, ↓w_ie, ↓w_i1, ↓w_i2, ↓w_xnil, ↓w_xcons, ↓w_pass, ↓w_expr, ↓w_set, ↓w_setT, ↓w_par, ↓w_put, ↓w_ret, ↓w_retN, ↓w_ifs, ↓w_for, ↓w_whl, ↓w_brk, ↓w_cnt, ↓w_two, ↓sq_nx, ↓sq_ret, ↓sq_bk, ↓sq_ct, wp_ok, wp_exc, wp_mth, slotR_some, negR_int, intO_int, List.getD_cons_zero, List.getD_cons_succ, List.set_cons_succ, List.set_cons_zero, List.map_cons, List.map_nil, List.length_cons, List.length_nil, List.replicate_succ, List.replicate_zero, List.cons_append, List.nil_append, Nat.reduceAdd, Nat.reduceSub, ret_ret, ret_nx, fin_self, seqR_ok, cellR_lst, p_add, p_sub, p_mul, p_mul', p_mod, q_lt, q_le, q_gt, q_ge, rngR_int, rng2R_int, t_add, t_len, t_cut, t_at, t_eq, t_ne, t_isStr, i_isInt, i_isBool, nc_add, nc_sub, nc_p1, nc_p2, nc_p3, nc_p4, nc_sub1, nc_sub2, nc_1add, nc_mul, Int.toNat_natCast, fin_t, cut_to, cut_from, cut_mid, decide_true, decide_false, Bool.not_true, Bool.not_false, wp_ift, wp_iff, wp_ifd1, wp_ifd0, wp_ifn1, wp_ifn0, b_sortT, b_sortTt, b_tuple_lst, b_tuple_tup, b_list_lst, b_list_tup, b_len_lst, b_len_tup, ss_lst, ss_tup, ls_lst, p_cat, p_catT, c_tup, c_lst, x_tup0, x_tup1, x_lst0, it_lst, it_tup, ← List.map_take, ← List.map_drop, ← List.map_append, List.length_append, List.length_map, List.append_assoc, Nat.zero_add, Nat.add_zero, g_at, g_at1, g_at2, s_at, s_at1, s_at2, g_atS, s_atS, g_set, g_setA, s_set, s_setA, isLst_some, isDct_some, rv_append, rv_extend, rv_pop, rv_popAt, rv_remove, rv_get, rv_strip, rv_join, rv_split, rv_find, rv_scount, rv_sindex, rv_tcount, rv_tindex, rv_lcount, rv_lindex, a_append, a_extend, appendC_some, extendC_some, a_pop, popC_some, a_popAt, popAtC_some, snap_c, snapC_lst, it_c, itC_some, len_c, lenC_some, List.getElem?_cons_zero, List.getElem?_cons_succ, q_tnil, sort_c, sortC_T, tup_c, tupC_some, list_c, listC_lst, dec_le, dec_lt, dec_eq, pc_fold, and_true, true_and, dr_m1, lt_m1, i_eqZ, t_ltq, t_leq, $xs,*])
theorem cut_1 {α : Type} {l : List α} : cutL l (some 1) none = l.drop 1 := cut_from l 1
theorem s_count : ∀ (m : Nat) {fu n : Nat} {S : Store} {ws : List (List Nat)} {e : List Nat} {w : Int} {k : Nat} {as : List (List (List Nat) × List Nat)}, ws.length = m → (∀ x ∈ ws, x.length ≤ 1000) → m ≤ 9 → m + 2 ≤ n → k < S.length → as.length + gr m ≤ 10000000 →
    ∃ as', run G fu n 44 [.tup (ws.map dt), dt e, .int w, .loc k] (S.set k (cntM as)) = .ok (.int ((countT m ws e : Nat) : Int)) (S.set k (cntM as')) ∧ as'.length ≤ as.length + gr m := by
  intro m
  induction m with
  | zero =>
    intro fu n S ws e w k as hm hx h9 hn hk hl
    have e0 : ws = [] := List.length_eq_zero_iff.mp hm
    subst e0
    refine ⟨as, ?_, by omega⟩
    refine run_wp G44 (by omega) rfl ?_
    simp only [c44]
    simp_arith [countT]
    rfl
  | succ m ih =>
    intro fu n S ws e w k as hm hx h9 hn hk hl
    have e0 : ws ≠ [] := fun z => by rw [z] at hm; cases hm
    have hs := setT_len ws
    have hg : gr (m + 1) = 1 + (m + 1) * gr m := rfl
    have hf : cntF (ws, e) = countT (m + 1) ws e := by
      show countT ws.length ws e = _
      rw [hm]
    by_cases c : (ws, e) ∈ as
    · refine ⟨as, ?_, by omega⟩
      refine run_wp G44 (by omega) rfl ?_
      simp only [c44]
      have h1 := nin_memo (vq := vInt) (f := cntF) good_kWT (a := (ws, e)) (g_set (c := cntM as) hk)
      have h2 := at_memo (vq := vInt) (f := cntF) good_kWT (a := (ws, e)) (g_set (c := cntM as) hk) c
      rw [hf] at h2
      simp_arith [q_tupT0, e0, h1, h2, c]
    · refine run_wpX (f := fun _ => .int ((countT (m + 1) ws e : Nat) : Int)) (g := fun as' => S.set k (cntM as')) (P := fun as' => as'.length ≤ as.length + gr (m + 1)) G44 (by omega) rfl ?_
      simp only [c44]
      have h1 := nin_memo (vq := vInt) (f := cntF) good_kWT (a := (ws, e)) (g_set (c := cntM as) hk)
      simp_arith [q_tupT0, e0, h1, c]
      refine wp_forI (enc := dt) (xs := setT ws) (fun p env S' => ∃ as' o, env = [some (D.tup (List.map dt ws)), some (dt e), some (D.int w), some (D.loc k),
        some (kWT (ws, e)), some (.int (((p.map fun x => if x.dropLast = e then countT m (ws.erase x) (x.drop 1) else 0).sum : Nat) : Int)), o] ∧ S' = S.set k (cntM as') ∧ as'.length ≤ as.length + p.length * gr m)
        ⟨as, none, rfl, rfl, by simp⟩ (fun _ _ _ _ => good_none _) ?_ ?_
      · rintro p x r env S' hp ⟨as', o, rfl, rfl, ha⟩
        refine ⟨_, rfl, ?_⟩
        have hxm : x ∈ ws := mem_setT.mp (by rw [hp]; simp)
        have pl : p.length + 1 ≤ m + 1 := by
          have := congrArg List.length hp
          simp at this
          omega
        have pg : p.length * gr m ≤ m * gr m := Nat.mul_le_mul_right _ (by omega)
        have pg2 : (m + 1) * gr m = m * gr m + gr m := Nat.succ_mul ..
        have pg3 : (p.length + 1) * gr m = p.length * gr m + gr m := Nat.succ_mul ..
        have hxl := hx x hxm
        by_cases cc : x.dropLast = e
        · obtain ⟨as2, h3, h4⟩ := ih (fu := fu) (n := n - 1) (S := S) (ws := ws.erase x) (e := x.drop 1) (w := w) (k := k) (as := as') (by rw [List.length_erase_of_mem hxm, hm]; rfl) (fun y hy => hx y (List.mem_of_mem_erase hy)) (by omega) (by omega) hk (by omega)
          have := hx x hxm
          simp_arith [cc, s_without, cut_1, h3]
          refine ⟨as2, some (dt x), ?_, rfl, by omega⟩
          simp [cc]
        · simp_arith [cc]
          refine ⟨as', some (dt x), ?_, rfl, by omega⟩
          simp [cc]
      · rintro env S' ⟨as', o, rfl, rfl, ha⟩
        have pl := setT_len ws
        have pg : (setT ws).length * gr m ≤ (m + 1) * gr m := Nat.mul_le_mul_right _ (by omega)
        have h2 := put_memo (vq := vInt) (f := cntF) good_kWT (a := (ws, e)) (g_set (S := S) (c := cntM as') hk) (by omega) rfl
        have h3 := at_memo (vq := vInt) (f := cntF) good_kWT (a := (ws, e)) (g_set (S := S) (c := cntM (addK as' (ws, e))) hk) mem_addK
        have e3 : ((setT ws).map fun x => if x.dropLast = e then countT m (ws.erase x) (x.drop 1) else 0).sum = cntF (ws, e) := by
          rw [hf]
          rfl
        rw [s_set] at h2
        have al := addK_len (as := as') (a := (ws, e))
        rw [e3]
        simp_arith [h2, h3, retX_ret]
        rw [hf]
        exact ⟨_, fin_len (by simp), by omega⟩
theorem disp_nil {S : Store} : dispR [] S = .ok (.loc S.length) (S ++ [.dct []]) := by cases S <;> rfl
/-! ### texts of a view -/
def textsT (w : Nat) (ws : List (List Nat)) : List (List Nat) := sortT ((setT ws).flatMap fun x => grownT w (ws.length - 1) (ws.erase x) x)
def howT (ws : List (List Nat)) : Nat := ((setT ws).map fun x => countT (ws.length - 1) (ws.erase x) (x.drop 1)).sum
section
variable {fu n : Nat} {S : Store} {a : List Nat} {ws : List (List Nat)} {w : Nat}
theorem s_textsOf (hn : 12 ≤ n) (h9 : ws.length ≤ 9) (hw : 1 ≤ w) (hw4 : w ≤ 5) (hx : ∀ x ∈ ws, x.length = w) (wf : Wf S) : run G fu n 42 [dv w ws] S = .ok (.lst ((textsT w ws).map dt)) S := by
  have hs := setT_len ws
  refine run_wp G42 (by omega) rfl ?_
  simp only [c42]
  simp_arith
  have bl : ∀ p : List (List Nat), (∀ x ∈ p, x ∈ ws) → (p.flatMap fun x => grownT w (ws.length - 1) (ws.erase x) x).length ≤ p.length * 362880 := fun p hp => flatMap_len fun y hy =>
    Nat.le_trans (grownT_len w _ _ _ (by rw [List.length_erase_of_mem (hp y hy)])) (fac_le _ (by omega))
  refine wp_forI (enc := dt) (xs := setT ws) (fun p env S' => ∃ o, env = [some (dv w ws), some (.int (w : Int)), some (.tup (ws.map dt)), some (.loc S.length), o] ∧ S' = S ++ [.lst ((p.flatMap fun x => grownT w (ws.length - 1) (ws.erase x) x).map dt)])
    ⟨none, rfl, rfl⟩ (fun _ _ _ _ => good_none _) ?_ ?_
  · rintro p x r env S' hp ⟨o, rfl, rfl⟩
    refine ⟨_, rfl, ?_⟩
    have hxm : x ∈ ws := mem_setT.mp (by rw [hp]; simp)
    have pl : p.length + 1 ≤ 9 := by
      have := congrArg List.length hp
      simp at this
      omega
    have := bl p fun y hy => mem_setT.mp (by rw [hp]; simp [hy])
    have gl := grownT_len w (ws.length - 1) (ws.erase x) x (by rw [List.length_erase_of_mem hxm])
    have fl := fac_le (ws.length - 1) (by omega)
    have hrec := s_grown (fu := fu) (ws.length - 1) (ws.erase x) x w (n - 1) (S ++ [.lst ((p.flatMap fun x => grownT w (ws.length - 1) (ws.erase x) x).map dt)]) (by rw [List.length_erase_of_mem hxm]) (by omega) (by omega) hw (by rw [hx x hxm]; omega) (by rw [hx x hxm]; omega) (fun y hy => hx y (List.mem_of_mem_erase hy)) wf.strs
    simp_arith [s_without, hrec]
    exact ⟨_, rfl, by simp [List.flatMap_append]⟩
  · rintro env S' ⟨o, rfl, rfl⟩
    have := bl (setT ws) fun y hy => mem_setT.mp hy
    simp_arith [textsT]
theorem s_texts (hn : 13 ≤ n) (h : VW w ws) (wf : Wf S) : run G fu n 43 [dv w ws] S = .ok (.lst ((textsT w ws).map dt)) S := by
  have := h.w1
  have := h.w4
  have := h.n1
  have := h.n9
  have he := h.el
  refine run_wp G43 (by omega) rfl ?_
  simp only [c43]
  simp_arith [s_needView, s_textsOf]
theorem flat_cntM {as : List (List (List Nat) × List Nat)} : Flat (cntM as) := flat_memo (fun a n => lo_kWT a n) fun b n => lo_int
theorem s_howOf (hn : 12 ≤ n) (h9 : ws.length ≤ 9) (hx : ∀ x ∈ ws, x.length ≤ 1000) (wf : Wf S) : run G fu n 45 [dv w ws] S = .ok (.int ((howT ws : Nat) : Int)) S := by
  have hs := setT_len ws
  refine run_wp G45 (by omega) rfl ?_
  simp only [c45]
  simp_arith [disp_nil]
  refine wp_forI (enc := dt) (xs := setT ws) (fun p env S' => ∃ as o, env = [some (dv w ws), some (.int (w : Int)), some (.tup (ws.map dt)), some (.loc S.length), some (.int (((p.map fun x => countT (ws.length - 1) (ws.erase x) (x.drop 1)).sum : Nat) : Int)), o] ∧ S' = S ++ [cntM as] ∧ as.length ≤ p.length * 1000000)
    ⟨[], none, rfl, rfl, by simp⟩ (fun _ _ _ _ => good_none _) ?_ ?_
  · rintro p x r env S' hp ⟨as, o, rfl, rfl, ha⟩
    refine ⟨_, rfl, ?_⟩
    have hxm : x ∈ ws := mem_setT.mp (by rw [hp]; simp)
    have pl : p.length + 1 ≤ 9 := by
      have := congrArg List.length hp
      simp at this
      omega
    have g := gr_le (ws.length - 1) (by omega)
    have hxl := hx x hxm
    obtain ⟨as2, h3, h4⟩ := s_count (ws.length - 1) (fu := fu) (n := n - 1) (S := S ++ [.dead]) (ws := ws.erase x) (e := x.drop 1) (w := w) (k := S.length) (as := as) (by rw [List.length_erase_of_mem hxm]) (fun y hy => hx y (List.mem_of_mem_erase hy)) (by omega) (by omega) (by simp) (by omega)
    rw [s_at, s_at] at h3
    simp_arith [s_without, cut_1, h3]
    exact ⟨as2, some (dt x), by simp, rfl, by omega⟩
  · rintro env S' ⟨as, o, rfl, rfl, ha⟩
    have f := fin_more (S := S) (g := [cntM as]) (d := .int ((howT ws : Nat) : Int)) wf rfl
    unfold howT at f
    simp_arith [howT, f]
theorem s_how (hn : 13 ≤ n) (h : VW w ws) (wf : Wf S) : run G fu n 49 [dv w ws] S = .ok (.int ((howT ws : Nat) : Int)) S := by
  have := h.w1
  have := h.w4
  have := h.n1
  have := h.n9
  have he : ∀ x ∈ ws, x.length ≤ 1000 := fun x hx => by rw [h.el x hx]; omega
  refine run_wp G49 (by omega) rfl ?_
  simp only [c49]
  simp_arith [s_needView, s_howOf]
end
end SV
/-! SvS4: all texts, letter by letter. -/
namespace SV
open PySem
def underT (w : Nat) (ws : List (List Nat)) (a : List Nat) : Bool := (seenT w a).all fun x => decide ((seenT w a).count x ≤ ws.count x)
def longer (w : Nat) (ws : List (List Nat)) (l : List Nat) : List (List Nat) := ([97, 98, 99].filter fun c => underT w ws (l ++ [c])).map fun c => l ++ [c]
def rowsT (w : Nat) (ws : List (List Nat)) : Nat → List (List Nat)
  | 0 => [[]]
  | k + 1 => (rowsT w ws k).flatMap (longer w ws)
def allT (w : Nat) (ws : List (List Nat)) : List (List Nat) := (rowsT w ws (ws.length + w - 1)).filter fun l => decide (seenT w l = ws)
theorem longer_len {w : Nat} {ws : List (List Nat)} {l : List Nat} : (longer w ws l).length ≤ 3 := by
  unfold longer
  rw [List.length_map]
  exact List.length_filter_le _ _
theorem rowsT_len {w : Nat} {ws : List (List Nat)} : ∀ k, (rowsT w ws k).length ≤ 3 ^ k
  | 0 => Nat.le_refl _
  | k + 1 => by
    have := rowsT_len (w := w) (ws := ws) k
    have h := flatMap_len (f := longer w ws) (c := 3) (l := rowsT w ws k) fun x _ => longer_len
    rw [Nat.pow_succ]
    exact Nat.le_trans h (Nat.mul_le_mul_right _ this)
theorem mem_rowsT_len {w : Nat} {ws : List (List Nat)} : ∀ {k : Nat} {l : List Nat}, l ∈ rowsT w ws k → l.length = k
  | 0, l, h => by
    rw [rowsT, List.mem_singleton] at h
    rw [h]
    rfl
  | k + 1, l, h => by
    rw [rowsT, List.mem_flatMap] at h
    obtain ⟨x, hx, h⟩ := h
    unfold longer at h
    obtain ⟨c, _, rfl⟩ := List.mem_map.mp h
    simp [mem_rowsT_len hx]
theorem seenT_len {w : Nat} {a : List Nat} : (seenT w a).length = a.length + 1 - w := by
  unfold seenT
  rw [sortT_len, wins_len]
local macro_rules
  | `(tactic| simp_arith) => `(tactic| simp -dsimp (disch := first | assumption | omega | (simp only [rv_append, rv_extend, rv_pop, rv_popAt, rv_remove, rv_get, rv_strip, rv_join, rv_split, rv_find, rv_scount, rv_sindex, rv_tcount, rv_tindex, rv_lcount, rv_lindex, g_at, g_at1, g_at2, g_atS, isLst_some, isDct_some, List.getElem?_cons_zero, List.getElem?_cons_succ, List.length_cons, List.length_nil, List.length_map, List.length_append, List.length_take, List.length_drop, List.length_range, List.length_dropLast, lo_strsL, lo_strsT, lo_dt, lo_int, lo_bl, lo_non, lo_tup, lo_lst, los_cons, los_nil, los_dts, Bool.and_true, Bool.and_self] <;> omega) | fail) only [↓wp_bind, ↓w_var, ↓w_cst, ↓w_glb, ↓w_op, ↓w_neg, ↓w_cmp, ↓wp_ift, ↓wp_iff, ↓wp_ifd1, ↓wp_ifd0, ↓wp_ifn1, ↓wp_ifn0, ↓w_chn, ↓w_not, ↓w_and, ↓w_or, ↓w_ite, ↓w_tup, ↓w_lst, ↓w_idx, ↓w_sl, ↓w_call, ↓w_bi, ↓w_mth, ↓w_lc, ↓w_cell, ↓w_snap, ↓w_rev, ↓w_dict, ↓w_sset, ↓w_lset, ↓w_cn, ↓w_cs, ↓w_nil, ↓w_cons, ↓w_on, ↓w_os, ↓w_ie, ↓w_i1, ↓w_i2, ↓w_xnil, ↓w_xcons, ↓w_pass, ↓w_expr, ↓w_set, ↓w_setT, ↓w_par, ↓w_put, ↓w_ret, ↓w_retN, ↓w_ifs, ↓w_for, ↓w_whl, ↓w_brk, ↓w_cnt, ↓w_two, ↓sq_nx, ↓sq_ret, ↓sq_bk, ↓sq_ct, wp_ok, wp_exc, wp_mth, slotR_some, negR_int, intO_int, List.getD_cons_zero, List.getD_cons_succ, List.set_cons_succ, List.set_cons_zero, List.map_cons, List.map_nil, List.length_cons, List.length_nil, List.replicate_succ, List.replicate_zero, List.cons_append, List.nil_append, Nat.reduceAdd, Nat.reduceSub, ret_ret, ret_nx, fin_self, seqR_ok, cellR_lst, p_add, p_sub, p_mul, p_mul', p_mod, q_lt, q_le, q_gt, q_ge, rngR_int, rng2R_int, t_add, t_len, t_cut, t_at, t_eq, t_ne, t_isStr, i_isInt, i_isBool, nc_add, nc_sub, nc_p1, nc_p2, nc_p3, nc_p4, nc_sub1, nc_sub2, nc_1add, nc_mul, Int.toNat_natCast, fin_t, cut_to, cut_from, cut_mid, decide_true, decide_false, Bool.not_true, Bool.not_false, wp_ift, wp_iff, wp_ifd1, wp_ifd0, wp_ifn1, wp_ifn0, b_sortT, b_sortTt, b_tuple_lst, b_tuple_tup, b_list_lst, b_list_tup, b_len_lst, b_len_tup, ss_lst, ss_tup, ls_lst, p_cat, p_catT, c_tup, c_lst, x_tup0, x_tup1, x_lst0, it_lst, it_tup, ← List.map_take, ← List.map_drop, ← List.map_append, List.length_append, List.length_map, List.append_assoc, Nat.zero_add, Nat.add_zero, g_at, g_at1, g_at2, s_at, s_at1, s_at2, g_atS, s_atS, g_set, g_setA, s_set, s_setA, isLst_some, isDct_some, rv_append, rv_extend, rv_pop, rv_popAt, rv_remove, rv_get, rv_strip, rv_join, rv_split, rv_find, rv_scount, rv_sindex, rv_tcount, rv_tindex, rv_lcount, rv_lindex, a_append, a_extend, appendC_some, extendC_some, a_pop, popC_some, a_popAt, popAtC_some, snap_c, snapC_lst, it_c, itC_some, len_c, lenC_some, List.getElem?_cons_zero, List.getElem?_cons_succ, q_tnil, sort_c, sortC_T, tup_c, tupC_some, list_c, listC_lst, dec_le, dec_lt, dec_eq, pc_fold, and_true, true_and, dr_m1, lt_m1, i_eqZ, t_ltq, t_leq])
  | `(tactic| simp_arith [$xs,*]) => `(tactic| simp -dsimp (disch := first | assumption | omega | (simp only [rv_append, rv_extend, rv_pop, rv_popAt, rv_remove, rv_get, rv_strip, rv_join, rv_split, rv_find, rv_scount, rv_sindex, rv_tcount, rv_tindex, rv_lcount, rv_lindex, g_at, g_at1, g_at2, g_atS, isLst_some, isDct_some, List.getElem?_cons_zero, List.getElem?_cons_succ, List.length_cons, List.length_nil, List.length_map, List.length_append, List.length_take, List.length_drop, List.length_range, List.length_dropLast, lo_strsL, lo_strsT, lo_dt, lo_int, lo_bl, lo_non, lo_tup, lo_lst, los_cons, los_nil, los_dts, Bool.and_true, Bool.and_self] <;> omega) | fail) only [↓wp_bind, ↓w_var, ↓w_cst, ↓w_glb, ↓w_op, ↓w_neg, ↓w_cmp, ↓wp_ift, ↓wp_iff, ↓wp_ifd1, ↓wp_ifd0, ↓wp_ifn1, ↓wp_ifn0, ↓w_chn, ↓w_not, ↓w_and, ↓w_or, ↓w_ite, ↓w_tup, ↓w_lst, ↓w_idx, ↓w_sl, ↓w_call, ↓w_bi, ↓w_mth, ↓w_lc, ↓w_cell, ↓w_snap, ↓w_rev, ↓w_dict, ↓w_sset, ↓w_lset, ↓w_cn, ↓w_cs, ↓w_nil, ↓w_cons, ↓w_on, ↓w_os, ↓w_ie, ↓w_i1, ↓w_i2, ↓w_xnil, ↓w_xcons, ↓w_pass, ↓w_expr, ↓w_set, ↓w_setT, ↓w_par, ↓w_put, ↓w_ret, ↓w_retN, ↓w_ifs, ↓w_for, ↓w_whl, ↓w_brk, ↓w_cnt, ↓w_two, ↓sq_nx, ↓sq_ret, ↓sq_bk, ↓sq_ct, wp_ok, wp_exc, wp_mth, slotR_some, negR_int, intO_int, List.getD_cons_zero, List.getD_cons_succ, List.set_cons_succ, List.set_cons_zero, List.map_cons, List.map_nil, List.length_cons, List.length_nil, List.replicate_succ, List.replicate_zero, List.cons_append, List.nil_append, Nat.reduceAdd, Nat.reduceSub, ret_ret, ret_nx, fin_self, seqR_ok, cellR_lst, p_add, p_sub, p_mul, p_mul', p_mod, q_lt, q_le, q_gt, q_ge, rngR_int, rng2R_int, t_add, t_len, t_cut, t_at, t_eq, t_ne, t_isStr, i_isInt, i_isBool, nc_add, nc_sub, nc_p1, nc_p2, nc_p3, nc_p4, nc_sub1, nc_sub2, nc_1add, nc_mul, Int.toNat_natCast, fin_t, cut_to, cut_from, cut_mid, decide_true, decide_false, Bool.not_true, Bool.not_false, wp_ift, wp_iff, wp_ifd1, wp_ifd0, wp_ifn1, wp_ifn0, b_sortT, b_sortTt, b_tuple_lst, b_tuple_tup, b_list_lst, b_list_tup, b_len_lst, b_len_tup, ss_lst, ss_tup, ls_lst, p_cat, p_catT, c_tup, c_lst, x_tup0, x_tup1, x_lst0, it_lst, it_tup, ← List.map_take, ← List.map_drop, ← List.map_append, List.length_append, List.length_map, List.append_assoc, Nat.zero_add, Nat.add_zero, g_at, g_at1, g_at2, s_at, s_at1, s_at2, g_atS, s_atS, g_set, g_setA, s_set, s_setA, isLst_some, isDct_some, rv_append, rv_extend, rv_pop, rv_popAt, rv_remove, rv_get, rv_strip, rv_join, rv_split, rv_find, rv_scount, rv_sindex, rv_tcount, rv_tindex, rv_lcount, rv_lindex, a_append, a_extend, appendC_some, extendC_some, a_pop, popC_some, a_popAt, popAtC_some, snap_c, snapC_lst, it_c, itC_some, len_c, lenC_some, List.getElem?_cons_zero, List.getElem?_cons_succ, q_tnil, sort_c, sortC_T, tup_c, tupC_some, list_c, listC_lst, dec_le, dec_lt, dec_eq, pc_fold, and_true, true_and, dr_m1, lt_m1, i_eqZ, t_ltq, t_leq, $xs,*])
section
variable {fu n : Nat} {S : Store} {a : List Nat} {ws : List (List Nat)} {w : Nat}
theorem s_under (hn : 2 ≤ n) (ha : a.length ≤ 1000) (hw1 : 1 ≤ w) (hw : w ≤ 1000) : run G fu n 58 [dt a, .int (w : Int), .tup (ws.map dt)] S = .ok (.bl (underT w ws a)) S := by
  refine run_wp G58 (by omega) rfl ?_
  simp only [c58]
  simp_arith [s_seen2]
  have := seenT_len (w := w) (a := a)
  refine wp_mapI (enc := dt) (xs := seenT w a) (fun x => .bl (decide ((seenT w a).count x ≤ ws.count x))) (good_none _) (by omega) (fun x hx => ⟨_, rfl, ?_⟩) ?_
  · simp_arith [m_tcnt]
  · simp_arith [b_allM, underT]
theorem s_within0 (hn : 2 ≤ n) (ha : a.length ≤ 1000) (hw1 : 1 ≤ w) (hw : w ≤ 1000) (wf : Wf S) : run G fu n 40 [dt a, .int (w : Int), .tup (ws.map dt)] S = .ok (.bl (underT w ws a)) S := by
  refine run_wp G40 (by omega) rfl ?_
  simp only [c40]
  simp_arith [s_seen]
  have := seenT_len (w := w) (a := a)
  refine wp_mapI (enc := dt) (xs := seenT w a) (fun x => .bl (decide ((seenT w a).count x ≤ ws.count x))) (good_none _) (by omega) (fun x hx => ⟨_, rfl, ?_⟩) ?_
  · simp_arith [m_tcnt]
  · simp_arith [b_allM, underT]
theorem dt_nil : (.str ("" : Str) : D) = dt [] := by
  show D.str ("" : Str) = .str (tx [])
  rfl
theorem pow12 {k : Nat} (h : k ≤ 12) : 3 ^ k ≤ 531441 := Nat.le_trans (Nat.pow_le_pow_right (by decide) h) (by decide)
/-- what can be walked, whatever cells come behind -/
def Itr (S : Store) (d : D) (l : List D) : Prop := ∃ g, (∀ T, itR d (S ++ T) = .ok ⟨l, g⟩ (S ++ T)) ∧ ∀ T, Good g (S ++ T)
theorem Itr.lst {l : List D} : Itr S (.lst l) l := ⟨none, fun T => it_lst, fun T => good_none _⟩
theorem Itr.loc {l : List D} : Itr (S ++ [.lst l]) (.loc S.length) l := by
  refine ⟨some (S.length, .lst l), fun T => ?_, fun T => ?_⟩
  · rw [it_c, List.append_assoc, List.singleton_append, g_at, itC_some]
  · show (S ++ [.lst l] ++ T)[S.length]? = some (.lst l)
    rw [List.append_assoc, List.singleton_append, g_at]
theorem appB (x : List D) : D.lo n (.bl true) = true := lo_bl
/-- all texts that have a view -/
theorem s_all59 (hn : 3 ≤ n) (h9 : ws.length ≤ 9) (hw1 : 1 ≤ w) (hw : w ≤ 4) (wf : Wf S) : run G fu n 59 [dv w ws] S = .ok (.lst ((allT w ws).map dt)) S := by
  refine run_wp G59 (by omega) rfl ?_
  simp only [c59]
  simp_arith [dt_nil]
  refine wp_forN0 (fun i env S' => ∃ d o1 o2 o3 o4, env = [some (dv w ws), some (.int (w : Int)), some (.tup (ws.map dt)), some d, o1, o2, o3, o4] ∧ Itr S' d ((rowsT w ws i).map dt) ∧ ∃ T, S' = S ++ T) ⟨_, none, none, none, none, rfl, .lst, [], by simp⟩ ?_ ?_
  · rintro i env S' hi ⟨d, o1, o2, o3, o4, rfl, ⟨g, hg1, hg2⟩, T, hT⟩
    refine ⟨_, rfl, ?_⟩
    have hg := hg1 [.lst []]
    have bl := Nat.le_trans (rowsT_len (w := w) (ws := ws) i) (pow12 (show i ≤ 12 by omega))
    simp_arith [hg]
    refine wp_forI (enc := dt) (xs := rowsT w ws i) (fun p env S'' => ∃ o3 o4, env = [some (dv w ws), some (.int (w : Int)), some (.tup (ws.map dt)), some d, some (.int (i : Int)), some (.loc S'.length), o3, o4] ∧ S'' = S' ++ [.lst ((p.flatMap (longer w ws)).map dt)])
      ⟨o3, o4, rfl, rfl⟩ ?_ ?_ ?_
    · rintro p env S'' ⟨o3, o4, rfl, rfl⟩
      exact hg2 _
    · rintro p x r env S'' hp ⟨o3, o4, rfl, rfl⟩
      refine ⟨_, rfl, ?_⟩
      have hxm : x ∈ rowsT w ws i := by rw [hp]; simp
      have hxl := mem_rowsT_len hxm
      have pl : p.length ≤ 531441 := by
        have := congrArg List.length hp
        simp at this
        omega
      have fl := flatMap_len (f := longer w ws) (c := 3) (l := p) fun x _ => longer_len
      have ll := longer_len (w := w) (ws := ws) (l := x)
      simp_arith [it_abc]
      refine wp_lcT (enc := fun c => dt [c]) (xs := [97, 98, 99]) (fun c => underT w ws (x ++ [c])) (fun c => x ++ [c]) (good_none _) (by decide) (fun c hc => ⟨_, rfl, ?_, fun hu => ?_⟩) ?_
      · simp_arith [s_under]
      · simp_arith
      · rw [show ([97, 98, 99].filter fun c => underT w ws (x ++ [c])).map (fun c => x ++ [c]) = longer w ws x from rfl]
        simp_arith
        exact ⟨_, _, rfl, by simp [List.flatMap_append]⟩
    · rintro env S'' ⟨o3, o4, rfl, rfl⟩
      simp_arith
      exact ⟨_, _, _, _, _, rfl, .loc, T ++ [.lst ((rowsT w ws (i + 1)).map dt)], by rw [hT, List.append_assoc]; rfl⟩
  · rintro env S' ⟨d, o1, o2, o3, o4, rfl, ⟨g, hg1, hg2⟩, T, hT⟩
    have hg := hg1 []
    have hgg := hg2 []
    rw [List.append_nil] at hg hgg
    have bl := Nat.le_trans (rowsT_len (w := w) (ws := ws) (ws.length + w - 1)) (pow12 (show ws.length + w - 1 ≤ 12 by omega))
    simp_arith [hg]
    refine wp_lcT (fun l => decide (seenT w l = ws)) (fun l => l) hgg (by omega) (fun l hl => ⟨_, rfl, ?_, fun hu => ?_⟩) ?_
    · have := mem_rowsT_len hl
      simp_arith [s_seen2, q_tupT]
    · simp_arith
    · rw [List.map_id']
      simp_arith
      rw [hT]
      exact fin_more wf lo_strs
/-- .. as other laws have it -/
theorem s_all41 (hn : 3 ≤ n) (h9 : ws.length ≤ 9) (hw1 : 1 ≤ w) (hw : w ≤ 4) (wf : Wf S) : run G fu n 41 [dv w ws] S = .ok (.lst ((allT w ws).map dt)) S := by
  refine run_wp G41 (by omega) rfl ?_
  simp only [c41]
  simp_arith [dt_nil]
  refine wp_forN0 (fun i env S' => ∃ d o1 o2 o3 o4, env = [some (dv w ws), some (.int (w : Int)), some (.tup (ws.map dt)), some (.int ((ws.length + w - 1 : Nat) : Int)), some d, o1, o2, o3, o4] ∧ Itr S' d ((rowsT w ws i).map dt) ∧ Wf S' ∧ ∃ T, S' = S ++ T) ⟨_, none, none, none, none, rfl, .lst, wf, [], by simp⟩ ?_ ?_
  · rintro i env S' hi ⟨d, o1, o2, o3, o4, rfl, ⟨g, hg1, hg2⟩, wf', T, hT⟩
    refine ⟨_, rfl, ?_⟩
    have hg := hg1 [.lst []]
    have bl := Nat.le_trans (rowsT_len (w := w) (ws := ws) i) (pow12 (show i ≤ 12 by omega))
    simp_arith [hg]
    refine wp_forI (enc := dt) (xs := rowsT w ws i) (fun p env S'' => ∃ o3 o4, env = [some (dv w ws), some (.int (w : Int)), some (.tup (ws.map dt)), some (.int ((ws.length + w - 1 : Nat) : Int)), some d, some (.int (i : Int)), some (.loc S'.length), o3, o4] ∧ S'' = S' ++ [.lst ((p.flatMap (longer w ws)).map dt)])
      ⟨o3, o4, rfl, rfl⟩ ?_ ?_ ?_
    · rintro p env S'' ⟨o3, o4, rfl, rfl⟩
      exact hg2 _
    · rintro p x r env S'' hp ⟨o3, o4, rfl, rfl⟩
      refine ⟨_, rfl, ?_⟩
      have hxm : x ∈ rowsT w ws i := by rw [hp]; simp
      have hxl := mem_rowsT_len hxm
      have pl : p.length ≤ 531441 := by
        have := congrArg List.length hp
        simp at this
        omega
      have fl := flatMap_len (f := longer w ws) (c := 3) (l := p) fun x _ => longer_len
      simp_arith [it_abc]
      refine wp_forI (enc := fun c => dt [c]) (xs := [97, 98, 99]) (fun q env S'' => ∃ o4, env = [some (dv w ws), some (.int (w : Int)), some (.tup (ws.map dt)), some (.int ((ws.length + w - 1 : Nat) : Int)), some d, some (.int (i : Int)), some (.loc S'.length), some (dt x), o4] ∧ S'' = S' ++ [.lst ((p.flatMap (longer w ws) ++ (q.filter fun c => underT w ws (x ++ [c])).map fun c => x ++ [c]).map dt)])
        ⟨o4, rfl, by simp⟩ (fun _ _ _ _ => good_none _) ?_ ?_
      · rintro q c r2 env S'' hq ⟨o4, rfl, rfl⟩
        refine ⟨_, rfl, ?_⟩
        have ql : q.length ≤ 3 := by
          have := congrArg List.length hq
          simp at this
          omega
        have fl2 := List.length_filter_le (fun c => underT w ws (x ++ [c])) q
        have wf2 : Wf (S' ++ [.lst ((p.flatMap (longer w ws) ++ (q.filter fun c => underT w ws (x ++ [c])).map fun c => x ++ [c]).map dt)]) := wf'.strs
        have hun := s_within0 (fu := fu) (n := n - 1) (a := x ++ [c]) (w := w) (ws := ws) (by omega) (by simp; omega) hw1 (by omega) wf2
        by_cases hu : underT w ws (x ++ [c]) = true
        · rw [hu] at hun
          simp_arith [hun]
          exact ⟨_, rfl, by simp [List.filter_append, hu]⟩
        · rw [Bool.not_eq_true] at hu
          rw [hu] at hun
          simp_arith [hun]
          exact ⟨_, rfl, by simp [List.filter_append, hu]⟩
      · rintro env S'' ⟨o4, rfl, rfl⟩
        exact ⟨_, _, rfl, by simp [List.flatMap_append, longer]⟩
    · rintro env S'' ⟨o3, o4, rfl, rfl⟩
      simp_arith
      exact ⟨_, _, _, _, _, rfl, .loc, wf'.strs, T ++ [.lst ((rowsT w ws (i + 1)).map dt)], by rw [hT, List.append_assoc]; rfl⟩
  · rintro env S' ⟨d, o1, o2, o3, o4, rfl, ⟨g, hg1, hg2⟩, wf', T, hT⟩
    have hg := hg1 []
    have hgg := hg2 []
    rw [List.append_nil] at hg hgg
    have bl := Nat.le_trans (rowsT_len (w := w) (ws := ws) (ws.length + w - 1)) (pow12 (show ws.length + w - 1 ≤ 12 by omega))
    simp_arith [hg]
    refine wp_lcT (fun l => decide (seenT w l = ws)) (fun l => l) hgg (by omega) (fun l hl => ⟨_, rfl, ?_, fun hu => ?_⟩) ?_
    · have := mem_rowsT_len hl
      simp_arith [s_seen, q_tupT]
    · simp_arith
    · rw [List.map_id']
      simp_arith
      rw [hT]
      exact fin_more wf lo_strs
end
end SV
/-! SvM1: the texts of a view: those that grow are all. -/
namespace SV
open PySem
/-- the windows that come with new letters -/
def news (w : Nat) : List Nat → List Nat → List (List Nat)
  | _, [] => []
  | a, c :: b => (a ++ [c]).drop (a.length + 1 - w) :: news w (a ++ [c]) b
theorem news_len {w : Nat} : ∀ {b a : List Nat}, (news w a b).length = b.length
  | [], _ => rfl
  | c :: b, a => by
    rw [news, List.length_cons, news_len, List.length_cons]
theorem drop_last {w c : Nat} {a : List Nat} (hw : 1 ≤ w) : (a ++ [c]).drop (a.length + 1 - w) = a.drop (a.length + 1 - w) ++ [c] := by
  rw [List.drop_append, show a.length + 1 - w - a.length = 0 by omega, List.drop_zero]
theorem last_split {x : List Nat} (h : x ≠ []) : x.dropLast ++ [x.getLastD 0] = x := by
  rw [List.getLastD_eq_getLast?, List.getLast?_eq_some_getLast h]
  exact List.dropLast_concat_getLast h
theorem mem_grownT {w : Nat} (hw : 1 ≤ w) : ∀ (m : Nat) (ws : List (List Nat)) (a l : List Nat), ws.length = m → (∀ x ∈ ws, x.length = w) → (l ∈ grownT w m ws a ↔ ∃ b, b.length = m ∧ l = a ++ b ∧ (news w a b).Perm ws)
  | 0, ws, a, l, hm, hx => by
    have e : ws = [] := List.length_eq_zero_iff.mp hm
    subst e
    rw [grownT, List.mem_singleton]
    constructor
    · rintro rfl
      exact ⟨[], rfl, by simp, by simp [news]⟩
    · rintro ⟨b, hb, rfl, -⟩
      rw [List.length_eq_zero_iff.mp hb, List.append_nil]
  | m + 1, ws, a, l, hm, hx => by
    rw [grownT, List.mem_flatMap]
    constructor
    · rintro ⟨x, hxs, hl⟩
      have hxm := mem_setT.mp hxs
      have he : (ws.erase x).length = m := by rw [List.length_erase_of_mem hxm, hm]; rfl
      split at hl
      · next c =>
        obtain ⟨b, hb, rfl, hp⟩ := (mem_grownT hw m (ws.erase x) (a ++ [x.getLastD 0]) l he (fun y hy => hx y (List.mem_of_mem_erase hy))).mp hl
        refine ⟨x.getLastD 0 :: b, by simp [hb], by simp, ?_⟩
        have hxe : x ≠ [] := fun z => by
          have := hx x hxm
          rw [z] at this
          simp at this
          omega
        rw [news, drop_last hw, ← c, last_split hxe]
        exact (hp.cons x).trans (List.perm_cons_erase hxm).symm
      · cases hl
    · rintro ⟨b, hb, rfl, hp⟩
      cases b with
      | nil => cases hb
      | cons c b =>
        rw [news] at hp
        have hxm : (a ++ [c]).drop (a.length + 1 - w) ∈ ws := hp.subset List.mem_cons_self
        refine ⟨_, mem_setT.mpr hxm, ?_⟩
        rw [if_pos (by rw [drop_last hw, List.dropLast_concat])]
        have he : (ws.erase ((a ++ [c]).drop (a.length + 1 - w))).length = m := by rw [List.length_erase_of_mem hxm, hm]; rfl
        refine (mem_grownT hw m _ _ _ he (fun y hy => hx y (List.mem_of_mem_erase hy))).mpr ⟨b, by simpa using hb, ?_, ?_⟩
        · rw [drop_last hw]
          simp
        · have e : ((a ++ [c]).drop (a.length + 1 - w)).getLastD 0 = c := by
            rw [drop_last hw]
            simp
          rw [e]
          exact (List.cons_perm_iff_perm_erase.mp hp).2
theorem wins_snoc {w c : Nat} {a : List Nat} (h : w ≤ a.length + 1) (hw : 1 ≤ w) : wins w (a ++ [c]) = wins w a ++ [(a ++ [c]).drop (a.length + 1 - w)] := by
  unfold wins
  rw [List.length_append, List.length_singleton, show a.length + 1 + 1 - w = (a.length + 1 - w) + 1 by omega, List.range_succ, List.map_append, List.map_singleton]
  congr 1
  · refine List.map_congr_left fun i hi => ?_
    have := List.mem_range.mp hi
    unfold pc
    rw [List.drop_append_of_le_length (by omega), List.take_append_of_le_length (by rw [List.length_drop]; omega)]
  · congr 1
    unfold pc
    rw [List.take_of_length_le (by rw [List.length_drop, List.length_append, List.length_singleton]; omega)]
theorem wins_app {w : Nat} (hw : 1 ≤ w) : ∀ {b a : List Nat}, w ≤ a.length + 1 → wins w (a ++ b) = wins w a ++ news w a b
  | [], a, h => by simp [news]
  | c :: b, a, h => by
    rw [show a ++ c :: b = (a ++ [c]) ++ b by simp, wins_app hw (by simp; omega), wins_snoc h hw, news]
    simp
theorem wins_one {w : Nat} {a : List Nat} (h : a.length = w) : wins w a = [a] := by
  unfold wins
  rw [h, show w + 1 - w = 1 by omega]
  show [pc a w 0] = _
  unfold pc
  rw [List.drop_zero, ← h, List.take_length]
/-- the texts of a view -/
theorem mem_textsT {w : Nat} {ws : List (List Nat)} {l : List Nat} (hw : 1 ≤ w) (h1 : 1 ≤ ws.length) (hx : ∀ x ∈ ws, x.length = w) : l ∈ textsT w ws ↔ l.length = ws.length + w - 1 ∧ (wins w l).Perm ws := by
  unfold textsT
  rw [mem_sortT, List.mem_flatMap]
  constructor
  · rintro ⟨x, hxs, hl⟩
    have hxm := mem_setT.mp hxs
    have he : (ws.erase x).length = ws.length - 1 := List.length_erase_of_mem hxm
    obtain ⟨b, hb, rfl, hp⟩ := (mem_grownT hw _ _ _ _ he (fun y hy => hx y (List.mem_of_mem_erase hy))).mp hl
    have hxl := hx x hxm
    refine ⟨by rw [List.length_append, hxl, hb]; omega, ?_⟩
    rw [wins_app hw (by omega), wins_one hxl]
    exact (hp.cons x).trans (List.perm_cons_erase hxm).symm
  · rintro ⟨hl, hp⟩
    have e : l = l.take w ++ l.drop w := (List.take_append_drop w l).symm
    have hxl : (l.take w).length = w := by rw [List.length_take]; omega
    rw [e, wins_app hw (by omega), wins_one hxl] at hp
    have hxm : l.take w ∈ ws := hp.subset (by simp)
    refine ⟨l.take w, mem_setT.mpr hxm, ?_⟩
    have he : (ws.erase (l.take w)).length = ws.length - 1 := List.length_erase_of_mem hxm
    refine (mem_grownT hw _ _ _ _ he (fun y hy => hx y (List.mem_of_mem_erase hy))).mpr ⟨l.drop w, by rw [List.length_drop]; omega, e, ?_⟩
    exact (List.cons_perm_iff_perm_erase.mp hp).2
/-! ### each text once -/
theorem flatMap_nodup {α β : Type} {f : α → List β} : ∀ {l : List α}, l.Nodup → (∀ x ∈ l, (f x).Nodup) → (∀ x ∈ l, ∀ y ∈ l, ∀ z, z ∈ f x → z ∈ f y → x = y) → (l.flatMap f).Nodup
  | [], _, _, _ => by simp
  | x :: l, h, h1, h2 => by
    rw [List.flatMap_cons, List.nodup_append]
    rw [List.nodup_cons] at h
    refine ⟨h1 x List.mem_cons_self, flatMap_nodup h.2 (fun y hy => h1 y (List.mem_cons_of_mem _ hy)) (fun y hy z hz => h2 y (List.mem_cons_of_mem _ hy) z (List.mem_cons_of_mem _ hz)), ?_⟩
    intro a ha b hb e
    subst e
    obtain ⟨y, hy, hb⟩ := List.mem_flatMap.mp hb
    exact h.1 (h2 x List.mem_cons_self y (List.mem_cons_of_mem _ hy) a ha hb ▸ hy)
theorem grownT_pre {w : Nat} : ∀ (m : Nat) (ws : List (List Nat)) (a l : List Nat), l ∈ grownT w m ws a → ∃ b, l = a ++ b
  | 0, ws, a, l, h => by
    rw [grownT, List.mem_singleton] at h
    exact ⟨[], by simp [h]⟩
  | m + 1, ws, a, l, h => by
    rw [grownT, List.mem_flatMap] at h
    obtain ⟨x, hx, h⟩ := h
    split at h
    · obtain ⟨b, rfl⟩ := grownT_pre m _ _ _ h
      exact ⟨x.getLastD 0 :: b, by simp⟩
    · cases h
theorem grownT_nodup {w : Nat} (hw : 1 ≤ w) : ∀ (m : Nat) (ws : List (List Nat)) (a : List Nat), (∀ x ∈ ws, x.length = w) → (grownT w m ws a).Nodup
  | 0, ws, a, hx => by simp [grownT]
  | m + 1, ws, a, hx => by
    rw [grownT]
    refine flatMap_nodup (setT_rises ws).nodup (fun x hxs => ?_) fun x hxs y hys z hz1 hz2 => ?_
    · split
      · exact grownT_nodup hw m _ _ fun y hy => hx y (List.mem_of_mem_erase hy)
      · simp
    · have ne : ∀ x ∈ setT ws, x ≠ [] := fun x h z => by
        have := hx x (mem_setT.mp h)
        rw [z] at this
        simp at this
        omega
      split at hz1
      · next c1 =>
        split at hz2
        · next c2 =>
          obtain ⟨b1, rfl⟩ := grownT_pre _ _ _ _ hz1
          obtain ⟨b2, e⟩ := grownT_pre _ _ _ _ hz2
          rw [List.append_assoc, List.append_assoc] at e
          have e := List.append_cancel_left e
          rw [List.singleton_append, List.singleton_append] at e
          have e := (List.cons.inj e).1
          rw [← last_split (ne x hxs), ← last_split (ne y hys), c1, c2, e]
        · cases hz2
      · cases hz1
theorem textsT_nodup {w : Nat} {ws : List (List Nat)} (hw : 1 ≤ w) (hx : ∀ x ∈ ws, x.length = w) : ((setT ws).flatMap fun x => grownT w (ws.length - 1) (ws.erase x) x).Nodup := by
  refine flatMap_nodup (setT_rises ws).nodup (fun x hxs => grownT_nodup hw _ _ _ fun y hy => hx y (List.mem_of_mem_erase hy)) fun x hxs y hys z hz1 hz2 => ?_
  obtain ⟨b1, rfl⟩ := grownT_pre _ _ _ _ hz1
  obtain ⟨b2, e⟩ := grownT_pre _ _ _ _ hz2
  exact (List.append_inj e (by rw [hx x (mem_setT.mp hxs), hx y (mem_setT.mp hys)])).1
theorem textsT_rises {w : Nat} {ws : List (List Nat)} (hw : 1 ≤ w) (hx : ∀ x ∈ ws, x.length = w) : Rises (textsT w ws) := sortT_rises (textsT_nodup hw hx)
/-! ### how many -/
theorem countT_eq {w : Nat} (hw : 1 ≤ w) : ∀ (m : Nat) (ws : List (List Nat)) (a : List Nat), (∀ x ∈ ws, x.length = w) → w ≤ a.length + 1 → countT m ws (a.drop (a.length + 1 - w)) = (grownT w m ws a).length
  | 0, _, _, _, _ => rfl
  | m + 1, ws, a, hx, ha => by
    rw [countT, grownT, List.length_flatMap]
    congr 1
    refine List.map_congr_left fun x hxs => ?_
    have hxm := mem_setT.mp hxs
    have hxe : x ≠ [] := fun z => by
      have := hx x hxm
      rw [z] at this
      simp at this
      omega
    split
    · next c =>
      have ih := countT_eq hw m (ws.erase x) (a ++ [x.getLastD 0]) (fun y hy => hx y (List.mem_of_mem_erase hy)) (by simp; omega)
      rw [← ih]
      congr 1
      have e : x = (a ++ [x.getLastD 0]).drop (a.length + 1 - w) := by
        rw [drop_last hw, ← c, last_split hxe]
      conv => lhs; rw [e]
      rw [List.drop_drop]
      congr 1
      simp
      omega
    · rfl
theorem howT_eq {w : Nat} {ws : List (List Nat)} (hw : 1 ≤ w) (hx : ∀ x ∈ ws, x.length = w) : howT ws = (textsT w ws).length := by
  unfold howT textsT
  rw [sortT_len, List.length_flatMap]
  congr 1
  refine List.map_congr_left fun x hxs => ?_
  have hxl := hx x (mem_setT.mp hxs)
  have e := countT_eq hw (ws.length - 1) (ws.erase x) x (fun y hy => hx y (List.mem_of_mem_erase hy)) (by omega)
  rw [← e, hxl, show w + 1 - w = 1 by omega]
end SV
/-! SvM2: letter by letter, or window by window. -/
namespace SV
open PySem
theorem seen_eq {w : Nat} {ws : List (List Nat)} {l : List Nat} (so : ws.Pairwise fun a b => leT a b = true) : seenT w l = ws ↔ (wins w l).Perm ws := by
  unfold seenT
  constructor
  · intro e
    rw [← e]
    exact (sortT_perm _).symm
  · intro p
    exact sorted_eq (sortT_sorted _) so ((sortT_perm _).trans p)
theorem seen_count {w : Nat} {l x : List Nat} : (seenT w l).count x = (wins w l).count x := (sortT_perm _).count_eq x
theorem under_iff {w : Nat} {ws : List (List Nat)} {l : List Nat} : underT w ws l = true ↔ ∀ x, (wins w l).count x ≤ ws.count x := by
  unfold underT
  rw [List.all_eq_true]
  constructor
  · intro h x
    rw [← seen_count]
    by_cases c : x ∈ seenT w l
    · exact of_decide_eq_true (h x c)
    · rw [List.count_eq_zero_of_not_mem c]
      exact Nat.zero_le _
  · intro h x hx
    rw [decide_eq_true_eq, seen_count]
    exact h x
theorem wins_nil {w : Nat} {a : List Nat} (h : a.length + 1 ≤ w) : wins w a = [] := by
  unfold wins
  rw [show a.length + 1 - w = 0 by omega]
  rfl
theorem count_pre {w : Nat} (hw : 1 ≤ w) {a b x : List Nat} : (wins w a).count x ≤ (wins w (a ++ b)).count x := by
  by_cases c : w ≤ a.length + 1
  · rw [wins_app hw c, List.count_append]
    exact Nat.le_add_right _ _
  · rw [wins_nil (by omega)]
    simp
theorem mem_longer {w : Nat} {ws : List (List Nat)} {l y : List Nat} : y ∈ longer w ws l ↔ ∃ c, T3 [c] ∧ underT w ws (l ++ [c]) = true ∧ y = l ++ [c] := by
  unfold longer
  rw [List.mem_map]
  constructor
  · rintro ⟨c, hc, rfl⟩
    rw [List.mem_filter] at hc
    refine ⟨c, ?_, hc.2, rfl⟩
    intro z hz
    rw [List.mem_singleton] at hz
    subst hz
    simpa using hc.1
  · rintro ⟨c, h, hu, rfl⟩
    exact ⟨c, List.mem_filter.mpr ⟨by simpa using h c (by simp), hu⟩, rfl⟩
theorem mem_rowsT {w : Nat} (hw : 1 ≤ w) {ws : List (List Nat)} : ∀ {k : Nat} {l : List Nat}, l.length = k → T3 l → (∀ x, (wins w l).count x ≤ ws.count x) → l ∈ rowsT w ws k
  | 0, l, hl, _, _ => by
    rw [rowsT, List.mem_singleton]
    exact List.length_eq_zero_iff.mp hl
  | k + 1, l, hl, ht, hu => by
    have hne : l ≠ [] := fun z => by rw [z] at hl; cases hl
    have e := last_split hne
    rw [rowsT, List.mem_flatMap]
    refine ⟨l.dropLast, mem_rowsT hw (by rw [List.length_dropLast, hl]; rfl) (fun x hx => ht x (List.dropLast_subset l hx)) (fun x => ?_), ?_⟩
    · refine Nat.le_trans ?_ (hu x)
      conv => rhs; rw [← e]
      exact count_pre hw
    · refine mem_longer.mpr ⟨l.getLastD 0, ?_, ?_, e.symm⟩
      · intro z hz
        rw [List.mem_singleton] at hz
        subst hz
        refine ht _ ?_
        rw [List.getLastD_eq_getLast?, List.getLast?_eq_some_getLast hne]
        exact List.getLast_mem hne
      · rw [e]
        exact under_iff.mpr hu
theorem rowsT_T3 {w : Nat} {ws : List (List Nat)} : ∀ {k : Nat} {l : List Nat}, l ∈ rowsT w ws k → T3 l
  | 0, l, h => by
    rw [rowsT, List.mem_singleton] at h
    subst h
    intro x hx
    cases hx
  | k + 1, l, h => by
    rw [rowsT, List.mem_flatMap] at h
    obtain ⟨x, hx, h⟩ := h
    obtain ⟨c, hc, -, rfl⟩ := mem_longer.mp h
    exact (rowsT_T3 hx).app hc
theorem mem_allT {w : Nat} (hw : 1 ≤ w) {ws : List (List Nat)} (so : ws.Pairwise fun a b => leT a b = true) {l : List Nat} : l ∈ allT w ws ↔ T3 l ∧ l.length = ws.length + w - 1 ∧ (wins w l).Perm ws := by
  unfold allT
  rw [List.mem_filter, decide_eq_true_eq, seen_eq so]
  constructor
  · rintro ⟨h1, h2⟩
    exact ⟨rowsT_T3 h1, mem_rowsT_len h1, h2⟩
  · rintro ⟨h1, h2, h3⟩
    exact ⟨mem_rowsT hw h2 h1 fun x => Nat.le_of_eq (h3.count_eq x), h3⟩
/-! ### rising -/
theorem lt_app {a b : List Nat} (h : a < b) (hl : a.length = b.length) (c d : List Nat) : a ++ c < b ++ d := by
  induction a generalizing b with
  | nil =>
    cases b with
    | nil => exact absurd h (List.lt_irrefl _)
    | cons y b => cases hl
  | cons x a ih =>
    cases b with
    | nil => cases hl
    | cons y b =>
      rw [List.cons_lt_cons_iff] at h
      rw [List.cons_append, List.cons_append, List.cons_lt_cons_iff]
      rcases h with h | ⟨rfl, h⟩
      · exact .inl h
      · exact .inr ⟨rfl, ih h (by simpa using hl)⟩
theorem lt_snoc {a : List Nat} {c d : Nat} (h : c < d) : a ++ [c] < a ++ [d] := by
  induction a with
  | nil =>
    show [c] < [d]
    rw [List.cons_lt_cons_iff]
    exact .inl h
  | cons x a ih =>
    rw [List.cons_append, List.cons_append, List.cons_lt_cons_iff]
    exact .inr ⟨rfl, ih⟩
theorem flatMap_rises {f : List Nat → List (List Nat)} : ∀ {l : List (List Nat)}, Rises l → (∀ x ∈ l, Rises (f x)) → (∀ x ∈ l, ∀ y ∈ l, x < y → ∀ a ∈ f x, ∀ b ∈ f y, a < b) → Rises (l.flatMap f)
  | [], _, _, _ => List.Pairwise.nil
  | x :: l, h, h1, h2 => by
    unfold Rises at h ⊢
    rw [List.pairwise_cons] at h
    rw [List.flatMap_cons, List.pairwise_append]
    refine ⟨h1 x List.mem_cons_self, flatMap_rises h.2 (fun y hy => h1 y (List.mem_cons_of_mem _ hy)) (fun y hy z hz => h2 y (List.mem_cons_of_mem _ hy) z (List.mem_cons_of_mem _ hz)), ?_⟩
    intro a ha b hb
    obtain ⟨y, hy, hb⟩ := List.mem_flatMap.mp hb
    exact h2 x List.mem_cons_self y (List.mem_cons_of_mem _ hy) (h.1 y hy) a ha b hb
theorem letters_rise (l : List Nat) (p : Nat → Bool) : Rises (([97, 98, 99].filter p).map fun c => l ++ [c]) := by
  have h : ([97, 98, 99] : List Nat).Pairwise (· < ·) := by decide
  have h2 := h.filter p
  exact List.pairwise_map.mpr (h2.imp fun z => lt_snoc z)
theorem rowsT_rises {w : Nat} {ws : List (List Nat)} : ∀ k, Rises (rowsT w ws k)
  | 0 => by simp [rowsT, Rises]
  | k + 1 => by
    rw [rowsT]
    refine flatMap_rises (rowsT_rises k) (fun x _ => letters_rise x _) fun x hx y hy h a ha b hb => ?_
    obtain ⟨c, _, -, rfl⟩ := mem_longer.mp ha
    obtain ⟨d, _, -, rfl⟩ := mem_longer.mp hb
    exact lt_app h (by rw [mem_rowsT_len hx, mem_rowsT_len hy]) _ _
theorem allT_rises {w : Nat} {ws : List (List Nat)} : Rises (allT w ws) := List.Pairwise.filter _ (rowsT_rises _)
/-! ### the letters are the windows' letters -/
theorem letter_wins {w : Nat} {l : List Nat} (hw : 1 ≤ w) (h : w ≤ l.length) {c : Nat} (hc : c ∈ l) : ∃ x ∈ wins w l, c ∈ x := by
  obtain ⟨i, hi, rfl⟩ := List.mem_iff_getElem.mp hc
  refine ⟨pc l w (min i (l.length - w)), List.mem_map.mpr ⟨_, List.mem_range.mpr (by omega), rfl⟩, ?_⟩
  unfold pc
  refine List.mem_iff_getElem.mpr ⟨i - min i (l.length - w), by rw [List.length_take, List.length_drop]; omega, ?_⟩
  rw [List.getElem_take, List.getElem_drop]
  congr 1
  omega
theorem T3_wins {w : Nat} {l : List Nat} {ws : List (List Nat)} (hw : 1 ≤ w) (h : w ≤ l.length) (p : (wins w l).Perm ws) (t : ∀ x ∈ ws, T3 x) : T3 l := fun c hc => by
  obtain ⟨x, hx, hc⟩ := letter_wins hw h hc
  exact t x (p.subset hx) c hc
theorem allT_textsT {w : Nat} {ws : List (List Nat)} (h : VW w ws) : allT w ws = textsT w ws := by
  have := h.n1
  refine rises_ext allT_rises (textsT_rises h.w1 h.el) fun l => ?_
  rw [mem_allT h.w1 h.so, mem_textsT h.w1 h.n1 h.el]
  exact ⟨fun z => z.2, fun z => ⟨T3_wins h.w1 (by omega) z.2 h.t3, z⟩⟩
end SV
/-! SvS5: the least of some; the shortest texts. -/
namespace SV
open PySem
/-! ### the least -/
section
variable {α : Type}
def minB (lt : α → α → Bool) : α → List α → α
  | x, [] => x
  | x, y :: l => minB lt (if lt y x = true then y else x) l
theorem minD_enc {enc : α → D} {lt : α → α → Bool} (h : ∀ a b, PySem.W.dataLt (enc a).py (enc b).py = lt a b) : ∀ (l : List α) (x : α), minD (enc x) (l.map enc) = enc (minB lt x l)
  | [], x => rfl
  | y :: l, x => by
    show minD (if PySem.W.dataLt (enc y).py (enc x).py then enc y else enc x) (l.map enc) = _
    rw [h, minB, ← minD_enc h l]
    split <;> rfl
theorem minB_spec {lt : α → α → Bool} (irr : ∀ a, lt a a = false) (nt : ∀ a b c, lt b a = false → lt c b = false → lt c a = false) (as : ∀ a b, lt a b = true → lt b a = false) : ∀ (l : List α) (x : α), minB lt x l ∈ x :: l ∧ ∀ y ∈ x :: l, lt y (minB lt x l) = false
  | [], x => by simp [minB, irr]
  | y :: l, x => by
    obtain ⟨h1, h2⟩ := minB_spec irr nt as l (if lt y x = true then y else x)
    rw [minB]
    refine ⟨?_, fun z hz => ?_⟩
    · rcases List.mem_cons.mp h1 with e | h
      · rw [e]
        split <;> simp
      · simp [h]
    · have hx := h2 _ List.mem_cons_self
      rcases List.mem_cons.mp hz with rfl | hz
      · by_cases c : lt y z = true
        · rw [if_pos c] at hx ⊢
          exact nt _ _ _ hx (as _ _ c)
        · rw [if_neg c] at hx ⊢
          exact hx
      · rcases List.mem_cons.mp hz with rfl | hz
        · by_cases c : lt z x = true
          · rw [if_pos c] at hx ⊢
            exact hx
          · rw [if_neg c] at hx ⊢
            exact nt _ _ _ hx (by simpa using c)
        · exact h2 z (List.mem_cons_of_mem _ hz)
end
/-- a number and a text -/
abbrev vP (p : Nat × List Nat) : D := .tup [.int (p.1 : Int), dt p.2]
def ltP (a b : Nat × List Nat) : Bool := decide (a.1 < b.1) || (decide (a.1 = b.1) && decide (a.2 < b.2))
theorem lt_vP (a b : Nat × List Nat) : PySem.W.dataLt (vP a).py (vP b).py = ltP a b := by
  have tk : ∀ p : Nat × List Nat, PySem.W.keyToks (vP p).py = [.inl 1, .inl (p.1 : Int), .inl 1, .inr p.2, .inl 0] := fun p => by
    show [(Sum.inl 1 : Int ⊕ List Nat), .inl (p.1 : Int), .inl 1, .inr (tx p.2).cps.toList, .inl 0] = _
    rw [tx_cps]
  unfold PySem.W.dataLt ltP
  rw [tk, tk, PyProof.Rows.lex_self (O := PyProof.Rows.itemOrd), PyProof.Rows.lex_cons, PyProof.Rows.lex_self (O := PyProof.Rows.itemOrd), PyProof.Rows.lex_cons, PyProof.Rows.lex_self (O := PyProof.Rows.itemOrd)]
  have e1 : ∀ a b : Nat, PyProof.Rows.itemOrd.blt (.inl (a : Int)) (.inl (b : Int)) = decide (a < b) := fun a b => by
    show decide ((a : Int) < (b : Int)) = _
    exact dec_lt
  have e2 : ∀ a b : List Nat, PyProof.Rows.itemOrd.blt (.inr a) (.inr b) = decide (a < b) := fun a b => rfl
  have e3 : PyProof.Rows.lexLt PyProof.Rows.itemOrd [] [] = false := rfl
  rw [e1, e1, e2, e2, e3, Bool.and_false, Bool.or_false]
  by_cases h : a.1 < b.1
  · simp [h]
  · by_cases h2 : a.1 = b.1
    · simp [h2]
    · have : b.1 < a.1 := by omega
      simp [h, h2, this]
theorem ltP_iff {a b : Nat × List Nat} : ltP a b = true ↔ a.1 < b.1 ∨ (a.1 = b.1 ∧ a.2 < b.2) := by
  unfold ltP
  simp
theorem ltP_irr (a : Nat × List Nat) : ltP a a = false := by
  rw [Bool.eq_false_iff]
  intro h
  rcases ltP_iff.mp h with h | h
  · omega
  · exact List.lt_irrefl _ h.2
theorem ltP_as (a b : Nat × List Nat) (h : ltP a b = true) : ltP b a = false := by
  rw [Bool.eq_false_iff]
  intro k
  rcases ltP_iff.mp h with h | h <;> rcases ltP_iff.mp k with k | k
  · omega
  · omega
  · omega
  · exact List.lt_irrefl _ (List.lt_trans h.2 k.2)
theorem ltP_nt (a b c : Nat × List Nat) (h : ltP b a = false) (k : ltP c b = false) : ltP c a = false := by
  rw [Bool.eq_false_iff] at *
  intro z
  rcases ltP_iff.mp z with z | z
  · have h1 : ¬ b.1 < a.1 := fun q => h (ltP_iff.mpr (.inl q))
    have k1 : ¬ c.1 < b.1 := fun q => k (ltP_iff.mpr (.inl q))
    omega
  · have h1 : ¬ b.1 < a.1 := fun q => h (ltP_iff.mpr (.inl q))
    have k1 : ¬ c.1 < b.1 := fun q => k (ltP_iff.mpr (.inl q))
    have h2 : ¬ b.2 < a.2 := fun q => h (ltP_iff.mpr (.inr ⟨by omega, q⟩))
    have k2 : ¬ c.2 < b.2 := fun q => k (ltP_iff.mpr (.inr ⟨by omega, q⟩))
    exact List.le_trans (List.not_lt.mp h2) (List.not_lt.mp k2) z.2
def minP : List (Nat × List Nat) → Nat × List Nat
  | [] => (0, [])
  | x :: l => minB ltP x l
theorem minP_mem {l : List (Nat × List Nat)} (h : l ≠ []) : minP l ∈ l := by
  cases l with
  | nil => exact absurd rfl h
  | cons x l => exact (minB_spec ltP_irr ltP_nt ltP_as l x).1
theorem minP_le {l : List (Nat × List Nat)} {y : Nat × List Nat} (h : y ∈ l) : ltP y (minP l) = false := by
  cases l with
  | nil => cases h
  | cons x l => exact (minB_spec ltP_irr ltP_nt ltP_as l x).2 y h
theorem ok_vP {p : Nat × List Nat} : Ok 2 (vP p) := ok_tup (n := 1) fun d hd => by
  rcases List.mem_cons.mp hd with rfl | hd
  · exact ok_int
  · rw [List.mem_singleton] at hd
    subst hd
    exact ok_str
theorem okMin_vP (l : List (Nat × List Nat)) : okMin (l.map vP) = true := by
  have o := oks (n := 2) (l := l.map vP) fun d hd => by
    obtain ⟨t, _, rfl⟩ := List.mem_map.mp hd
    exact ok_vP
  unfold okMin
  rw [Bool.and_eq_true, Bool.and_eq_true, Bool.and_eq_true]
  refine ⟨⟨⟨sims_pures o.1, ?_⟩, decide_eq_true (Nat.le_trans o.2 (by decide))⟩, ?_⟩
  · unfold allAlike
    have hp : D.pys (l.map vP) = l.map fun p => (vP p).py := by
      induction l with
      | nil => rfl
      | cons x l ih =>
        show (vP x).py :: D.pys (l.map vP) = _
        rw [ih (oks (n := 2) (l := l.map vP) fun d hd => by
          obtain ⟨t, _, rfl⟩ := List.mem_map.mp hd
          exact ok_vP)]
        rfl
    rw [hp, List.all_map, List.all_eq_true]
    intro a _
    show (List.all (l.map fun p => (vP p).py) fun y => PySem.W.alike (vP a).py y) = true
    rw [List.all_map, List.all_eq_true]
    intro b _
    rfl
  · rw [List.all_map, List.all_eq_true]
    intro a _
    rfl
def minC (o : Option Cell) (S : Store) : R D := match o with
  | some (.lst (y :: l)) => if okMin (y :: l) then .ok (minD y l) S else .bad
  | _ => .bad
section
variable {S : Store} {k : Nat}
theorem min_c : Bi.app .min [.loc k] S = minC S[k]? S := by
  show (match D.items (.loc k) S with | some (y :: l) => if okMin (y :: l) then R.ok (minD y l) S else .bad | _ => .bad) = _
  unfold D.items minC
  dsimp only
  cases q : S[k]? with
  | none => rfl
  | some c =>
    cases c with
    | lst l => cases l <;> rfl
    | _ => rfl
theorem minC_P {l : List (Nat × List Nat)} (h : l ≠ []) : minC (some (.lst (l.map vP))) S = .ok (vP (minP l)) S := by
  cases l with
  | nil => exact absurd rfl h
  | cons x l =>
    show (if okMin ((x :: l).map vP) then R.ok (minD (vP x) (l.map vP)) S else .bad) = _
    rw [if_pos (okMin_vP _), minD_enc lt_vP]
    rfl
end
/-! ### by how many letters -/
def shiftT (a b : List Nat) : Nat := match (List.range (a.length - 1)).find? fun j => decide (a.drop (j + 1) = b.take (a.length - (j + 1))) with
  | some j => j + 1
  | none => a.length
theorem shiftT_some {a b : List Nat} {i : Nat} (hi : i < a.length - 1) (h : a.drop (i + 1) = b.take (a.length - (i + 1))) (h2 : ∀ j, j < i → ¬ a.drop (j + 1) = b.take (a.length - (j + 1))) : shiftT a b = i + 1 := by
  unfold shiftT
  have e : (List.range (a.length - 1)).find? (fun j => decide (a.drop (j + 1) = b.take (a.length - (j + 1)))) = some i := by
    rw [List.find?_range_eq_some]
    refine ⟨by simpa using h, List.mem_range.mpr hi, fun j hj => by simpa using h2 j hj⟩
  rw [e]
theorem shiftT_none {a b : List Nat} (h2 : ∀ j, j < a.length - 1 → ¬ a.drop (j + 1) = b.take (a.length - (j + 1))) : shiftT a b = a.length := by
  unfold shiftT
  have e : (List.range (a.length - 1)).find? (fun j => decide (a.drop (j + 1) = b.take (a.length - (j + 1)))) = none := by
    rw [List.find?_eq_none]
    intro j hj
    simpa using h2 j (List.mem_range.mp hj)
  rw [e]
theorem shiftT_le {a b : List Nat} : shiftT a b ≤ a.length := by
  unfold shiftT
  split
  · next j e =>
    have := List.mem_range.mp (List.mem_of_find?_eq_some e)
    omega
  · omega
local macro_rules
  | `(tactic| simp_arith) => `(tactic| simp -dsimp (disch := first | assumption | omega | (simp only [rv_append, rv_extend, rv_pop, rv_popAt, rv_remove, rv_get, rv_strip, rv_join, rv_split, rv_find, rv_scount, rv_sindex, rv_tcount, rv_tindex, rv_lcount, rv_lindex, g_at, g_at1, g_at2, g_atS, isLst_some, isDct_some, List.getElem?_cons_zero, List.getElem?_cons_succ, List.length_cons, List.length_nil, List.length_map, List.length_append, List.length_take, List.length_drop, List.length_range, List.length_dropLast, lo_strsL, lo_strsT, lo_dt, lo_int, lo_bl, lo_non, lo_tup, lo_lst, los_cons, los_nil, los_dts, Bool.and_true, Bool.and_self] <;> omega) | fail) only [↓wp_bind, ↓w_var, ↓w_cst, ↓w_glb, ↓w_op, ↓w_neg, ↓w_cmp, ↓wp_ift, ↓wp_iff, ↓wp_ifd1, ↓wp_ifd0, ↓wp_ifn1, ↓wp_ifn0, ↓w_chn, ↓w_not, ↓w_and, ↓w_or, ↓w_ite, ↓w_tup, ↓w_lst, ↓w_idx, ↓w_sl, ↓w_call, ↓w_bi, ↓w_mth, ↓w_lc, ↓w_cell, ↓w_snap, ↓w_rev, ↓w_dict, ↓w_sset, ↓w_lset, ↓w_cn, ↓w_cs, ↓w_nil, ↓w_cons, ↓w_on, ↓w_os, ↓w_ie, ↓w_i1, ↓w_i2, ↓w_xnil, ↓w_xcons, ↓w_pass, ↓w_expr, ↓w_set, ↓w_setT, ↓w_par, ↓w_put, ↓w_ret, ↓w_retN, ↓w_ifs, ↓w_for, ↓w_whl, ↓w_brk, ↓w_cnt, ↓w_two, ↓sq_nx, ↓sq_ret, ↓sq_bk, ↓sq_ct, wp_ok, wp_exc, wp_mth, slotR_some, negR_int, intO_int, List.getD_cons_zero, List.getD_cons_succ, List.set_cons_succ, List.set_cons_zero, List.map_cons, List.map_nil, List.length_cons, List.length_nil, List.replicate_succ, List.replicate_zero, List.cons_append, List.nil_append, Nat.reduceAdd, Nat.reduceSub, ret_ret, ret_nx, fin_self, seqR_ok, cellR_lst, p_add, p_sub, p_mul, p_mul', p_mod, q_lt, q_le, q_gt, q_ge, rngR_int, rng2R_int, t_add, t_len, t_cut, t_at, t_eq, t_ne, t_isStr, i_isInt, i_isBool, nc_add, nc_sub, nc_p1, nc_p2, nc_p3, nc_p4, nc_sub1, nc_sub2, nc_1add, nc_mul, Int.toNat_natCast, fin_t, cut_to, cut_from, cut_mid, decide_true, decide_false, Bool.not_true, Bool.not_false, wp_ift, wp_iff, wp_ifd1, wp_ifd0, wp_ifn1, wp_ifn0, b_sortT, b_sortTt, b_tuple_lst, b_tuple_tup, b_list_lst, b_list_tup, b_len_lst, b_len_tup, ss_lst, ss_tup, ls_lst, p_cat, p_catT, c_tup, c_lst, x_tup0, x_tup1, x_lst0, it_lst, it_tup, ← List.map_take, ← List.map_drop, ← List.map_append, List.length_append, List.length_map, List.append_assoc, Nat.zero_add, Nat.add_zero, g_at, g_at1, g_at2, s_at, s_at1, s_at2, g_atS, s_atS, g_set, g_setA, s_set, s_setA, isLst_some, isDct_some, rv_append, rv_extend, rv_pop, rv_popAt, rv_remove, rv_get, rv_strip, rv_join, rv_split, rv_find, rv_scount, rv_sindex, rv_tcount, rv_tindex, rv_lcount, rv_lindex, a_append, a_extend, appendC_some, extendC_some, a_pop, popC_some, a_popAt, popAtC_some, snap_c, snapC_lst, it_c, itC_some, len_c, lenC_some, List.getElem?_cons_zero, List.getElem?_cons_succ, q_tnil, sort_c, sortC_T, tup_c, tupC_some, list_c, listC_lst, dec_le, dec_lt, dec_eq, pc_fold, and_true, true_and, dr_m1, lt_m1, i_eqZ, t_ltq, t_leq])
  | `(tactic| simp_arith [$xs,*]) => `(tactic| simp -dsimp (disch := first | assumption | omega | (simp only [rv_append, rv_extend, rv_pop, rv_popAt, rv_remove, rv_get, rv_strip, rv_join, rv_split, rv_find, rv_scount, rv_sindex, rv_tcount, rv_tindex, rv_lcount, rv_lindex, g_at, g_at1, g_at2, g_atS, isLst_some, isDct_some, List.getElem?_cons_zero, List.getElem?_cons_succ, List.length_cons, List.length_nil, List.length_map, List.length_append, List.length_take, List.length_drop, List.length_range, List.length_dropLast, lo_strsL, lo_strsT, lo_dt, lo_int, lo_bl, lo_non, lo_tup, lo_lst, los_cons, los_nil, los_dts, Bool.and_true, Bool.and_self] <;> omega) | fail) only [↓wp_bind, ↓w_var, ↓w_cst, ↓w_glb, ↓w_op, ↓w_neg, ↓w_cmp, ↓wp_ift, ↓wp_iff, ↓wp_ifd1, ↓wp_ifd0, ↓wp_ifn1, ↓wp_ifn0, ↓w_chn, ↓w_not, ↓w_and, ↓w_or, ↓w_ite, ↓w_tup, ↓w_lst, ↓w_idx, ↓w_sl, ↓w_call, ↓w_bi, ↓w_mth, ↓w_lc, ↓w_cell, ↓w_snap, ↓w_rev, ↓w_dict, ↓w_sset, ↓w_lset, ↓w_cn, ↓w_cs, ↓w_nil, ↓w_cons, ↓w_on, ↓w_os, ↓w_ie, ↓w_i1, ↓w_i2, ↓w_xnil, ↓w_xcons, ↓w_pass, ↓w_expr, ↓w_set, ↓w_setT, ↓w_par, ↓w_put, ↓w_ret, ↓w_retN, ↓w_ifs, ↓w_for, ↓w_whl, ↓w_brk, ↓w_cnt, ↓w_two, ↓sq_nx, ↓sq_ret, ↓sq_bk, ↓sq_ct, wp_ok, wp_exc, wp_mth, slotR_some, negR_int, intO_int, List.getD_cons_zero, List.getD_cons_succ, List.set_cons_succ, List.set_cons_zero, List.map_cons, List.map_nil, List.length_cons, List.length_nil, List.replicate_succ, List.replicate_zero, List.cons_append, List.nil_append, Nat.reduceAdd, Nat.reduceSub, ret_ret, ret_nx, fin_self, seqR_ok, cellR_lst, p_add, p_sub, p_mul, p_mul', p_mod, q_lt, q_le, q_gt, q_ge, rngR_int, rng2R_int, t_add, t_len, t_cut, t_at, t_eq, t_ne, t_isStr, i_isInt, i_isBool, nc_add, nc_sub, nc_p1, nc_p2, nc_p3, nc_p4, nc_sub1, nc_sub2, nc_1add, nc_mul, Int.toNat_natCast, fin_t, cut_to, cut_from, cut_mid, decide_true, decide_false, Bool.not_true, Bool.not_false, wp_ift, wp_iff, wp_ifd1, wp_ifd0, wp_ifn1, wp_ifn0, b_sortT, b_sortTt, b_tuple_lst, b_tuple_tup, b_list_lst, b_list_tup, b_len_lst, b_len_tup, ss_lst, ss_tup, ls_lst, p_cat, p_catT, c_tup, c_lst, x_tup0, x_tup1, x_lst0, it_lst, it_tup, ← List.map_take, ← List.map_drop, ← List.map_append, List.length_append, List.length_map, List.append_assoc, Nat.zero_add, Nat.add_zero, g_at, g_at1, g_at2, s_at, s_at1, s_at2, g_atS, s_atS, g_set, g_setA, s_set, s_setA, isLst_some, isDct_some, rv_append, rv_extend, rv_pop, rv_popAt, rv_remove, rv_get, rv_strip, rv_join, rv_split, rv_find, rv_scount, rv_sindex, rv_tcount, rv_tindex, rv_lcount, rv_lindex, a_append, a_extend, appendC_some, extendC_some, a_pop, popC_some, a_popAt, popAtC_some, snap_c, snapC_lst, it_c, itC_some, len_c, lenC_some, List.getElem?_cons_zero, List.getElem?_cons_succ, q_tnil, sort_c, sortC_T, tup_c, tupC_some, list_c, listC_lst, dec_le, dec_lt, dec_eq, pc_fold, and_true, true_and, dr_m1, lt_m1, i_eqZ, t_ltq, t_leq, $xs,*])
section
variable {fu n : Nat} {S : Store} {a b : List Nat}
theorem s_shift (hn : 1 ≤ n) (ha : a.length ≤ 1000) (hb : b.length ≤ 1000) (h1 : 1 ≤ a.length) : run G fu n 53 [dt a, dt b] S = .ok (.int ((shiftT a b : Nat) : Int)) S := by
  refine run_wp G53 (by omega) rfl ?_
  simp only [c53]
  simp_arith
  refine wp_forN (fun i env S' => ∃ o, env = [some (dt a), some (dt b), o] ∧ S' = S ∧ ∀ j, j < i → ¬ a.drop (j + 1) = b.take (a.length - (j + 1))) ⟨none, rfl, rfl, fun j hj => by omega⟩ ?_ ?_
  · rintro i env S' hi ⟨o, rfl, rfl, hj⟩
    refine ⟨_, rfl, ?_⟩
    have c1 : i + 1 ≤ a.length := by omega
    by_cases c : a.drop (i + 1) = b.take (a.length - (i + 1))
    · simp_arith [Nat.add_comm 1 i, c]
      rw [shiftT_some hi c hj]
    · simp_arith [Nat.add_comm 1 i, c]
      refine ⟨_, rfl, fun j hj2 => ?_⟩
      by_cases e : j = i
      · subst e
        exact c
      · exact hj j (by omega)
  · rintro env S' ⟨o, rfl, rfl, hj⟩
    simp_arith [shiftT_none hj]
end
/-! ### the least of the shortest texts behind a window -/
def restT : Nat → List (List Nat) → List Nat → Nat × List Nat
  | 0, _, _ => (0, [])
  | m + 1, ws, e => minP ((setT ws).map fun x => ((restT m (ws.erase x) x).1 + shiftT e x, x.drop (x.length - shiftT e x) ++ (restT m (ws.erase x) x).2))
theorem restT_len {w : Nat} : ∀ (m : Nat) (ws : List (List Nat)) (e : List Nat), ws.length = m → (∀ x ∈ ws, x.length = w) → e.length = w → (restT m ws e).2.length = (restT m ws e).1 ∧ (restT m ws e).1 ≤ m * w
  | 0, _, _, _, _, _ => by simp [restT]
  | m + 1, ws, e, hm, hx, he => by
    have h0 : (setT ws).map (fun x => ((restT m (ws.erase x) x).1 + shiftT e x, x.drop (x.length - shiftT e x) ++ (restT m (ws.erase x) x).2)) ≠ [] := fun z => by
      have e2 : setT ws = [] := List.map_eq_nil_iff.mp z
      cases ws with
      | nil => cases hm
      | cons y ws =>
        have : y ∈ setT (y :: ws) := mem_setT.mpr List.mem_cons_self
        rw [e2] at this
        cases this
    have hmem := minP_mem h0
    rw [← restT] at hmem
    obtain ⟨x, hxs, e1⟩ := List.mem_map.mp hmem
    have hxm := mem_setT.mp hxs
    obtain ⟨i1, i2⟩ := restT_len m (ws.erase x) x (by rw [List.length_erase_of_mem hxm, hm]; rfl) (fun y hy => hx y (List.mem_of_mem_erase hy)) (hx x hxm)
    have hs := shiftT_le (a := e) (b := x)
    have hxl := hx x hxm
    rw [← e1]
    refine ⟨?_, ?_⟩
    · show (x.drop (x.length - shiftT e x) ++ (restT m (ws.erase x) x).2).length = (restT m (ws.erase x) x).1 + shiftT e x
      rw [List.length_append, List.length_drop, i1]
      omega
    · show (restT m (ws.erase x) x).1 + shiftT e x ≤ (m + 1) * w
      rw [Nat.succ_mul]
      omega
abbrev rstF (p : List (List Nat) × List Nat) : Nat × List Nat := restT p.1.length p.1 p.2
abbrev rstM (as : List (List (List Nat) × List Nat)) : Cell := .dct (memo kWT vP rstF as)
theorem lo_vP {n : Nat} (p : Nat × List Nat) : D.lo n (vP p) = true := by
  rw [lo_tup, los_cons, los_cons, los_nil, lo_int, lo_dt]
  rfl
theorem flat_rstM {as : List (List (List Nat) × List Nat)} : Flat (rstM as) := flat_memo (fun a n => lo_kWT a n) fun b n => lo_vP b
theorem flat_vPs {l : List (Nat × List Nat)} : Flat (.lst (l.map vP)) := fun n => by
  show D.los n (l.map vP) = true
  induction l with
  | nil => rw [List.map_nil, los_nil]
  | cons x l ih => rw [List.map_cons, los_cons, ih, lo_vP]; rfl
theorem setT_ne {ws : List (List Nat)} (h : ws ≠ []) : setT ws ≠ [] := fun z => by
  cases ws with
  | nil => exact h rfl
  | cons y ws =>
    have : y ∈ setT (y :: ws) := mem_setT.mpr List.mem_cons_self
    rw [z] at this
    cases this
theorem s_rest : ∀ (m : Nat) {fu n w : Nat} {S : Store} {ws : List (List Nat)} {e : List Nat} {k : Nat} {as : List (List (List Nat) × List Nat)}, ws.length = m → (∀ x ∈ ws, x.length = w) → e.length = w → 1 ≤ w → w ≤ 10 → m ≤ 9 → m + 2 ≤ n → k < S.length → as.length + gr m ≤ 10000000 → Wf S →
    ∃ as', run G fu n 54 [.tup (ws.map dt), dt e, .loc k] (S.set k (rstM as)) = .ok (vP (restT m ws e)) (S.set k (rstM as')) ∧ as'.length ≤ as.length + gr m := by
  intro m
  induction m with
  | zero =>
    intro fu n w S ws e k as hm hx he hw1 hw h9 hn hk hl wf
    have e0 : ws = [] := List.length_eq_zero_iff.mp hm
    subst e0
    refine ⟨as, ?_, by omega⟩
    refine run_wp G54 (by omega) rfl ?_
    simp only [c54]
    simp_arith [restT]
    rfl
  | succ m ih =>
    intro fu n w S ws e k as hm hx he hw1 hw h9 hn hk hl wf
    have e0 : ws ≠ [] := fun z => by rw [z] at hm; cases hm
    have hs := setT_len ws
    have hg : gr (m + 1) = 1 + (m + 1) * gr m := rfl
    have hf : rstF (ws, e) = restT (m + 1) ws e := by
      show restT ws.length ws e = _
      rw [hm]
    by_cases c : (ws, e) ∈ as
    · refine ⟨as, ?_, by omega⟩
      refine run_wp G54 (by omega) rfl ?_
      simp only [c54]
      have h1 := nin_memo (vq := vP) (f := rstF) good_kWT (a := (ws, e)) (g_set (c := rstM as) hk)
      have h2 := at_memo (vq := vP) (f := rstF) good_kWT (a := (ws, e)) (g_set (c := rstM as) hk) c
      rw [hf] at h2
      simp_arith [q_tupT0, e0, h1, h2, c]
    · refine run_wpX (f := fun _ => vP (restT (m + 1) ws e)) (g := fun as' => S.set k (rstM as')) (P := fun as' => as'.length ≤ as.length + gr (m + 1)) G54 (by omega) rfl ?_
      simp only [c54]
      have h1 := nin_memo (vq := vP) (f := rstF) good_kWT (a := (ws, e)) (g_set (c := rstM as) hk)
      simp_arith [q_tupT0, e0, h1, c, List.length_set]
      refine wp_forI (enc := dt) (xs := setT ws) (fun p env S' => ∃ as' o1 o2 o3 o4, env = [some (D.tup (List.map dt ws)), some (dt e), some (D.loc k), some (kWT (ws, e)), some (.loc S.length), o1, o2, o3, o4] ∧ S' = S.set k (rstM as') ++ [.lst ((p.map fun x => ((restT m (ws.erase x) x).1 + shiftT e x, x.drop (x.length - shiftT e x) ++ (restT m (ws.erase x) x).2)).map vP)] ∧ as'.length ≤ as.length + p.length * gr m)
        ⟨as, none, none, none, none, rfl, rfl, by simp⟩ (fun _ _ _ _ => good_none _) ?_ ?_
      · rintro p x r env S' hp ⟨as', o1, o2, o3, o4, rfl, rfl, ha⟩
        refine ⟨_, rfl, ?_⟩
        have hxm : x ∈ ws := mem_setT.mp (by rw [hp]; simp)
        have pl : p.length + 1 ≤ m + 1 := by
          have := congrArg List.length hp
          simp at this
          omega
        have pg : p.length * gr m ≤ m * gr m := Nat.mul_le_mul_right _ (by omega)
        have pg2 : (m + 1) * gr m = m * gr m + gr m := Nat.succ_mul ..
        have pg3 : (p.length + 1) * gr m = p.length * gr m + gr m := Nat.succ_mul ..
        have hxl := hx x hxm
        have el : (ws.erase x).length = m := by rw [List.length_erase_of_mem hxm, hm]; rfl
        obtain ⟨as2, h3, h4⟩ := ih (fu := fu) (n := n - 1) (S := S ++ [.lst ((p.map fun x => ((restT m (ws.erase x) x).1 + shiftT e x, x.drop (x.length - shiftT e x) ++ (restT m (ws.erase x) x).2)).map vP)]) (ws := ws.erase x) (e := x) (k := k) (as := as') el (fun y hy => hx y (List.mem_of_mem_erase hy)) hxl hw1 hw (by omega) (by omega) (by simp; omega) (by omega) (wf.flat flat_vPs)
        rw [List.set_append_left _ _ hk, List.set_append_left _ _ hk] at h3
        obtain ⟨l1, l2⟩ := restT_len m (ws.erase x) x el (fun y hy => hx y (List.mem_of_mem_erase hy)) hxl
        have l3 : m * w ≤ 9 * 10 := Nat.mul_le_mul (by omega) hw
        have sl := shiftT_le (a := e) (b := x)
        simp_arith [s_without, s_shift, h3, g_atS, s_atS]
        exact ⟨as2, some (dt x), _, _, _, rfl, by simp, by omega⟩
      · rintro env S' ⟨as', o1, o2, o3, o4, rfl, rfl, ha⟩
        have pl := setT_len ws
        have pg : (setT ws).length * gr m ≤ (m + 1) * gr m := Nat.mul_le_mul_right _ (by omega)
        have h0 : (setT ws).map (fun x => ((restT m (ws.erase x) x).1 + shiftT e x, x.drop (x.length - shiftT e x) ++ (restT m (ws.erase x) x).2)) ≠ [] := fun z => setT_ne e0 (List.map_eq_nil_iff.mp z)
        have e3 : minP ((setT ws).map fun x => ((restT m (ws.erase x) x).1 + shiftT e x, x.drop (x.length - shiftT e x) ++ (restT m (ws.erase x) x).2)) = rstF (ws, e) := by
          rw [hf]
          rfl
        have h2 := put_memo (vq := vP) (f := rstF) good_kWT (a := (ws, e)) (g_setA (S := S) (c := rstM as') (T := [.lst (((setT ws).map fun x => ((restT m (ws.erase x) x).1 + shiftT e x, x.drop (x.length - shiftT e x) ++ (restT m (ws.erase x) x).2)).map vP)]) hk) (by omega) rfl
        have h3 := at_memo (vq := vP) (f := rstF) good_kWT (a := (ws, e)) (g_setA (S := S) (c := rstM (addK as' (ws, e))) (T := [.lst (((setT ws).map fun x => ((restT m (ws.erase x) x).1 + shiftT e x, x.drop (x.length - shiftT e x) ++ (restT m (ws.erase x) x).2)).map vP)]) hk) mem_addK
        rw [s_setA hk] at h2
        have al := addK_len (as := as') (a := (ws, e))
        simp_arith [min_c, g_atS, minC_P h0, e3, h2, h3, retX_ret]
        rw [hf]
        refine ⟨addK as' (ws, e), ?_, by omega⟩
        have wf2 : Wf (S.set k (rstM (addK as' (ws, e)))) := wf.set flat_rstM
        exact fin_t (by simp) wf2 (lo_vP _)
end SV
/-! SvM3: the shortest text is the shortest. -/
namespace SV
open PySem
/-! ### shifts -/
theorem shiftT_pos {a b : List Nat} (h : 1 ≤ a.length) : 1 ≤ shiftT a b := by
  unfold shiftT
  split <;> omega
theorem shiftT_spec (a b : List Nat) : a.drop (shiftT a b) = b.take (a.length - shiftT a b) := by
  unfold shiftT
  split
  · next j e =>
    have := List.find?_some e
    simpa using this
  · simp
theorem shiftT_min {a b : List Nat} {i : Nat} (h1 : 1 ≤ i) (h : a.drop i = b.take (a.length - i)) : shiftT a b ≤ i := by
  by_cases c : i < a.length
  · unfold shiftT
    split
    · next j e =>
      rw [List.find?_range_eq_some] at e
      by_cases q : j + 1 ≤ i
      · exact q
      · have := e.2.2 (i - 1) (by omega)
        rw [show i - 1 + 1 = i by omega] at this
        simp [h] at this
    · next e =>
      rw [List.find?_eq_none] at e
      have := e (i - 1) (List.mem_range.mpr (by omega))
      rw [show i - 1 + 1 = i by omega] at this
      simp [h] at this
  · exact Nat.le_trans shiftT_le (by omega)
/-! ### windows by their places -/
theorem pc_drop {l : List Nat} {w i j : Nat} : pc (l.drop i) w j = pc l w (i + j) := by
  unfold pc
  rw [List.drop_drop]
theorem wins_get {w : Nat} {l : List Nat} {i : Nat} (h : i < l.length + 1 - w) : (wins w l)[i]? = some (pc l w i) := by
  unfold wins
  rw [List.getElem?_map, List.getElem?_range h]
  rfl
theorem wins_drop {w : Nat} {l : List Nat} {i : Nat} (hi : i ≤ l.length) : (wins w l).drop i = wins w (l.drop i) := by
  apply List.ext_getElem?
  intro j
  rw [List.getElem?_drop]
  by_cases c : i + j < l.length + 1 - w
  · rw [wins_get c, wins_get (by rw [List.length_drop]; omega), pc_drop]
  · rw [List.getElem?_eq_none (by rw [wins_len]; omega), List.getElem?_eq_none (by rw [wins_len, List.length_drop]; omega)]
theorem wins_cons {w : Nat} (hw : 1 ≤ w) {l : List Nat} (h : w ≤ l.length) : wins w l = l.take w :: wins w (l.drop 1) := by
  have e : (wins w l).drop 0 = wins w l := rfl
  rw [← wins_drop (by omega), ← e, List.drop_eq_getElem_cons (by rw [wins_len]; omega)]
  congr 1
  have := wins_get (w := w) (l := l) (i := 0) (by omega)
  rw [List.getElem?_eq_getElem (by rw [wins_len]; omega)] at this
  rw [Option.some.inj this]
  rfl
/-- windows taken in the order of their places -/
theorem wins_split {w : Nat} (hw : 1 ≤ w) {l x : List Nat} {A B : List (List Nat)} (h : wins w l = A ++ x :: B) : A.length + w ≤ l.length ∧ (l.drop A.length).take w = x ∧ B = wins w ((l.drop A.length).drop 1) := by
  have hl := congrArg List.length h
  rw [wins_len, List.length_append, List.length_cons] at hl
  have e : (wins w l).drop A.length = x :: B := by rw [h, List.drop_left]
  rw [wins_drop (by omega), wins_cons hw (by rw [List.length_drop]; omega)] at e
  have e := List.cons.inj e
  exact ⟨by omega, e.1, e.2.symm⟩
/-- each as often at least -/
def Cnt (a b : List (List Nat)) : Prop := ∀ x, a.count x ≤ b.count x
theorem Cnt.trans {a b c : List (List Nat)} (h : Cnt a b) (k : Cnt b c) : Cnt a c := fun x => Nat.le_trans (h x) (k x)
theorem Cnt.of_perm {a b : List (List Nat)} (h : a.Perm b) : Cnt a b := fun x => Nat.le_of_eq (h.count_eq x)
theorem Cnt.of_sub {a b : List (List Nat)} (h : a.Sublist b) : Cnt a b := fun x => h.count_le x
theorem Cnt.cons {a b : List (List Nat)} (h : Cnt a b) (y : List Nat) : Cnt (y :: a) (y :: b) := fun x => by
  rw [List.count_cons, List.count_cons]
  exact Nat.add_le_add_right (h x) _
theorem Cnt.sub : ∀ {b a : List (List Nat)}, Cnt a b → ∃ N : List (List Nat), N.Sublist b ∧ N.Perm a
  | [], a, h => by
    cases a with
    | nil => exact ⟨[], .slnil, .refl _⟩
    | cons y a =>
      have := h y
      simp at this
  | y :: b, a, h => by
    by_cases c : y ∈ a
    · obtain ⟨N, h1, h2⟩ := Cnt.sub (b := b) (a := a.erase y) fun x => by
        have := h x
        rw [List.count_cons] at this
        rw [List.count_erase]
        omega
      exact ⟨y :: N, h1.cons_cons y, (h2.cons y).trans (List.perm_cons_erase c).symm⟩
    · obtain ⟨N, h1, h2⟩ := Cnt.sub (b := b) (a := a) fun x => by
        have := h x
        rw [List.count_cons] at this
        by_cases e : y = x
        · subst e
          rw [List.count_eq_zero_of_not_mem c]
          exact Nat.zero_le _
        · have e2 : (y == x) = false := by simpa using e
          rw [e2] at this
          simpa using this
      exact ⟨N, h1.cons y, h2⟩
def Has (w : Nat) (ws : List (List Nat)) (l : List Nat) : Prop := ∀ x, ws.count x ≤ (wins w l).count x
theorem has_sub {w : Nat} {ws : List (List Nat)} {l : List Nat} (h : Has w ws l) : ∃ N : List (List Nat), N.Sublist (wins w l) ∧ N.Perm ws := by
  exact Cnt.sub h
theorem sub_cons {x : List Nat} {N L : List (List Nat)} (h : (x :: N).Sublist L) : ∃ A B, L = A ++ x :: B ∧ N.Sublist B := by
  induction L with
  | nil => cases h
  | cons y L ih =>
    cases h with
    | cons _ h =>
      obtain ⟨A, B, e, k⟩ := ih h
      exact ⟨y :: A, B, by rw [e]; rfl, k⟩
    | cons_cons _ h => exact ⟨[], L, rfl, h⟩
/-! ### the told one has the windows -/
theorem setT_pos {ws : List (List Nat)} {m : Nat} (h : ws.length = m + 1) : setT ws ≠ [] := setT_ne fun z => by rw [z] at h; cases h
theorem rest_has {w : Nat} (hw : 1 ≤ w) : ∀ (m : Nat) (ws : List (List Nat)) (e : List Nat), ws.length = m → (∀ x ∈ ws, x.length = w) → e.length = w → Cnt (e :: ws) (wins w (e ++ (restT m ws e).2))
  | 0, ws, e, hm, hx, he => by
    have e0 : ws = [] := List.length_eq_zero_iff.mp hm
    subst e0
    rw [restT, List.append_nil, wins_one he]
    exact .of_perm (.refl _)
  | m + 1, ws, e, hm, hx, he => by
    have hmem := minP_mem (l := (setT ws).map fun x => ((restT m (ws.erase x) x).1 + shiftT e x, x.drop (x.length - shiftT e x) ++ (restT m (ws.erase x) x).2)) (fun z => setT_pos hm (List.map_eq_nil_iff.mp z))
    rw [← restT] at hmem
    obtain ⟨x, hxs, e1⟩ := List.mem_map.mp hmem
    have hxm := mem_setT.mp hxs
    have hxl := hx x hxm
    have ih := rest_has hw m (ws.erase x) x (by rw [List.length_erase_of_mem hxm, hm]; rfl) (fun y hy => hx y (List.mem_of_mem_erase hy)) hxl
    have hs := shiftT_le (a := e) (b := x)
    have hs1 := shiftT_pos (a := e) (b := x) (by omega)
    have hsp := shiftT_spec e x
    rw [← e1]
    show Cnt (e :: ws) (wins w (e ++ (x.drop (x.length - shiftT e x) ++ (restT m (ws.erase x) x).2)))
    generalize (restT m (ws.erase x) x).2 = t at ih
    generalize shiftT e x = s at hs hs1 hsp
    have e2 : e ++ (x.drop (x.length - s) ++ t) = e.take s ++ (x ++ t) := by
      conv => lhs; rw [← List.take_append_drop s e]
      rw [hsp, he, hxl, List.append_assoc, ← List.append_assoc (x.take (w - s)), List.take_append_drop]
    have e3 : (e.take s ++ (x ++ t)).drop s = x ++ t := by
      rw [List.drop_append_of_le_length (by rw [List.length_take]; omega), List.drop_eq_nil_of_le (by rw [List.length_take]; omega), List.nil_append]
    have e4 : (e ++ (x.drop (x.length - s) ++ t)).take w = e := by rw [← he, List.take_left]
    rw [wins_cons hw (by rw [List.length_append]; omega), e4, e2]
    refine Cnt.trans (.of_perm ((List.perm_cons_erase hxm).cons e)) ((ih.trans ?_).cons e)
    refine .of_sub ?_
    have e5 : wins w (x ++ t) = (wins w ((e.take s ++ (x ++ t)).drop 1)).drop (s - 1) := by
      rw [wins_drop (by rw [List.length_drop, List.length_append, List.length_take]; omega), List.drop_drop, show 1 + (s - 1) = s by omega, e3]
    rw [e5]
    exact List.drop_sublist _ _
/-! ### none is less -/
theorem not_lt_app {p a b : List Nat} (h : ¬ a < b) : ¬ p ++ a < p ++ b := by
  induction p with
  | nil => exact h
  | cons x p ih =>
    rw [List.cons_append, List.cons_append, List.cons_lt_cons_iff]
    rintro (k | k)
    · exact Nat.lt_irrefl _ k
    · exact ih k.2
theorem ltP_false {a b : Nat × List Nat} : ltP a b = false ↔ b.1 < a.1 ∨ (a.1 = b.1 ∧ ¬ a.2 < b.2) := by
  rw [Bool.eq_false_iff, ne_eq, ltP_iff]
  constructor
  · intro h
    by_cases c : b.1 < a.1
    · exact .inl c
    · by_cases c2 : a.1 = b.1
      · exact .inr ⟨c2, fun z => h (.inr ⟨c2, z⟩)⟩
      · exact absurd (.inl (by omega)) h
  · rintro (h | h) (k | k)
    · omega
    · omega
    · omega
    · exact h.2 k.2
theorem rest_least {w : Nat} (hw : 1 ≤ w) : ∀ (m : Nat) (ws N : List (List Nat)) (e b : List Nat), ws.length = m → (∀ x ∈ ws, x.length = w) → e.length = w → N.Perm ws → N.Sublist (wins w ((e ++ b).drop 1)) → ltP (b.length, b) (restT m ws e) = false
  | 0, ws, N, e, b, hm, hx, he, hp, hs => by
    rw [restT, ltP_false]
    by_cases c : b.length = 0
    · exact .inr ⟨c, fun z => by rw [List.length_eq_zero_iff.mp c] at z; exact List.lt_irrefl _ z⟩
    · exact .inl (by show 0 < b.length; omega)
  | m + 1, ws, N, e, b, hm, hx, he, hp, hs => by
    cases N with
    | nil =>
      have := hp.length_eq
      rw [hm] at this
      cases this
    | cons x N =>
      obtain ⟨A, B, e1, hs2⟩ := sub_cons hs
      obtain ⟨q1, q2, q3⟩ := wins_split hw e1
      have dd : ((e ++ b).drop 1).drop A.length = (e ++ b).drop (1 + A.length) := List.drop_drop ..
      rw [dd] at q2 q3
      rw [List.length_drop, List.length_append] at q1
      have hxm : x ∈ ws := hp.subset List.mem_cons_self
      have hxl := hx x hxm
      have hp2 : N.Perm (ws.erase x) := (List.cons_perm_iff_perm_erase.mp hp).2
      generalize hi : 1 + A.length = i at q2 q3
      have e2 : (e ++ b).drop i = x ++ b.drop i := by
        rw [← List.take_append_drop w ((e ++ b).drop i), q2, List.drop_drop, Nat.add_comm i w, ← List.drop_drop, ← he, List.drop_left]
      rw [q3, e2] at hs2
      have ih := rest_least hw m (ws.erase x) N x (b.drop i) (by rw [List.length_erase_of_mem hxm, hm]; rfl) (fun y hy => hx y (List.mem_of_mem_erase hy)) hxl hp2 hs2
      have hmin := minP_le (l := (setT ws).map fun x => ((restT m (ws.erase x) x).1 + shiftT e x, x.drop (x.length - shiftT e x) ++ (restT m (ws.erase x) x).2)) (List.mem_map.mpr ⟨x, mem_setT.mpr hxm, rfl⟩)
      rw [← restT] at hmin
      refine ltP_nt _ _ _ hmin ?_
      have hsi : shiftT e x ≤ i := by
        refine shiftT_min (by omega) ?_
        have := congrArg (List.take (w - i)) e2
        rw [List.take_append_of_le_length (by omega)] at this
        rw [he, ← this]
        by_cases c : i ≤ w
        · rw [List.drop_append_of_le_length (by omega), List.take_append_of_le_length (by rw [List.length_drop]; omega), List.take_of_length_le (by rw [List.length_drop]; omega)]
        · rw [show w - i = 0 by omega, List.take_zero, List.drop_eq_nil_of_le (by omega)]
      have hs := shiftT_le (a := e) (b := x)
      generalize hr : restT m (ws.erase x) x = r at ih
      generalize shiftT e x = s at hs hsi
      rw [ltP_false] at ih ⊢
      rw [List.length_drop] at ih
      dsimp only at ih ⊢
      rcases ih with h | ⟨h1, h2⟩
      · exact .inl (by omega)
      · by_cases c : s = i
        · subst c
          refine .inr ⟨by omega, ?_⟩
          have e3 : b = x.drop (x.length - s) ++ b.drop s := by
            have := congrArg (List.drop (w - s)) e2
            rw [List.drop_drop, show s + (w - s) = w by omega, ← he, List.drop_left, List.drop_append_of_le_length (by omega)] at this
            rw [hxl, ← he]
            exact this
          rw [e3]
          exact not_lt_app h2
        · exact .inl (by omega)
/-! ### the shortest of all -/
def shortT (ws : List (List Nat)) : List Nat := (minP ((setT ws).map fun x => ((restT (ws.length - 1) (ws.erase x) x).1, x ++ (restT (ws.length - 1) (ws.erase x) x).2))).2
theorem short_row {w : Nat} {ws : List (List Nat)} (h1 : 1 ≤ ws.length) : ∃ x ∈ ws, minP ((setT ws).map fun x => ((restT (ws.length - 1) (ws.erase x) x).1, x ++ (restT (ws.length - 1) (ws.erase x) x).2)) = ((restT (ws.length - 1) (ws.erase x) x).1, x ++ (restT (ws.length - 1) (ws.erase x) x).2) := by
  have hmem := minP_mem (l := (setT ws).map fun x => ((restT (ws.length - 1) (ws.erase x) x).1, x ++ (restT (ws.length - 1) (ws.erase x) x).2)) (fun z => setT_pos (m := ws.length - 1) (by omega) (List.map_eq_nil_iff.mp z))
  obtain ⟨x, hxs, e1⟩ := List.mem_map.mp hmem
  exact ⟨x, mem_setT.mp hxs, e1.symm⟩
theorem short_has {w : Nat} {ws : List (List Nat)} (hw : 1 ≤ w) (h1 : 1 ≤ ws.length) (hx : ∀ x ∈ ws, x.length = w) : Has w ws (shortT ws) := by
  obtain ⟨x, hxm, e⟩ := short_row (w := w) h1
  unfold shortT
  rw [e]
  have ih := rest_has hw (ws.length - 1) (ws.erase x) x (List.length_erase_of_mem hxm) (fun y hy => hx y (List.mem_of_mem_erase hy)) (hx x hxm)
  exact Cnt.trans (.of_perm (List.perm_cons_erase hxm)) ih
theorem short_len {w : Nat} {ws : List (List Nat)} (h1 : 1 ≤ ws.length) (hx : ∀ x ∈ ws, x.length = w) : (shortT ws).length = w + (minP ((setT ws).map fun x => ((restT (ws.length - 1) (ws.erase x) x).1, x ++ (restT (ws.length - 1) (ws.erase x) x).2))).1 ∧ (shortT ws).length ≤ ws.length * w := by
  obtain ⟨x, hxm, e⟩ := short_row (w := w) h1
  unfold shortT
  rw [e]
  obtain ⟨l1, l2⟩ := restT_len (ws.length - 1) (ws.erase x) x (List.length_erase_of_mem hxm) (fun y hy => hx y (List.mem_of_mem_erase hy)) (hx x hxm)
  have hxl := hx x hxm
  dsimp only
  rw [List.length_append, l1, hxl]
  refine ⟨rfl, ?_⟩
  have : ws.length * w = (ws.length - 1) * w + w := by
    rw [← Nat.succ_mul]
    congr 1
    omega
  omega
theorem short_least {w : Nat} {ws : List (List Nat)} (hw : 1 ≤ w) (h1 : 1 ≤ ws.length) (hx : ∀ x ∈ ws, x.length = w) {l : List Nat} (h : Has w ws l) : ltP (l.length, l) ((shortT ws).length, shortT ws) = false := by
  obtain ⟨N, hs, hp⟩ := has_sub h
  cases N with
  | nil =>
    have := hp.length_eq
    simp at this
    omega
  | cons x N =>
    obtain ⟨A, B, e1, hs2⟩ := sub_cons hs
    obtain ⟨q1, q2, q3⟩ := wins_split hw e1
    have hxm : x ∈ ws := hp.subset List.mem_cons_self
    have hxl := hx x hxm
    have hp2 : N.Perm (ws.erase x) := (List.cons_perm_iff_perm_erase.mp hp).2
    have e2 : l.drop A.length = x ++ (l.drop A.length).drop w := by
      conv => lhs; rw [← List.take_append_drop w (l.drop A.length), q2]
    rw [q3, e2] at hs2
    have ih := rest_least hw (ws.length - 1) (ws.erase x) N x _ (List.length_erase_of_mem hxm) (fun y hy => hx y (List.mem_of_mem_erase hy)) hxl hp2 hs2
    have hmin := minP_le (l := (setT ws).map fun x => ((restT (ws.length - 1) (ws.erase x) x).1, x ++ (restT (ws.length - 1) (ws.erase x) x).2)) (List.mem_map.mpr ⟨x, mem_setT.mpr hxm, rfl⟩)
    have hlen := (short_len (w := w) h1 hx).1
    have key : ltP (l.length - w, l) (minP ((setT ws).map fun x => ((restT (ws.length - 1) (ws.erase x) x).1, x ++ (restT (ws.length - 1) (ws.erase x) x).2))) = false := by
      refine ltP_nt _ _ _ hmin ?_
      rw [ltP_false] at ih ⊢
      rw [List.length_drop, List.length_drop] at ih
      dsimp only at ih ⊢
      generalize restT (ws.length - 1) (ws.erase x) x = r at ih
      rcases ih with ih | ⟨i1, i2⟩
      · exact .inl (by omega)
      · by_cases c : A.length = 0
        · refine .inr ⟨by omega, ?_⟩
          rw [c, List.drop_zero] at e2 i2
          rw [e2]
          exact not_lt_app i2
        · exact .inl (by omega)
    rw [ltP_false] at key ⊢
    dsimp only at key ⊢
    rw [hlen]
    rcases key with k | ⟨k1, k2⟩
    · exact .inl (by omega)
    · exact .inr ⟨by omega, k2⟩
end SV
/-! SvS6: the shortest, asked. -/
namespace SV
open PySem
local macro_rules
  | `(tactic| simp_arith) => `(tactic| simp -dsimp (disch := first | assumption | omega | (simp only [rv_append, rv_extend, rv_pop, rv_popAt, rv_remove, rv_get, rv_strip, rv_join, rv_split, rv_find, rv_scount, rv_sindex, rv_tcount, rv_tindex, rv_lcount, rv_lindex, g_at, g_at1, g_at2, g_atS, isLst_some, isDct_some, List.getElem?_cons_zero, List.getElem?_cons_succ, List.length_cons, List.length_nil, List.length_map, List.length_append, List.length_take, List.length_drop, List.length_range, List.length_dropLast, lo_strsL, lo_strsT, lo_dt, lo_int, lo_bl, lo_non, lo_tup, lo_lst, los_cons, los_nil, los_dts, Bool.and_true, Bool.and_self] <;> omega) | fail) only [↓wp_bind, ↓w_var, ↓w_cst, ↓w_glb, ↓w_op, ↓w_neg, ↓w_cmp, ↓wp_ift, ↓wp_iff, ↓wp_ifd1, ↓wp_ifd0, ↓wp_ifn1, ↓wp_ifn0, ↓w_chn, ↓w_not, ↓w_and, ↓w_or, ↓w_ite, ↓w_tup, ↓w_lst, ↓w_idx, ↓w_sl, ↓w_call, ↓w_bi, ↓w_mth, ↓w_lc, ↓w_cell, ↓w_snap, ↓w_rev, ↓w_dict, ↓w_sset, ↓w_lset, ↓w_cn, ↓w_cs, ↓w_nil, ↓w_cons, ↓w_on, ↓w_os, ↓w_ie, ↓w_i1, ↓w_i2, ↓w_xnil, ↓w_xcons, ↓w_pass, ↓w_expr, ↓w_set, ↓w_setT, ↓w_par, ↓w_put, ↓w_ret, ↓w_retN, ↓w_ifs, ↓w_for, ↓w_whl, ↓w_brk, ↓w_cnt, ↓w_two, ↓sq_nx, ↓sq_ret, ↓sq_bk, ↓sq_ct, wp_ok, wp_exc, wp_mth, slotR_some, negR_int, intO_int, List.getD_cons_zero, List.getD_cons_succ, List.set_cons_succ, List.set_cons_zero, List.map_cons, List.map_nil, List.length_cons, List.length_nil, List.replicate_succ, List.replicate_zero, List.cons_append, List.nil_append, Nat.reduceAdd, Nat.reduceSub, ret_ret, ret_nx, fin_self, seqR_ok, cellR_lst, p_add, p_sub, p_mul, p_mul', p_mod, q_lt, q_le, q_gt, q_ge, rngR_int, rng2R_int, t_add, t_len, t_cut, t_at, t_eq, t_ne, t_isStr, i_isInt, i_isBool, nc_add, nc_sub, nc_p1, nc_p2, nc_p3, nc_p4, nc_sub1, nc_sub2, nc_1add, nc_mul, Int.toNat_natCast, fin_t, cut_to, cut_from, cut_mid, decide_true, decide_false, Bool.not_true, Bool.not_false, wp_ift, wp_iff, wp_ifd1, wp_ifd0, wp_ifn1, wp_ifn0, b_sortT, b_sortTt, b_tuple_lst, b_tuple_tup, b_list_lst, b_list_tup, b_len_lst, b_len_tup, ss_lst, ss_tup, ls_lst, p_cat, p_catT, c_tup, c_lst, x_tup0, x_tup1, x_lst0, it_lst, it_tup, ← List.map_take, ← List.map_drop, ← List.map_append, List.length_append, List.length_map, List.append_assoc, Nat.zero_add, Nat.add_zero, g_at, g_at1, g_at2, s_at, s_at1, s_at2, g_atS, s_atS, g_set, g_setA, s_set, s_setA, isLst_some, isDct_some, rv_append, rv_extend, rv_pop, rv_popAt, rv_remove, rv_get, rv_strip, rv_join, rv_split, rv_find, rv_scount, rv_sindex, rv_tcount, rv_tindex, rv_lcount, rv_lindex, a_append, a_extend, appendC_some, extendC_some, a_pop, popC_some, a_popAt, popAtC_some, snap_c, snapC_lst, it_c, itC_some, len_c, lenC_some, List.getElem?_cons_zero, List.getElem?_cons_succ, q_tnil, sort_c, sortC_T, tup_c, tupC_some, list_c, listC_lst, dec_le, dec_lt, dec_eq, pc_fold, and_true, true_and, dr_m1, lt_m1, i_eqZ, t_ltq, t_leq])
  | `(tactic| simp_arith [$xs,*]) => `(tactic| simp -dsimp (disch := first | assumption | omega | (simp only [rv_append, rv_extend, rv_pop, rv_popAt, rv_remove, rv_get, rv_strip, rv_join, rv_split, rv_find, rv_scount, rv_sindex, rv_tcount, rv_tindex, rv_lcount, rv_lindex, g_at, g_at1, g_at2, g_atS, isLst_some, isDct_some, List.getElem?_cons_zero, List.getElem?_cons_succ, List.length_cons, List.length_nil, List.length_map, List.length_append, List.length_take, List.length_drop, List.length_range, List.length_dropLast, lo_strsL, lo_strsT, lo_dt, lo_int, lo_bl, lo_non, lo_tup, lo_lst, los_cons, los_nil, los_dts, Bool.and_true, Bool.and_self] <;> omega) | fail) only [↓wp_bind, ↓w_var, ↓w_cst, ↓w_glb, ↓w_op, ↓w_neg, ↓w_cmp, ↓wp_ift, ↓wp_iff, ↓wp_ifd1, ↓wp_ifd0, ↓wp_ifn1, ↓wp_ifn0, ↓w_chn, ↓w_not, ↓w_and, ↓w_or, ↓w_ite, ↓w_tup, ↓w_lst, ↓w_idx, ↓w_sl, ↓w_call, ↓w_bi, ↓w_mth, ↓w_lc, ↓w_cell, ↓w_snap, ↓w_rev, ↓w_dict, ↓w_sset, ↓w_lset, ↓w_cn, ↓w_cs, ↓w_nil, ↓w_cons, ↓w_on, ↓w_os, ↓w_ie, ↓w_i1, ↓w_i2, ↓w_xnil, ↓w_xcons, ↓w_pass, ↓w_expr, ↓w_set, ↓w_setT, ↓w_par, ↓w_put, ↓w_ret, ↓w_retN, ↓w_ifs, ↓w_for, ↓w_whl, ↓w_brk, ↓w_cnt, ↓w_two, ↓sq_nx, ↓sq_ret, ↓sq_bk, ↓sq_ct, wp_ok, wp_exc, wp_mth, slotR_some, negR_int, intO_int, List.getD_cons_zero, List.getD_cons_succ, List.set_cons_succ, List.set_cons_zero, List.map_cons, List.map_nil, List.length_cons, List.length_nil, List.replicate_succ, List.replicate_zero, List.cons_append, List.nil_append, Nat.reduceAdd, Nat.reduceSub, ret_ret, ret_nx, fin_self, seqR_ok, cellR_lst, p_add, p_sub, p_mul, p_mul', p_mod, q_lt, q_le, q_gt, q_ge, rngR_int, rng2R_int, t_add, t_len, t_cut, t_at, t_eq, t_ne, t_isStr, i_isInt, i_isBool, nc_add, nc_sub, nc_p1, nc_p2, nc_p3, nc_p4, nc_sub1, nc_sub2, nc_1add, nc_mul, Int.toNat_natCast, fin_t, cut_to, cut_from, cut_mid, decide_true, decide_false, Bool.not_true, Bool.not_false, wp_ift, wp_iff, wp_ifd1, wp_ifd0, wp_ifn1, wp_ifn0, b_sortT, b_sortTt, b_tuple_lst, b_tuple_tup, b_list_lst, b_list_tup, b_len_lst, b_len_tup, ss_lst, ss_tup, ls_lst, p_cat, p_catT, c_tup, c_lst, x_tup0, x_tup1, x_lst0, it_lst, it_tup, ← List.map_take, ← List.map_drop, ← List.map_append, List.length_append, List.length_map, List.append_assoc, Nat.zero_add, Nat.add_zero, g_at, g_at1, g_at2, s_at, s_at1, s_at2, g_atS, s_atS, g_set, g_setA, s_set, s_setA, isLst_some, isDct_some, rv_append, rv_extend, rv_pop, rv_popAt, rv_remove, rv_get, rv_strip, rv_join, rv_split, rv_find, rv_scount, rv_sindex, rv_tcount, rv_tindex, rv_lcount, rv_lindex, a_append, a_extend, appendC_some, extendC_some, a_pop, popC_some, a_popAt, popAtC_some, snap_c, snapC_lst, it_c, itC_some, len_c, lenC_some, List.getElem?_cons_zero, List.getElem?_cons_succ, q_tnil, sort_c, sortC_T, tup_c, tupC_some, list_c, listC_lst, dec_le, dec_lt, dec_eq, pc_fold, and_true, true_and, dr_m1, lt_m1, i_eqZ, t_ltq, t_leq, $xs,*])
section
variable {fu n : Nat} {S : Store} {a : List Nat} {ws : List (List Nat)} {w : Nat}
theorem min_c1 {k : Nat} {l : List (Nat × List Nat)} (h : l ≠ []) (g : S[k]? = some (.lst (l.map vP))) : Bi.app .min [.loc k] S = .ok (vP (minP l)) S := by
  rw [min_c, g, minC_P h]
theorem s_shortestOf (hn : 12 ≤ n) (h9 : ws.length ≤ 9) (h1 : 1 ≤ ws.length) (hw : 1 ≤ w) (hw4 : w ≤ 10) (hx : ∀ x ∈ ws, x.length = w) (wf : Wf S) : run G fu n 55 [dv w ws] S = .ok (dt (shortT ws)) S := by
  have hs := setT_len ws
  refine run_wp G55 (by omega) rfl ?_
  simp only [c55]
  simp_arith [disp_nil]
  refine wp_forI (enc := dt) (xs := setT ws) (fun p env S' => ∃ as o1 o2 o3, env = [some (dv w ws), some (.int (w : Int)), some (.tup (ws.map dt)), some (.loc S.length), some (.loc (S.length + 1)), o1, o2, o3] ∧ S' = S ++ [rstM as, .lst ((p.map fun x => ((restT (ws.length - 1) (ws.erase x) x).1, x ++ (restT (ws.length - 1) (ws.erase x) x).2)).map vP)] ∧ as.length ≤ p.length * 1000000)
    ⟨[], none, none, none, rfl, by simp [memo], by simp⟩ (fun _ _ _ _ => good_none _) ?_ ?_
  · rintro p x r env S' hp ⟨as, o1, o2, o3, rfl, rfl, ha⟩
    refine ⟨_, rfl, ?_⟩
    have hxm : x ∈ ws := mem_setT.mp (by rw [hp]; simp)
    have pl : p.length + 1 ≤ 9 := by
      have := congrArg List.length hp
      simp at this
      omega
    have g := gr_le (ws.length - 1) (by omega)
    have hxl := hx x hxm
    have el : (ws.erase x).length = ws.length - 1 := by rw [List.length_erase_of_mem hxm]
    obtain ⟨as2, h3, h4⟩ := s_rest (ws.length - 1) (fu := fu) (n := n - 1) (w := w) (S := S ++ [.dead, .lst ((p.map fun x => ((restT (ws.length - 1) (ws.erase x) x).1, x ++ (restT (ws.length - 1) (ws.erase x) x).2)).map vP)]) (ws := ws.erase x) (e := x) (k := S.length) (as := as) el (fun y hy => hx y (List.mem_of_mem_erase hy)) hxl hw hw4 (by omega) (by omega) (by simp) (by omega) (wf.flat2 flat_dead flat_vPs)
    rw [s_at, s_at] at h3
    obtain ⟨l1, l2⟩ := restT_len (w := w) (ws.length - 1) (ws.erase x) x el (fun y hy => hx y (List.mem_of_mem_erase hy)) hxl
    have l3 : (ws.length - 1) * w ≤ 9 * 10 := Nat.mul_le_mul (by omega) hw4
    simp_arith [s_without, h3]
    exact ⟨as2, some (dt x), _, _, rfl, by simp, by omega⟩
  · rintro env S' ⟨as, o1, o2, o3, rfl, rfl, ha⟩
    have h0 : (setT ws).map (fun x => ((restT (ws.length - 1) (ws.erase x) x).1, x ++ (restT (ws.length - 1) (ws.erase x) x).2)) ≠ [] := fun z => setT_pos (m := ws.length - 1) (by omega) (List.map_eq_nil_iff.mp z)
    simp_arith [min_c1 h0]
    rfl
theorem s_shortest (hn : 13 ≤ n) (h : VW w ws) (wf : Wf S) : run G fu n 57 [dv w ws] S = .ok (dt (shortT ws)) S := by
  have := h.w1
  have := h.w4
  have := h.n1
  have := h.n9
  have he := h.el
  refine run_wp G57 (by omega) rfl ?_
  simp only [c57]
  simp_arith [s_needView, s_shortestOf]
/-! ### what is lacking -/
def dropAll (l : List (List Nat)) : List (List Nat) → List (List Nat)
  | [] => l
  | x :: p => dropAll (l.erase x) p
theorem dropAll_snoc {x : List Nat} : ∀ {p l : List (List Nat)}, dropAll l (p ++ [x]) = (dropAll l p).erase x
  | [], l => rfl
  | y :: p, l => dropAll_snoc (p := p)
theorem count_dropAll {x : List Nat} : ∀ {p l : List (List Nat)}, (dropAll l p).count x = l.count x - p.count x
  | [], l => by simp [dropAll]
  | y :: p, l => by
    rw [dropAll, count_dropAll, List.count_erase, List.count_cons]
    omega
theorem dropAll_len : ∀ {p l : List (List Nat)}, (dropAll l p).length ≤ l.length
  | [], l => Nat.le_refl _
  | y :: p, l => Nat.le_trans (dropAll_len (p := p)) (List.length_erase_le ..)
theorem plc_map {x : List Nat} {l : List (List Nat)} (hl : l.length ≤ 16000000) (h : x ∈ l) : plcD (l.map dt) (dt x) = some (l.idxOf x) := by
  have o := oks (n := 0) (l := l.map dt) fun d hd => by
    obtain ⟨t, _, rfl⟩ := List.mem_map.mp hd
    exact ok_str
  have c : ((dt x).pure && D.pures (l.map dt) && decide ((PyData.depth (dt x).py) ≤ 30) && decide (PyData.depthAll (D.pys (l.map dt)) ≤ 30) && okLen (l.map dt).length) = true := by
    rw [sims_pures o.1, decide_eq_true (Nat.le_trans o.2 (by decide)), List.length_map, okLen_le' hl]
    rfl
  unfold plcD
  rw [if_pos c, pys_strs, List.findIdx?_map]
  clear c o hl
  induction l with
  | nil => cases h
  | cons y l ih =>
    rw [List.findIdx?_cons, List.idxOf_cons]
    have e1 : ((fun y => PyData.eqv y (dt x).py) ∘ fun t => PyData.str (tx t)) y = (y == x) := by
      show PyData.eqv (dt y).py (dt x).py = (y == x)
      rw [Bool.eq_iff_iff, eqv_iff (x := dt y) (y := dt x) rfl rfl, dt_inj, beq_iff_eq]
    rw [e1]
    by_cases e : y = x
    · subst e
      simp
    · have e2 : (y == x) = false := by simpa using e
      rw [e2]
      rw [ih ((List.mem_cons.mp h).resolve_left fun z => e z.symm)]
      rfl
theorem eraseIdx_mapD {α β : Type} (f : α → β) (l : List α) (i : Nat) : (l.map f).eraseIdx i = (l.eraseIdx i).map f := by
  rw [List.eraseIdx_eq_take_drop_succ, List.eraseIdx_eq_take_drop_succ, List.map_append, List.map_take, List.map_drop]
theorem a_removeT {x : List Nat} {l : List (List Nat)} {k : Nat} (g : S[k]? = some (.lst (l.map dt))) (hl : l.length ≤ 16000000) (h : x ∈ l) : Mt.app .remove (.loc k) [dt x] S = .ok .non (S.set k (.lst ((l.erase x).map dt))) := by
  show (match S[k]? with
    | some (.lst l) => match plcD l (dt x) with
      | some j => R.ok D.non (S.set k (.lst (l.eraseIdx j)))
      | none => .bad
    | _ => .bad) = _
  rw [g]
  dsimp only
  rw [plc_map hl h]
  dsimp only
  rw [List.erase_eq_eraseIdx_of_idxOf rfl, eraseIdx_mapD]
def lackT (w : Nat) (ws : List (List Nat)) : List (List Nat) := sortT (dropAll (wins w (shortT ws)) ws)
theorem s_lacking (hn : 13 ≤ n) (h : VW w ws) (wf : Wf S) : run G fu n 56 [dv w ws] S = .ok (.lst ((lackT w ws).map dt)) S := by
  have := h.w1
  have := h.w4
  have := h.n1
  have := h.n9
  have he := h.el
  obtain ⟨-, l1⟩ := short_len (w := w) h.n1 he
  have l3 : ws.length * w ≤ 9 * 4 := Nat.mul_le_mul (by omega) h.w4
  have l4 := wins_len (w := w) (a := shortT ws)
  refine run_wp G56 (by omega) rfl ?_
  simp only [c56]
  simp_arith [s_needView, s_shortestOf, s_windows]
  refine wp_forI (enc := dt) (xs := ws) (fun p env S' => ∃ o, env = [some (dv w ws), some (.loc S.length), o] ∧ S' = S ++ [.lst ((dropAll (wins w (shortT ws)) p).map dt)]) ⟨none, rfl, rfl⟩ (fun _ _ _ _ => good_none _) ?_ ?_
  · rintro p x r env S' hp ⟨o, rfl, rfl⟩
    refine ⟨_, rfl, ?_⟩
    have hm : x ∈ dropAll (wins w (shortT ws)) p := by
      rw [← List.count_pos_iff, count_dropAll]
      have h1 := short_has h.w1 h.n1 he x
      have hc : ws.count x = p.count x + (r.count x + 1) := by
        conv => lhs; rw [hp]
        rw [List.count_append, List.count_cons_self]
      omega
    have dl := dropAll_len (p := p) (l := wins w (shortT ws))
    have hr := a_removeT (S := S ++ [.lst ((dropAll (wins w (shortT ws)) p).map dt)]) (k := S.length) g_at (by omega) hm
    simp_arith [hr]
    exact ⟨_, rfl, by rw [dropAll_snoc]⟩
  · rintro env S' ⟨o, rfl, rfl⟩
    have dl := dropAll_len (p := ws) (l := wins w (shortT ws))
    simp_arith [lackT]
/-! ### within -/
theorem ge_int {i j : Nat} : cmA .ge (.int (i : Int)) (.int (j : Int)) S = .ok (.bl (decide (j ≤ i))) S := by
  rw [q_ge]
  congr 2
  rw [decide_eq_decide]
  omega
def withinT (w : Nat) (ws : List (List Nat)) (a : List Nat) : Bool := ws.all fun x => decide (ws.count x ≤ (wins w a).count x)
theorem within_iff {w : Nat} {ws : List (List Nat)} {a : List Nat} : withinT w ws a = true ↔ Has w ws a := by
  unfold withinT
  rw [List.all_eq_true]
  constructor
  · intro h x
    by_cases c : x ∈ ws
    · exact of_decide_eq_true (h x c)
    · rw [List.count_eq_zero_of_not_mem c]
      exact Nat.zero_le _
  · intro h x hx
    exact decide_eq_true (h x)
theorem s_within (hn : 4 ≤ n) (h : VW w ws) (ha : T3 a) (h1 : 1 ≤ a.length) (h2 : a.length ≤ 60) (wf : Wf S) : run G fu n 62 [dt a, dv w ws] S = .ok (.bl (withinT w ws a)) S := by
  have := h.w1
  have := h.w4
  have := h.n1
  have := h.n9
  refine run_wp G62 (by omega) rfl ?_
  simp only [c62]
  have hl : run G fu (n - 1) 6 [dt a, .int 1, .int 60] S = .ok (.bl true) S := s_letters (low := 1) (most := 60) (by omega) ha h1 h2 (by decide)
  simp_arith [hl, s_needView, s_windows]
  refine wp_mapI (enc := dt) (xs := ws) (fun x => .bl (decide (ws.count x ≤ (wins w a).count x))) (good_none _) (by omega) (fun x hx => ⟨_, rfl, ?_⟩) ?_
  · simp_arith [m_tcnt, m_lcnt, ge_int]
  · simp_arith [b_allM, withinT]
end
end SV
/-! SvM4: what is lacking (law k13), the least by all texts (law k15). -/
namespace SV
open PySem
theorem VW.of {w : Nat} {ls : List (List Nat)} (w1 : 1 ≤ w) (w4 : w ≤ 4) (n1 : 1 ≤ ls.length) (n9 : ls.length ≤ 9) (t : ∀ x ∈ ls, T3 x ∧ x.length = w) : VW w (sortT ls) where
  w1 := w1
  w4 := w4
  n1 := by rw [sortT_len]; exact n1
  n9 := by rw [sortT_len]; exact n9
  t3 := fun x hx => (t x (mem_sortT.mp hx)).1
  el := fun x hx => (t x (mem_sortT.mp hx)).2
  so := sortT_sorted ls
theorem perm_drop {l ws : List (List Nat)} (h : Cnt ws l) : (dropAll l ws ++ ws).Perm l := by
  rw [List.perm_iff_count]
  intro x
  rw [List.count_append, count_dropAll]
  have := h x
  omega
theorem lack_sorted {w : Nat} {ws : List (List Nat)} : sortT (lackT w ws) = lackT w ws := sortT_self (sortT_sorted _)
theorem lack_windows {w : Nat} {ws : List (List Nat)} (h : VW w ws) : sortT (lackT w ws ++ ws) = seenT w (shortT ws) := by
  unfold seenT
  refine sortT_eq (List.Perm.trans ?_ (perm_drop (short_has h.w1 h.n1 h.el)))
  exact (sortT_perm _).append_right ws
theorem short_T3 {w : Nat} {ws : List (List Nat)} (h : VW w ws) : T3 (shortT ws) := by
  have key : ∀ (m : Nat) (ws : List (List Nat)) (e : List Nat), ws.length = m → (∀ x ∈ ws, T3 x) → T3 (restT m ws e).2 := by
    intro m
    induction m with
    | zero =>
      intro ws e _ _ c hc
      cases hc
    | succ m ih =>
      intro ws e hm ht
      have hmem := minP_mem (l := (setT ws).map fun x => ((restT m (ws.erase x) x).1 + shiftT e x, x.drop (x.length - shiftT e x) ++ (restT m (ws.erase x) x).2)) (fun z => setT_pos hm (List.map_eq_nil_iff.mp z))
      rw [← restT] at hmem
      obtain ⟨x, hxs, e1⟩ := List.mem_map.mp hmem
      have hxm := mem_setT.mp hxs
      rw [← e1]
      exact ((ht x hxm).drop _).app (ih (ws.erase x) x (by rw [List.length_erase_of_mem hxm, hm]; rfl) fun y hy => ht y (List.mem_of_mem_erase hy))
  obtain ⟨x, hxm, e⟩ := short_row (w := w) h.n1
  unfold shortT
  rw [e]
  exact (h.t3 x hxm).app (key _ _ _ (List.length_erase_of_mem hxm) fun y hy => h.t3 y (List.mem_of_mem_erase hy))
theorem short_ge {w : Nat} {ws : List (List Nat)} (h : VW w ws) : w ≤ (shortT ws).length := by
  rw [(short_len h.n1 h.el).1]
  omega
theorem lack_nil {w : Nat} {ws : List (List Nat)} (h : VW w ws) : lackT w ws = [] ↔ allT w ws ≠ [] := by
  have hp := perm_drop (short_has h.w1 h.n1 h.el)
  have hl := hp.length_eq
  rw [List.length_append, wins_len] at hl
  have ll : (lackT w ws).length = (dropAll (wins w (shortT ws)) ws).length := sortT_len _
  have hg := short_ge h
  have := h.w1
  have := h.n1
  constructor
  · intro e
    rw [e] at ll
    have e2 : dropAll (wins w (shortT ws)) ws = [] := List.length_eq_zero_iff.mp ll.symm
    rw [e2] at hp hl
    have : shortT ws ∈ allT w ws := (mem_allT h.w1 h.so).mpr ⟨short_T3 h, by simp at hl; omega, hp.symm⟩
    intro z
    rw [z] at this
    cases this
  · intro ne
    obtain ⟨l, hm⟩ := List.exists_mem_of_ne_nil _ ne
    obtain ⟨-, h2, h3⟩ := (mem_allT h.w1 h.so).mp hm
    have hh : Has w ws l := fun x => Nat.le_of_eq (h3.count_eq x).symm
    have := ltP_false.mp (short_least h.w1 h.n1 h.el hh)
    dsimp only at this
    refine List.length_eq_zero_iff.mp ?_
    rw [ll]
    omega
end SV
/-! SvS7: what the laws draw. -/
namespace SV
open PySem
section
variable {α : Type}
/-- a comprehension that changes cells -/
theorem wp_lcS {g : Option (Nat × Cell)} {st : D → Option Env} {Γ : Nat → List D → Store → R D} {fe : Env → Store → R D} {enc : α → D} {xs : List α} {S : Store} {Q : D → Store → Prop} {E : Nat → Store → Prop} {t : Tag Q E} (I : List α → List D → Store → Prop) (h0 : I [] [] S) (hl : xs.length ≤ 16000000)
    (hg : ∀ p ds S, I p ds S → Good g S)
    (step : ∀ p x r ds S, xs = p ++ x :: r → I p ds S → ∃ env, st (enc x) = some env ∧ Wp (fe env S) (fun d S' => I (p ++ [x]) (ds ++ [d]) S') (fun _ _ => False) .mk)
    (last : ∀ ds S, I xs ds S → Q (.lst ds) S) : Wp (lcR g st (evc Γ .none) fe (xs.map enc) S) Q E t := by
  have key : ∀ (r p : List α) (ds : List D) (S : Store), xs = p ++ r → I p ds S → ∃ es S', lcLoop g st (evc Γ .none) fe (r.map enc) S = .ok es S' ∧ I xs (ds ++ es) S' := by
    intro r
    induction r with
    | nil =>
      intro p ds S e h
      unfold lcLoop
      rw [List.map_nil]
      dsimp only
      rw [if_pos (hg _ _ _ h)]
      rw [List.append_nil] at e
      subst e
      exact ⟨[], S, rfl, by simpa using h⟩
    | cons x r ih =>
      intro p ds S e h
      rw [List.map_cons]
      unfold lcLoop
      rw [if_pos (hg _ _ _ h)]
      obtain ⟨env, h1, h2⟩ := step p x r ds S e h
      rw [h1]
      dsimp only
      rw [ec_none]
      dsimp only [R.nox_ok, R.bind_ok]
      cases q : fe env S with
      | bad =>
        rw [q] at h2
        exact h2.elim
      | exc c S' =>
        rw [q] at h2
        exact h2.elim
      | ok d S' =>
        rw [q] at h2
        obtain ⟨es, S2, h3, h4⟩ := ih (p ++ [x]) (ds ++ [d]) S' (by simp [e]) h2
        dsimp only [R.nox_ok, R.bind_ok]
        rw [h3]
        exact ⟨d :: es, S2, rfl, by simpa using h4⟩
  obtain ⟨es, S', h1, h2⟩ := key xs [] [] S rfl h0
  unfold lcR
  rw [if_pos (okLen_le' (by rw [List.length_map]; exact hl)), h1]
  show Wp (R.ok (D.lst es) S') Q E t
  rw [wp_ok]
  exact last es S' (by simpa using h2)
/-- .. over numbers, texts for results -/
theorem wp_lcST {st : D → Option Env} {Γ : Nat → List D → Store → R D} {fe : Env → Store → R D} {m : Nat} {S : Store} {Q : D → Store → Prop} {E : Nat → Store → Prop} {t : Tag Q E} (P : List Nat → Prop) (J : Nat → Store → Prop) (h0 : J 0 S) (hl : m ≤ 16000000)
    (step : ∀ i S, i < m → J i S → ∃ env, st (.int (i : Int)) = some env ∧ Wp (fe env S) (fun d S' => ∃ x, d = dt x ∧ P x ∧ J (i + 1) S') (fun _ _ => False) .mk)
    (last : ∀ (ls : List (List Nat)) S, ls.length = m → (∀ x ∈ ls, P x) → J m S → Q (.lst (ls.map dt)) S) : Wp (lcR none st (evc Γ .none) fe (rngD 0 m) S) Q E t := by
  refine wp_lcS (enc := fun (i : Nat) => .int (0 + (i : Int))) (xs := List.range m) (fun p ds S => ∃ ls : List (List Nat), ds = ls.map dt ∧ ls.length = p.length ∧ (∀ x ∈ ls, P x) ∧ J p.length S) ⟨[], rfl, rfl, by simp, h0⟩ (by rw [List.length_range]; exact hl) (fun _ _ _ _ => good_none _) ?_ ?_
  · rintro p x r ds S hp ⟨ls, rfl, e1, e2, e3⟩
    have hl : (List.range m).length = p.length + (r.length + 1) := by rw [hp]; simp
    rw [List.length_range] at hl
    have hx : x = p.length := by
      have h1 : (List.range m)[p.length]? = some x := by rw [hp]; simp
      rw [List.getElem?_range (by omega)] at h1
      exact (Option.some.inj h1).symm
    subst hx
    obtain ⟨env, h1, h2⟩ := step p.length S (by omega) e3
    refine ⟨env, by rw [show (0 : Int) + (p.length : Int) = (p.length : Int) by omega]; exact h1, wp_imp h2 ?_⟩
    rintro d S' ⟨x, rfl, hx, hj⟩
    refine ⟨ls ++ [x], by simp, by simp [e1], fun y hy => ?_, by simpa using hj⟩
    rcases List.mem_append.mp hy with hy | hy
    · exact e2 y hy
    · rw [List.mem_singleton] at hy
      exact hy ▸ hx
  · rintro ds S ⟨ls, rfl, e1, e2, e3⟩
    rw [List.length_range] at e1 e3
    exact last ls S e1 e2 e3
end
theorem fin_ex (n : Nat) (d : D) (S : Store) : ∃ S', fin n (.ok d S) = .ok d S' := by
  by_cases c : (D.lo n d && (S.take n).all (Cell.lo n)) = true
  · exact ⟨S.take n, if_pos c⟩
  · exact ⟨S, if_neg c⟩
theorem los_ints {n : Nat} : ∀ k, D.los n (List.replicate k (.int 0)) = true
  | 0 => rfl
  | k + 1 => by
    rw [List.replicate_succ]
    unfold D.los
    rw [los_ints]
    rfl
theorem flat_tw (k : Nat) : Flat (tw k) := fun n => los_ints k
theorem wf_tw (k : Nat) : Wf [tw k] := by
  unfold Wf tw
  simp [Cell.lo, los_ints]
theorem Wf.tw {k k' : Nat} {Z : Store} (w : Wf (tw k :: Z)) : Wf (tw k' :: Z) := w.set (k := 0) (flat_tw k')
section
variable {Z T : Store} {c c' : Cell} {k : Nat}
theorem g_tw : (tw k :: (Z ++ c :: T))[Z.length + 1]? = some c := by simp
theorem s_tw : (tw k :: (Z ++ c :: T)).set (Z.length + 1) c' = tw k :: (Z ++ c' :: T) := by simp
end
theorem plain_of {G : Nat → Option Fd} {fu n i : Nat} {c : Fd} {ns : List Int} (h : G i = some c) (hn : 1 ≤ n) (hl : c.ar = 1) (k : Wp (xcs (run G fu (n - 1)) fu c.body ([D.scr ns].map some ++ List.replicate (c.sl - 1) none) []) (fun fl _ => fl = .ret (.bl true)) (fun _ _ => False) .mk) :
    ∃ S', run G fu n i [.scr ns] [] = .ok (.bl true) S' := by
  have e := run_wpQ (fu := fu) (ds := [.scr ns]) (S := []) (Q := fun d _ => d = .bl true) (E := fun _ _ => False) (t := .mk) h hn (by rw [hl]; rfl) (wp_imp k fun fl S e => by
    subst e
    obtain ⟨S', e⟩ := fin_ex 0 (.bl true) S
    rw [show toD (R.ok (Fl.ret (.bl true)) S) = .ok (.bl true) S from rfl, show ([] : Store).length = 0 from rfl, e, wp_ok])
  cases q : run G fu n i [.scr ns] [] with
  | ok d S =>
    rw [q, wp_ok] at e
    exact ⟨S, by rw [e]⟩
  | exc c S =>
    rw [q, wp_exc] at e
    exact e.elim
  | bad =>
    rw [q] at e
    exact e.elim
local macro_rules
  | `(tactic| simp_arith) => `(tactic| simp -dsimp (disch := first | assumption | omega | (simp only [rv_append, rv_extend, rv_pop, rv_popAt, rv_remove, rv_get, rv_strip, rv_join, rv_split, rv_find, rv_scount, rv_sindex, rv_tcount, rv_tindex, rv_lcount, rv_lindex, g_at, g_at1, g_at2, g_atS, isLst_some, isDct_some, List.getElem?_cons_zero, List.getElem?_cons_succ, List.length_cons, List.length_nil, List.length_map, List.length_append, List.length_take, List.length_drop, List.length_range, List.length_dropLast, lo_strsL, lo_strsT, lo_dt, lo_int, lo_bl, lo_non, lo_tup, lo_lst, los_cons, los_nil, los_dts, Bool.and_true, Bool.and_self] <;> omega) | fail) only [↓wp_bind, ↓w_var, ↓w_cst, ↓w_glb, ↓w_op, ↓w_neg, ↓w_cmp, ↓wp_ift, ↓wp_iff, ↓wp_ifd1, ↓wp_ifd0, ↓wp_ifn1, ↓wp_ifn0, ↓w_chn, ↓w_not, ↓w_and, ↓w_or, ↓w_ite, ↓w_tup, ↓w_lst, ↓w_idx, ↓w_sl, ↓w_call, ↓w_bi, ↓w_mth, ↓w_lc, ↓w_cell, ↓w_snap, ↓w_rev, ↓w_dict, ↓w_sset, ↓w_lset, ↓w_cn, ↓w_cs, ↓w_nil, ↓w_cons, ↓w_on, ↓w_os, ↓w_ie, ↓w_i1, ↓w_i2, ↓w_xnil, ↓w_xcons, ↓w_pass, ↓w_expr, ↓w_set, ↓w_setT, ↓w_par, ↓w_put, ↓w_ret, ↓w_retN, ↓w_ifs, ↓w_for, ↓w_whl, ↓w_brk, ↓w_cnt, ↓w_two, ↓sq_nx, ↓sq_ret, ↓sq_bk, ↓sq_ct, wp_ok, wp_exc, wp_mth, slotR_some, negR_int, intO_int, List.getD_cons_zero, List.getD_cons_succ, List.set_cons_succ, List.set_cons_zero, List.map_cons, List.map_nil, List.length_cons, List.length_nil, List.replicate_succ, List.replicate_zero, List.cons_append, List.nil_append, Nat.reduceAdd, Nat.reduceSub, ret_ret, ret_nx, fin_self, seqR_ok, cellR_lst, p_add, p_sub, p_mul, p_mul', p_mod, q_lt, q_le, q_gt, q_ge, rngR_int, rng2R_int, t_add, t_len, t_cut, t_at, t_eq, t_ne, t_isStr, i_isInt, i_isBool, nc_add, nc_sub, nc_p1, nc_p2, nc_p3, nc_p4, nc_sub1, nc_sub2, nc_1add, nc_mul, Int.toNat_natCast, fin_t, cut_to, cut_from, cut_mid, decide_true, decide_false, Bool.not_true, Bool.not_false, wp_ift, wp_iff, wp_ifd1, wp_ifd0, wp_ifn1, wp_ifn0, b_sortT, b_sortTt, b_tuple_lst, b_tuple_tup, b_list_lst, b_list_tup, b_len_lst, b_len_tup, ss_lst, ss_tup, ls_lst, p_cat, p_catT, c_tup, c_lst, x_tup0, x_tup1, x_lst0, it_lst, it_tup, ← List.map_take, ← List.map_drop, ← List.map_append, List.length_append, List.length_map, List.append_assoc, Nat.zero_add, Nat.add_zero, g_at, g_at1, g_at2, s_at, s_at1, s_at2, g_atS, s_atS, g_set, g_setA, s_set, s_setA, isLst_some, isDct_some, rv_append, rv_extend, rv_pop, rv_popAt, rv_remove, rv_get, rv_strip, rv_join, rv_split, rv_find, rv_scount, rv_sindex, rv_tcount, rv_tindex, rv_lcount, rv_lindex, a_append, a_extend, appendC_some, extendC_some, a_pop, popC_some, a_popAt, popAtC_some, snap_c, snapC_lst, it_c, itC_some, len_c, lenC_some, List.getElem?_cons_zero, List.getElem?_cons_succ, q_tnil, sort_c, sortC_T, tup_c, tupC_some, list_c, listC_lst, dec_le, dec_lt, dec_eq, pc_fold, and_true, true_and, dr_m1, lt_m1, i_eqZ, t_ltq, t_leq])
  | `(tactic| simp_arith [$xs,*]) => `(tactic| simp -dsimp (disch := first | assumption | omega | (simp only [rv_append, rv_extend, rv_pop, rv_popAt, rv_remove, rv_get, rv_strip, rv_join, rv_split, rv_find, rv_scount, rv_sindex, rv_tcount, rv_tindex, rv_lcount, rv_lindex, g_at, g_at1, g_at2, g_atS, isLst_some, isDct_some, List.getElem?_cons_zero, List.getElem?_cons_succ, List.length_cons, List.length_nil, List.length_map, List.length_append, List.length_take, List.length_drop, List.length_range, List.length_dropLast, lo_strsL, lo_strsT, lo_dt, lo_int, lo_bl, lo_non, lo_tup, lo_lst, los_cons, los_nil, los_dts, Bool.and_true, Bool.and_self] <;> omega) | fail) only [↓wp_bind, ↓w_var, ↓w_cst, ↓w_glb, ↓w_op, ↓w_neg, ↓w_cmp, ↓wp_ift, ↓wp_iff, ↓wp_ifd1, ↓wp_ifd0, ↓wp_ifn1, ↓wp_ifn0, ↓w_chn, ↓w_not, ↓w_and, ↓w_or, ↓w_ite, ↓w_tup, ↓w_lst, ↓w_idx, ↓w_sl, ↓w_call, ↓w_bi, ↓w_mth, ↓w_lc, ↓w_cell, ↓w_snap, ↓w_rev, ↓w_dict, ↓w_sset, ↓w_lset, ↓w_cn, ↓w_cs, ↓w_nil, ↓w_cons, ↓w_on, ↓w_os, ↓w_ie, ↓w_i1, ↓w_i2, ↓w_xnil, ↓w_xcons, ↓w_pass, ↓w_expr, ↓w_set, ↓w_setT, ↓w_par, ↓w_put, ↓w_ret, ↓w_retN, ↓w_ifs, ↓w_for, ↓w_whl, ↓w_brk, ↓w_cnt, ↓w_two, ↓sq_nx, ↓sq_ret, ↓sq_bk, ↓sq_ct, wp_ok, wp_exc, wp_mth, slotR_some, negR_int, intO_int, List.getD_cons_zero, List.getD_cons_succ, List.set_cons_succ, List.set_cons_zero, List.map_cons, List.map_nil, List.length_cons, List.length_nil, List.replicate_succ, List.replicate_zero, List.cons_append, List.nil_append, Nat.reduceAdd, Nat.reduceSub, ret_ret, ret_nx, fin_self, seqR_ok, cellR_lst, p_add, p_sub, p_mul, p_mul', p_mod, q_lt, q_le, q_gt, q_ge, rngR_int, rng2R_int, t_add, t_len, t_cut, t_at, t_eq, t_ne, t_isStr, i_isInt, i_isBool, nc_add, nc_sub, nc_p1, nc_p2, nc_p3, nc_p4, nc_sub1, nc_sub2, nc_1add, nc_mul, Int.toNat_natCast, fin_t, cut_to, cut_from, cut_mid, decide_true, decide_false, Bool.not_true, Bool.not_false, wp_ift, wp_iff, wp_ifd1, wp_ifd0, wp_ifn1, wp_ifn0, b_sortT, b_sortTt, b_tuple_lst, b_tuple_tup, b_list_lst, b_list_tup, b_len_lst, b_len_tup, ss_lst, ss_tup, ls_lst, p_cat, p_catT, c_tup, c_lst, x_tup0, x_tup1, x_lst0, it_lst, it_tup, ← List.map_take, ← List.map_drop, ← List.map_append, List.length_append, List.length_map, List.append_assoc, Nat.zero_add, Nat.add_zero, g_at, g_at1, g_at2, s_at, s_at1, s_at2, g_atS, s_atS, g_set, g_setA, s_set, s_setA, isLst_some, isDct_some, rv_append, rv_extend, rv_pop, rv_popAt, rv_remove, rv_get, rv_strip, rv_join, rv_split, rv_find, rv_scount, rv_sindex, rv_tcount, rv_tindex, rv_lcount, rv_lindex, a_append, a_extend, appendC_some, extendC_some, a_pop, popC_some, a_popAt, popAtC_some, snap_c, snapC_lst, it_c, itC_some, len_c, lenC_some, List.getElem?_cons_zero, List.getElem?_cons_succ, q_tnil, sort_c, sortC_T, tup_c, tupC_some, list_c, listC_lst, dec_le, dec_lt, dec_eq, pc_fold, and_true, true_and, dr_m1, lt_m1, i_eqZ, t_ltq, t_leq, $xs,*])
section
variable {fu n : Nat} {ns : List Int} {k : Nat} {Z : Store} {Q : D → Store → Prop} {E : Nat → Store → Prop} {t : Tag Q E}
theorem w_draw (m : Nat) (h : ns.length ≤ 63) (hn : 3 ≤ n) (hm : 0 < m) (hk : k < 100000) (c : ∀ r : Nat, r < m → Q (.int (r : Int)) (tw (k + 1) :: Z)) : Wp (run G fu n 2 [.scr ns, .loc 0, .int (m : Int)] (tw k :: Z)) Q E t := by
  obtain ⟨n, rfl⟩ := Nat.exists_eq_add_of_le' hn
  obtain ⟨r, hr, e⟩ := draw_some (fu := fu) (n := n) (ns := ns) (k := k) (m := m) (Z := Z) h hm hk
  exact wp_of e (c r hr)
theorem w_like {low M : Nat} (h : ns.length ≤ 63) (hn : 6 ≤ n) (hl : 2 ≤ low) (hl2 : low ≤ 4) (hM : 6 ≤ M) (hM2 : M ≤ 40) (hk : k + 1000 < 100000) (hfu : 1000 < fu)
    (c : ∀ (l : List Nat) (w k' : Nat), T3 l → M - 2 ≤ l.length → l.length ≤ M → 2 ≤ w → w ≤ 4 → k' ≤ k + 1000 → Q (.tup [dt l, .int (w : Int)]) (tw k' :: Z)) : Wp (run G fu n 5 [.scr ns, .loc 0, .int (low : Int), .int (M : Int)] (tw k :: Z)) Q E t := by
  obtain ⟨n, rfl⟩ := Nat.exists_eq_add_of_le' hn
  obtain ⟨l, w, k', h1, h2, h3, h4, h5, h6, e⟩ := r_like (fu := fu) (n := n) (ns := ns) (k := k) (Z := Z) (low := low) (M := M) h hl hl2 hM hM2 hk hfu
  exact wp_of e (c l w k' h1 h2 h3 h4 h5 h6)
theorem w_text (low most : Nat) (h : ns.length ≤ 63) (hn : 5 ≤ n) (hm : low ≤ most) (hm2 : most ≤ 60) (hk : k + 100 < 100000)
    (c : ∀ (l : List Nat) (k' : Nat), T3 l → low ≤ l.length → l.length ≤ most → k' ≤ k + 100 → Q (dt l) (tw k' :: Z)) : Wp (run G fu n 4 [.scr ns, .loc 0, .int (low : Int), .int (most : Int)] (tw k :: Z)) Q E t := by
  obtain ⟨n, rfl⟩ := Nat.exists_eq_add_of_le' hn
  obtain ⟨l, k', h1, h2, h3, h4, e⟩ := r_text (fu := fu) (n := n) (ns := ns) (k := k) (Z := Z) (low := low) (most := most) h hm hm2 hk
  exact wp_of e (c l k' h1 h2 h3 h4)
/-- l[i] = x in a cell -/
theorem put_lst {l : List (List Nat)} {x : List Nat} {i j : Nat} {S : Store} (g : S[j]? = some (.lst (l.map dt))) (hi : i < l.length) : putD (.loc j) (.int (i : Int)) (dt x) S = .ok () (S.set j (.lst ((l.set i x).map dt))) := by
  show (match S[j]? with
    | some (.lst l) => match L2.ixN l.length (i : Int) with
      | some m => R.ok () (S.set j (.lst (l.set m (dt x))))
      | none => .bad
    | some (.dct l) => if okIn l (.int (i : Int)) && decide (l.length < 16000000) then .ok () (S.set j (.dct (dPut l (.int (i : Int)) (dt x)))) else .bad
    | _ => .bad) = _
  rw [g]
  have e : L2.ixN (l.map dt).length (i : Int) = some i := by
    rw [List.length_map]
    unfold L2.ixN
    rw [if_pos (by omega), if_pos (by omega)]
    rfl
  show (match L2.ixN (l.map dt).length (i : Int) with
      | some m => R.ok () (S.set j (.lst ((l.map dt).set m (dt x))))
      | none => .bad) = _
  rw [e]
  dsimp only
  rw [List.map_set]
theorem fm3 {i : Nat} (h : i < 3) : (i : Int).fmod 3 = (i : Int) := by
  rw [Int.fmod_eq_emod_of_nonneg _ (by decide)]
  omega
theorem lo_dv {n w : Nat} {ws : List (List Nat)} : D.lo n (dv w ws) = true := by
  rw [lo_tup, los_cons, los_cons, los_nil, lo_strsT, lo_int]
  rfl
theorem w_view (spoil most : Nat) (h : ns.length ≤ 63) (hn : 7 ≤ n) (hs : spoil < 3) (hm : 1 ≤ most) (hm2 : most ≤ 9) (hk : k + 1000 < 100000) (wf : Wf (tw k :: Z))
    (c : ∀ (w : Nat) (ws : List (List Nat)) (k' : Nat), VW w ws → (spoil ≠ 2 → 2 ≤ w) → ws.length ≤ most → k' ≤ k + 1000 → Q (dv w ws) (tw k' :: Z)) : Wp (run G fu n 52 [.scr ns, .loc 0, .int (spoil : Int), .int (most : Int)] (tw k :: Z)) Q E t := by
  refine run_wpQ G52 (by omega) rfl ?_
  simp only [c52]
  simp_arith [i_neZ]
  refine wp_imp (Q' := fun d S => ∃ w : Nat, d = .int (w : Int) ∧ S = tw (k + 1) :: Z ∧ 1 ≤ w ∧ w ≤ 4 ∧ (spoil ≠ 2 → 2 ≤ w)) (t' := .mk) ?_ ?_
  · by_cases c2 : (spoil : Int) = 2
    · simp_arith [c2]
      refine w_draw 4 h (by omega) (by decide) (by omega) fun r hr => ?_
      simp_arith
      exact ⟨1 + r, rfl, by omega, by omega, by omega⟩
    · simp_arith [c2]
      refine w_draw 3 h (by omega) (by decide) (by omega) fun r hr => ?_
      simp_arith
      exact ⟨2 + r, by rw [show (2 : Int) + (r : Int) = ((2 + r : Nat) : Int) by omega], by omega, by omega, by omega⟩
  · rintro d S ⟨w, rfl, rfl, w1, w4, w2⟩
    simp_arith
    refine w_text w (w + most - 1) h (by omega) (by omega) (by omega) (by omega) fun a k1 t1 a1 a2 hk1 => ?_
    simp_arith [s_seen2, fm3 hs]
    have al := seenT_len (w := w) (a := a)
    have e0 : spoil = spoil - 0 := rfl
    refine wp_forN0 (fun i env S' => ∃ o k' ls, env = [some (.scr ns), some (.loc 0), some (.int (spoil : Int)), some (.int (most : Int)), some (.int (w : Int)), some (.loc (Z.length + 1)), o] ∧ S' = tw k' :: (Z ++ [.lst (ls.map dt)]) ∧ ls.length = a.length + 1 - w ∧ (∀ x ∈ ls, T3 x ∧ x.length = w) ∧ k' ≤ k1 + 200 * i)
      ⟨none, k1, seenT w a, rfl, rfl, al, fun x hx => ?_, by omega⟩ ?_ ?_
    · have hx := mem_sortT.mp hx
      unfold wins at hx
      obtain ⟨i, hi, rfl⟩ := List.mem_map.mp hx
      have := List.mem_range.mp hi
      unfold pc
      exact ⟨(t1.drop _).take _, by rw [List.length_take, List.length_drop]; omega⟩
    · rintro i env S' hi ⟨o, k', ls, rfl, rfl, l1, l2, hk'⟩
      refine ⟨_, rfl, ?_⟩
      simp_arith
      refine w_text w w h (by omega) (by omega) (by omega) (by omega) fun b k2 t2 b1 b2 hk2 => ?_
      simp_arith [g_tw]
      refine w_draw ls.length h (by omega) (by omega) (by omega) fun r hr => ?_
      have hp := put_lst (x := b) (S := tw (k2 + 1) :: (Z ++ [.lst (ls.map dt)])) (j := Z.length + 1) g_tw hr
      rw [s_tw] at hp
      simp_arith [hp]
      refine ⟨_, k2 + 1, ls.set r b, rfl, rfl, by simp [l1], fun x hx => ?_, by omega⟩
      rcases List.mem_or_eq_of_mem_set hx with hx | rfl
      · exact l2 x hx
      · exact ⟨t2, by omega⟩
    · rintro env S' ⟨o, k', ls, rfl, rfl, l1, l2, hk'⟩
      simp_arith [g_tw]
      refine wp_of (fin_more (S := tw k' :: Z) (g := [.lst (ls.map dt)]) wf.tw lo_dv) (c w (sortT ls) k' (.of w1 w4 (by omega) (by omega) l2) w2 (by rw [sortT_len]; omega) (by omega))
end
theorem eqv_bl {a b : Bool} : PyData.eqv (.bool a) (.bool b) = (a == b) := by
  unfold PyData.eqv
  cases a <;> cases b <;> rfl
theorem b_eqZ {a b : Bool} {S : Store} : cmA .eq (.bl a) (.bl b) S = .ok (.bl (a == b)) S := by
  have e : eqD (.bl a) (.bl b) S = some (PyData.eqv (.bool a) (.bool b)) := rfl
  show (match eqD (.bl a) (.bl b) S with | some c => R.ok (D.bl c) S | none => .bad) = _
  rw [e, eqv_bl]
theorem b_isListT {l : List (List Nat)} {S : Store} : Bi.isList.app [.lst (l.map dt)] S = .ok (.bl true) S := by
  have : (D.lst (l.map dt)).pure = true := sim_pure (ok_lst (n := 0) fun d hd => by
    obtain ⟨t, _, rfl⟩ := List.mem_map.mp hd
    exact ok_str).1
  show (if (D.lst (l.map dt)).pure = true then R.ok (D.bl (D.lst (l.map dt)).py.isList) S else .bad) = _
  rw [if_pos this]
  rfl
end SV
/-! SvS8: what the laws draw, the other mix. -/
namespace SV
open PySem
local macro_rules
  | `(tactic| simp_arith) => `(tactic| simp -dsimp (disch := first | assumption | omega | (simp only [rv_append, rv_extend, rv_pop, rv_popAt, rv_remove, rv_get, rv_strip, rv_join, rv_split, rv_find, rv_scount, rv_sindex, rv_tcount, rv_tindex, rv_lcount, rv_lindex, g_at, g_at1, g_at2, g_atS, isLst_some, isDct_some, List.getElem?_cons_zero, List.getElem?_cons_succ, List.length_cons, List.length_nil, List.length_map, List.length_append, List.length_take, List.length_drop, List.length_range, List.length_dropLast, lo_strsL, lo_strsT, lo_dt, lo_int, lo_bl, lo_non, lo_tup, lo_lst, los_cons, los_nil, los_dts, Bool.and_true, Bool.and_self] <;> omega) | fail) only [↓wp_bind, ↓w_var, ↓w_cst, ↓w_glb, ↓w_op, ↓w_neg, ↓w_cmp, ↓wp_ift, ↓wp_iff, ↓wp_ifd1, ↓wp_ifd0, ↓wp_ifn1, ↓wp_ifn0, ↓w_chn, ↓w_not, ↓w_and, ↓w_or, ↓w_ite, ↓w_tup, ↓w_lst, ↓w_idx, ↓w_sl, ↓w_call, ↓w_bi, ↓w_mth, ↓w_lc, ↓w_cell, ↓w_snap, ↓w_rev, ↓w_dict, ↓w_sset, ↓w_lset, ↓w_cn, ↓w_cs, ↓w_nil, ↓w_cons, ↓w_on, ↓w_os, ↓w_ie, ↓w_i1, ↓w_i2, ↓w_xnil, ↓w_xcons, ↓w_pass, ↓w_expr, ↓w_set, ↓w_setT, ↓w_par, ↓w_put, ↓w_ret, ↓w_retN, ↓w_ifs, ↓w_for, ↓w_whl, ↓w_brk, ↓w_cnt, ↓w_two, ↓sq_nx, ↓sq_ret, ↓sq_bk, ↓sq_ct, wp_ok, wp_exc, wp_mth, slotR_some, negR_int, intO_int, List.getD_cons_zero, List.getD_cons_succ, List.set_cons_succ, List.set_cons_zero, List.map_cons, List.map_nil, List.length_cons, List.length_nil, List.replicate_succ, List.replicate_zero, List.cons_append, List.nil_append, Nat.reduceAdd, Nat.reduceSub, ret_ret, ret_nx, fin_self, seqR_ok, cellR_lst, p_add, p_sub, p_mul, p_mul', p_mod, q_lt, q_le, q_gt, q_ge, rngR_int, rng2R_int, t_add, t_len, t_cut, t_at, t_eq, t_ne, t_isStr, i_isInt, i_isBool, nc_add, nc_sub, nc_p1, nc_p2, nc_p3, nc_p4, nc_sub1, nc_sub2, nc_1add, nc_mul, Int.toNat_natCast, fin_t, cut_to, cut_from, cut_mid, decide_true, decide_false, Bool.not_true, Bool.not_false, wp_ift, wp_iff, wp_ifd1, wp_ifd0, wp_ifn1, wp_ifn0, b_sortT, b_sortTt, b_tuple_lst, b_tuple_tup, b_list_lst, b_list_tup, b_len_lst, b_len_tup, ss_lst, ss_tup, ls_lst, p_cat, p_catT, c_tup, c_lst, x_tup0, x_tup1, x_lst0, it_lst, it_tup, ← List.map_take, ← List.map_drop, ← List.map_append, List.length_append, List.length_map, List.append_assoc, Nat.zero_add, Nat.add_zero, g_at, g_at1, g_at2, s_at, s_at1, s_at2, g_atS, s_atS, g_set, g_setA, s_set, s_setA, isLst_some, isDct_some, rv_append, rv_extend, rv_pop, rv_popAt, rv_remove, rv_get, rv_strip, rv_join, rv_split, rv_find, rv_scount, rv_sindex, rv_tcount, rv_tindex, rv_lcount, rv_lindex, a_append, a_extend, appendC_some, extendC_some, a_pop, popC_some, a_popAt, popAtC_some, snap_c, snapC_lst, it_c, itC_some, len_c, lenC_some, List.getElem?_cons_zero, List.getElem?_cons_succ, q_tnil, sort_c, sortC_T, tup_c, tupC_some, list_c, listC_lst, dec_le, dec_lt, dec_eq, pc_fold, and_true, true_and, dr_m1, lt_m1, i_eqZ, t_ltq, t_leq])
  | `(tactic| simp_arith [$xs,*]) => `(tactic| simp -dsimp (disch := first | assumption | omega | (simp only [rv_append, rv_extend, rv_pop, rv_popAt, rv_remove, rv_get, rv_strip, rv_join, rv_split, rv_find, rv_scount, rv_sindex, rv_tcount, rv_tindex, rv_lcount, rv_lindex, g_at, g_at1, g_at2, g_atS, isLst_some, isDct_some, List.getElem?_cons_zero, List.getElem?_cons_succ, List.length_cons, List.length_nil, List.length_map, List.length_append, List.length_take, List.length_drop, List.length_range, List.length_dropLast, lo_strsL, lo_strsT, lo_dt, lo_int, lo_bl, lo_non, lo_tup, lo_lst, los_cons, los_nil, los_dts, Bool.and_true, Bool.and_self] <;> omega) | fail) only [↓wp_bind, ↓w_var, ↓w_cst, ↓w_glb, ↓w_op, ↓w_neg, ↓w_cmp, ↓wp_ift, ↓wp_iff, ↓wp_ifd1, ↓wp_ifd0, ↓wp_ifn1, ↓wp_ifn0, ↓w_chn, ↓w_not, ↓w_and, ↓w_or, ↓w_ite, ↓w_tup, ↓w_lst, ↓w_idx, ↓w_sl, ↓w_call, ↓w_bi, ↓w_mth, ↓w_lc, ↓w_cell, ↓w_snap, ↓w_rev, ↓w_dict, ↓w_sset, ↓w_lset, ↓w_cn, ↓w_cs, ↓w_nil, ↓w_cons, ↓w_on, ↓w_os, ↓w_ie, ↓w_i1, ↓w_i2, ↓w_xnil, ↓w_xcons, ↓w_pass, ↓w_expr, ↓w_set, ↓w_setT, ↓w_par, ↓w_put, ↓w_ret, ↓w_retN, ↓w_ifs, ↓w_for, ↓w_whl, ↓w_brk, ↓w_cnt, ↓w_two, ↓sq_nx, ↓sq_ret, ↓sq_bk, ↓sq_ct, wp_ok, wp_exc, wp_mth, slotR_some, negR_int, intO_int, List.getD_cons_zero, List.getD_cons_succ, List.set_cons_succ, List.set_cons_zero, List.map_cons, List.map_nil, List.length_cons, List.length_nil, List.replicate_succ, List.replicate_zero, List.cons_append, List.nil_append, Nat.reduceAdd, Nat.reduceSub, ret_ret, ret_nx, fin_self, seqR_ok, cellR_lst, p_add, p_sub, p_mul, p_mul', p_mod, q_lt, q_le, q_gt, q_ge, rngR_int, rng2R_int, t_add, t_len, t_cut, t_at, t_eq, t_ne, t_isStr, i_isInt, i_isBool, nc_add, nc_sub, nc_p1, nc_p2, nc_p3, nc_p4, nc_sub1, nc_sub2, nc_1add, nc_mul, Int.toNat_natCast, fin_t, cut_to, cut_from, cut_mid, decide_true, decide_false, Bool.not_true, Bool.not_false, wp_ift, wp_iff, wp_ifd1, wp_ifd0, wp_ifn1, wp_ifn0, b_sortT, b_sortTt, b_tuple_lst, b_tuple_tup, b_list_lst, b_list_tup, b_len_lst, b_len_tup, ss_lst, ss_tup, ls_lst, p_cat, p_catT, c_tup, c_lst, x_tup0, x_tup1, x_lst0, it_lst, it_tup, ← List.map_take, ← List.map_drop, ← List.map_append, List.length_append, List.length_map, List.append_assoc, Nat.zero_add, Nat.add_zero, g_at, g_at1, g_at2, s_at, s_at1, s_at2, g_atS, s_atS, g_set, g_setA, s_set, s_setA, isLst_some, isDct_some, rv_append, rv_extend, rv_pop, rv_popAt, rv_remove, rv_get, rv_strip, rv_join, rv_split, rv_find, rv_scount, rv_sindex, rv_tcount, rv_tindex, rv_lcount, rv_lindex, a_append, a_extend, appendC_some, extendC_some, a_pop, popC_some, a_popAt, popAtC_some, snap_c, snapC_lst, it_c, itC_some, len_c, lenC_some, List.getElem?_cons_zero, List.getElem?_cons_succ, q_tnil, sort_c, sortC_T, tup_c, tupC_some, list_c, listC_lst, dec_le, dec_lt, dec_eq, pc_fold, and_true, true_and, dr_m1, lt_m1, i_eqZ, t_ltq, t_leq, $xs,*])
theorem fm_nat (a : Int) {m : Nat} (hm : 0 < m) : ∃ r : Nat, r < m ∧ Int.fmod a (m : Int) = (r : Int) := by
  rw [Int.fmod_eq_emod_of_nonneg _ (by omega)]
  have h1 := Int.emod_nonneg a (show (m : Int) ≠ 0 by omega)
  have h2 := Int.emod_lt_of_pos a (show (0 : Int) < m by omega)
  exact ⟨(a % (m : Int)).toNat, by omega, by omega⟩
section
variable {fu n : Nat} {ns : List Int} {k : Nat} {Z : Store} {Q : D → Store → Prop} {E : Nat → Store → Prop} {t : Tag Q E}
theorem mixed2 {S : Store} (m : Nat) (h : ns.length ≤ 63) (hn : 2 ≤ n) (hm : 0 < m) : ∃ r : Nat, r < m ∧ run G fu n 24 [.scr ns, .int (k : Int), .int (m : Int)] S = .ok (.int (r : Int)) S := by
  obtain ⟨n, rfl⟩ := Nat.exists_eq_add_of_le' hn
  obtain ⟨r, hr, e⟩ := fm_nat ((((cellAt ns k + 7919 * k + 1) * 48271).fmod 2147483647 * ((cellAt ns k + 7919 * k + 1) * 48271).fmod 2147483647 + 7 * ((cellAt ns k + 7919 * k + 1) * 48271).fmod 2147483647 + k).fmod 2147483629) hm
  refine ⟨r, hr, ?_⟩
  rw [← e]
  have hm' : (m : Int) ≠ 0 := by omega
  rw [run_at G24]
  simp only [c24, List.length_cons, List.length_nil, List.map_cons, List.map_nil]
  have hb : -(2 ^ 64) < ((cellAt ns k + 7919 * k + 1) * 48271).fmod 2147483647 ∧ ((cellAt ns k + 7919 * k + 1) * 48271).fmod 2147483647 < 2 ^ 64 := by
    rw [Int.fmod_eq_emod_of_nonneg _ (by decide)]
    omega
  simp [xs_cons, xs_nil, r_cell h, p_mul, p_mul', hm']
  rw [p_mul hb]
  simp
  rw [p_mod hm']
  simp
theorem w_draw2 (m : Nat) (h : ns.length ≤ 63) (hn : 3 ≤ n) (hm : 0 < m) (hk : k < 100000) (c : ∀ r : Nat, r < m → Q (.int (r : Int)) (tw (k + 1) :: Z)) : Wp (run G fu n 25 [.scr ns, .loc 0, .int (m : Int)] (tw k :: Z)) Q E t := by
  obtain ⟨n, rfl⟩ := Nat.exists_eq_add_of_le' hn
  obtain ⟨r, hr, e⟩ := mixed2 (fu := fu) (n := n + 2) (ns := ns) (k := k + 1) (S := tw (k + 1) :: Z) m h (by omega) hm
  refine wp_of (a := .int (r : Int)) (S := tw (k + 1) :: Z) ?_ (c r hr)
  rw [run_at G25]
  simp only [c25, List.length_cons, List.length_nil, List.map_cons, List.map_nil]
  have e1 : Mt.append.app (.loc 0) [.int 0] (tw k :: Z) = .ok .non (tw (k + 1) :: Z) := by
    show (if okLen (List.replicate k (D.int 0)).length = true then _ else _) = _
    rw [if_pos (okLen_le' (by rw [List.length_replicate]; omega))]
    simp [tw, List.replicate_succ']
  have e2 : Mt.recv .append (.loc 0) (tw k :: Z) = true := rfl
  have e3 : Bi.len.app [.loc 0] (tw (k + 1) :: Z) = .ok (.int ((k + 1 : Nat) : Int)) (tw (k + 1) :: Z) := by
    show R.ok (D.int (List.replicate (k + 1) (D.int 0)).length) _ = _
    rw [List.length_replicate]
  rw [xs_cons]
  simp [e1, e2]
  rw [xs_cons]
  simp [e3]
  have e4 : ((k : Int) + 1) = ((k + 1 : Nat) : Int) := by omega
  rw [e4, e]
  simp
  exact fin_len rfl
theorem w_pick2 {l : List D} (h : ns.length ≤ 63) (hn : 4 ≤ n) (hl : 0 < l.length) (hl2 : l.length ≤ 1000) (hk : k < 100000) (c : ∀ (r : Nat) (hr : r < l.length), Q l[r] (tw (k + 1) :: Z)) : Wp (run G fu n 26 [.scr ns, .loc 0, .lst l] (tw k :: Z)) Q E t := by
  refine run_wpQ G26 (by omega) rfl ?_
  simp only [c26]
  simp_arith
  refine w_draw2 l.length h (by omega) hl hk fun r hr => ?_
  have e3 : ∀ S, atD (.lst l) (.int (r : Int)) S = .ok l[r] S := fun S => by
    show (match L2.atI l (r : Int) with | some d => R.ok d S | none => .bad) = _
    rw [atI_get hr]
  simp_arith [e3]
  exact wp_of (fin_len rfl) (c r hr)
theorem w_text2 (low most : Nat) (h : ns.length ≤ 63) (hn : 5 ≤ n) (hm : low ≤ most) (hm2 : most ≤ 60) (hk : k + 100 < 100000)
    (c : ∀ (l : List Nat) (k' : Nat), T3 l → low ≤ l.length → l.length ≤ most → k' ≤ k + 100 → Q (dt l) (tw k' :: Z)) : Wp (run G fu n 27 [.scr ns, .loc 0, .int (low : Int), .int (most : Int)] (tw k :: Z)) Q E t := by
  refine run_wpQ G27 (by omega) rfl ?_
  simp only [c27]
  simp_arith
  refine w_pick2 h (by omega) (by decide) (by decide) (by omega) fun r hr => ?_
  have hfew : ∃ few : Nat, 0 < few ∧ few ≤ 3 ∧ [D.int 1, .int 2, .int 2, .int 3, .int 3, .int 3][r] = .int (few : Int) := by
    match r, hr with
    | 0, _ => exact ⟨1, by decide, by decide, rfl⟩
    | 1, _ => exact ⟨2, by decide, by decide, rfl⟩
    | 2, _ => exact ⟨2, by decide, by decide, rfl⟩
    | 3, _ => exact ⟨3, by decide, by decide, rfl⟩
    | 4, _ => exact ⟨3, by decide, by decide, rfl⟩
    | 5, _ => exact ⟨3, by decide, by decide, rfl⟩
  obtain ⟨few, f1, f2, e2⟩ := hfew
  rw [e2]
  simp_arith [dt_nil]
  refine w_draw2 (most - low + 1) h (by omega) (by omega) (by omega) fun r2 hr2 => ?_
  simp_arith
  refine wp_forN0 (fun i env S' => ∃ o l, env = [some (.scr ns), some (.loc 0), some (.int (low : Int)), some (.int (most : Int)), some (.int (few : Int)), some (dt l), o] ∧ S' = tw (k + 1 + 1 + i) :: Z ∧ T3 l ∧ l.length = i) ⟨none, [], rfl, rfl, (fun x hx => nomatch hx), rfl⟩ ?_ ?_
  · rintro i env S' hi ⟨o, l, rfl, rfl, l1, l2⟩
    refine ⟨_, rfl, ?_⟩
    simp_arith
    refine w_draw2 few h (by omega) f1 (by omega) fun r3 hr3 => ?_
    have h3 : r3 < [97, 98, 99].length := by
      show r3 < 3
      omega
    have e3 : ∀ S, atD (.str ("abc" : Str)) (.int (r3 : Int)) S = .ok (dt [[97, 98, 99][r3]]) S := fun S => by
      rw [tx_abc]
      exact t_at (a := [97, 98, 99]) (i := r3) (by simp) h3
    simp_arith [e3]
    refine ⟨_, l ++ [[97, 98, 99][r3]], rfl, rfl, l1.app ?_, by simp [l2]⟩
    intro y hy
    rw [List.mem_singleton] at hy
    subst hy
    match r3, h3 with
    | 0, _ => exact .inl rfl
    | 1, _ => exact .inr (.inl rfl)
    | 2, _ => exact .inr (.inr rfl)
  · rintro env S' ⟨o, l, rfl, rfl, l1, l2⟩
    simp_arith
    exact wp_of (fin_len rfl) (c l _ l1 (by omega) (by omega) (by omega))
theorem eq_textsZ {ts : List (List Nat)} {S : Store} : cmA .eq (.lst (ts.map dt)) (.lst []) S = .ok (.bl (decide (ts = []))) S := eq_texts (us := [])
theorem fold_rep (a : Array Nat) : ∀ (n : Nat) (acc : Array Nat), List.foldl (fun x1 x2 => x1 ++ x2) acc (List.replicate n a) = acc ++ (List.replicate n a.toList).flatten.toArray
  | 0, acc => by simp
  | n + 1, acc => by
    rw [List.replicate_succ, List.foldl_cons, fold_rep a n, List.replicate_succ, List.flatten_cons, ← List.append_toArray, Array.toArray_toList, Array.append_assoc]
theorem mulN (l : List Nat) (n : Nat) : Txt.mul (tx l) (n : Int) = tx (List.replicate n l).flatten := by
  unfold Txt.mul
  by_cases c : (n : Int) < 1
  · rw [if_pos c]
    have : n = 0 := by omega
    subst this
    rfl
  · rw [if_neg c]
    by_cases c1 : ((n : Int) == 1 || (tx l).length == 0) = true
    · rw [if_pos c1]
      rw [Bool.or_eq_true, beq_iff_eq, beq_iff_eq, tx_len] at c1
      rcases c1 with c1 | c1
      · have : n = 1 := by omega
        subst this
        simp
      · have := List.length_eq_zero_iff.mp c1
        subst this
        simp
    · rw [if_neg c1, fold_rep]
      unfold tx
      simp
theorem mul_c {w : Nat} {S : Store} (h : w ≤ 1000) : Op2.mul.app (.str ("c" : Str)) (.int (w : Int)) S = .ok (dt (List.replicate w 99)) S := by
  show (if 0 ≤ (w : Int) ∧ (w : Int) ≤ 1000 ∧ ("c" : Str).length ≤ 1000 then R.ok (D.str (Txt.mul ("c" : Str) (w : Int))) S else .bad) = _
  rw [if_pos ⟨by omega, by omega, by decide⟩]
  congr 2
  have e : (List.replicate w [99]).flatten = List.replicate w 99 := by
    induction w with
    | zero => rfl
    | succ w ih => rw [List.replicate_succ, List.flatten_cons, ih (by omega), List.replicate_succ]; rfl
  rw [← e, ← mulN]
  rfl
theorem eq_nilZ {S : Store} : cmA .eq (.lst []) (.lst []) S = .ok (.bl true) S := by
  have e := eq_textsZ (ts := []) (S := S)
  simpa using e
theorem b_sort1 {x : List Nat} {S : Store} : Bi.app .sorted [.lst [dt x]] S = .ok (.lst ((sortT [x]).map dt)) S := b_sortT (l := [x]) (by simp)
theorem w_view2 (most : Nat) (h : ns.length ≤ 63) (hn : 7 ≤ n) (hm : 1 ≤ most) (hm2 : most ≤ 9) (hk : k + 1000 < 100000) (wf : Wf (tw k :: Z))
    (c : ∀ (w : Nat) (ws : List (List Nat)) (k' : Nat), VW w ws → ws.length ≤ most → k' ≤ k + 1000 → Q (dv w ws) (tw k' :: Z)) : Wp (run G fu n 29 [.scr ns, .loc 0, .int (most : Int)] (tw k :: Z)) Q E t := by
  refine run_wpQ G29 (by omega) rfl ?_
  simp only [c29]
  simp_arith
  refine w_draw2 4 h (by omega) (by decide) (by omega) fun r hr => ?_
  simp_arith
  generalize hw : 1 + r = w
  have w1 : 1 ≤ w := by omega
  have w4 : w ≤ 4 := by omega
  refine w_text2 w (w + most - 1) h (by omega) (by omega) (by omega) (by omega) fun a k1 t1 a1 a2 hk1 => ?_
  have al := seenT_len (w := w) (a := a)
  have wf1 : Wf (tw k1 :: Z) := wf.tw
  simp_arith [s_seen]
  refine w_pick2 h (by omega) (by decide) (by decide) (by omega) fun r1 hr1 => ?_
  have hfew : ∃ few : Nat, few ≤ 2 ∧ [D.int 0, .int 0, .int 0, .int 1, .int 2][r1] = .int (few : Int) := by
    match r1, hr1 with
    | 0, _ => exact ⟨0, by decide, rfl⟩
    | 1, _ => exact ⟨0, by decide, rfl⟩
    | 2, _ => exact ⟨0, by decide, rfl⟩
    | 3, _ => exact ⟨1, by decide, rfl⟩
    | 4, _ => exact ⟨2, by decide, rfl⟩
  obtain ⟨few, f2, e2⟩ := hfew
  rw [e2]
  simp_arith
  refine wp_forN0 (fun i env S' => ∃ o6 o7 o8 o9 k' ls, env = [some (.scr ns), some (.loc 0), some (.int (most : Int)), some (.int (w : Int)), some (dt a), some (.lst (ls.map dt)), o6, o7, o8, o9] ∧ S' = tw k' :: Z ∧ ls.length ≤ 9 + 2 * i ∧ (∀ x ∈ ls, T3 x ∧ x.length = w) ∧ k' ≤ k1 + 1 + 100 * i)
    ⟨none, none, none, none, k1 + 1, seenT w a, rfl, rfl, by omega, fun x hx => ?_, by omega⟩ ?_ ?_
  · have hx := mem_sortT.mp hx
    unfold wins at hx
    obtain ⟨i, hi, rfl⟩ := List.mem_map.mp hx
    have := List.mem_range.mp hi
    unfold pc
    exact ⟨(t1.drop _).take _, by rw [List.length_take, List.length_drop]; omega⟩
  · rintro i env S' hi ⟨o6, o7, o8, o9, k', ls, rfl, rfl, l1, l2, hk'⟩
    refine ⟨_, rfl, ?_⟩
    simp_arith
    refine w_draw2 (ls.length + 1) h (by omega) (by omega) (by omega) fun r2 hr2 => ?_
    simp_arith [dt_nil]
    refine wp_forN0 (fun j env S' => ∃ o9 x, env = [some (.scr ns), some (.loc 0), some (.int (most : Int)), some (.int (w : Int)), some (dt a), some (.lst (ls.map dt)), some (.int (i : Int)), some (.int (r2 : Int)), some (dt x), o9] ∧ S' = tw (k' + 1 + j) :: Z ∧ T3 x ∧ x.length = j)
      ⟨o9, [], rfl, rfl, (fun x hx => nomatch hx), rfl⟩ ?_ ?_
    · rintro j env S' hj ⟨o9, x, rfl, rfl, x1, x2⟩
      refine ⟨_, rfl, ?_⟩
      simp_arith
      refine w_draw2 3 h (by omega) (by decide) (by omega) fun r3 hr3 => ?_
      have h3 : r3 < [97, 98, 99].length := hr3
      have e3 : ∀ S, atD (.str ("abc" : Str)) (.int (r3 : Int)) S = .ok (dt [[97, 98, 99][r3]]) S := fun S => by
        rw [tx_abc]
        exact t_at (a := [97, 98, 99]) (i := r3) (by simp) h3
      simp_arith [e3]
      refine ⟨_, x ++ [[97, 98, 99][r3]], rfl, rfl, x1.app ?_, by simp [x2]⟩
      intro y hy
      rw [List.mem_singleton] at hy
      subst hy
      match r3, h3 with
      | 0, _ => exact .inl rfl
      | 1, _ => exact .inr (.inl rfl)
      | 2, _ => exact .inr (.inr rfl)
    · rintro env S' ⟨o9, x, rfl, rfl, x1, x2⟩
      simp_arith
      refine w_pick2 h (by omega) (by simp) (by simp) (by omega) fun r4 hr4 => ?_
      have hz : ∃ zs : List (List Nat), zs.length ≤ 2 ∧ (∀ y ∈ zs, T3 y ∧ y.length = w) ∧ [D.lst [dt x], D.lst [], D.lst (dt x :: List.map dt (List.take (r2 + 1 - r2) (List.drop r2 ls)))][r4] = .lst (zs.map dt) := by
        match r4, hr4 with
        | 0, _ => exact ⟨[x], by simp, by simp [x1, x2], rfl⟩
        | 1, _ => exact ⟨[], by simp, by simp, rfl⟩
        | 2, _ =>
          refine ⟨x :: (ls.drop r2).take (r2 + 1 - r2), by simp; omega, ?_, rfl⟩
          intro y hy
          rcases List.mem_cons.mp hy with rfl | hy
          · exact ⟨x1, x2⟩
          · exact l2 y (List.mem_of_mem_drop (List.mem_of_mem_take hy))
      obtain ⟨zs, z1, z2, e4⟩ := hz
      rw [e4]
      simp_arith
      refine ⟨_, _, _, _, _, ls.take r2 ++ (zs ++ ls.drop (r2 + 1)), rfl, rfl, by simp; omega, ?_, by omega⟩
      intro y hy
      rcases List.mem_append.mp hy with hy | hy
      · exact l2 y (List.mem_of_mem_take hy)
      · rcases List.mem_append.mp hy with hy | hy
        · exact z2 y hy
        · exact l2 y (List.mem_of_mem_drop hy)
  · rintro env S' ⟨o6, o7, o8, o9, k', ls, rfl, rfl, l1, l2, hk'⟩
    simp_arith
    have fin_c : ∀ ls2 : List (List Nat), 1 ≤ ls2.length → ls2.length ≤ most → (∀ x ∈ ls2, T3 x ∧ x.length = w) → Wp (fin (tw k :: Z).length (toD (R.ok (Fl.ret (dv w (sortT ls2))) (tw k' :: Z)))) Q E Tag.mk := fun ls2 q1 q2 q3 =>
      wp_of (fin_len rfl) (c w (sortT ls2) k' (.of w1 w4 q1 (by omega) q3) (by rw [sortT_len]; exact q2) (by omega))
    by_cases e0 : ls.take most = []
    · simp_arith [eq_nilZ, e0, mul_c, b_sort1]
      exact fin_c [List.replicate w 99] (by simp) (by simpa using hm) (by
        intro x hx
        rw [List.mem_singleton] at hx
        subst hx
        exact ⟨fun y hy => .inr (.inr (List.eq_of_mem_replicate hy)), by simp⟩)
    · simp_arith [eq_textsZ, e0]
      exact fin_c (ls.take most) (List.length_pos_iff.mpr e0) (by simp; omega) fun x hx => l2 x (List.mem_of_mem_take hx)
end
end SV
/-! SvM5: rings. -/
namespace SV
open PySem
def cyc (a : List Nat) (k : Nat) : Nat := a.getD (k % a.length) 0
def rot {α : Type} (a : List α) (i : Nat) : List α := a.drop i ++ a.take i
/-- a window of a ring -/
def cw (a : List Nat) (w i : Nat) : List Nat := (List.range w).map fun j => cyc a (i + j)
def ringW (w : Nat) (a : List Nat) : List (List Nat) := (List.range a.length).map (cw a w)
theorem cyc_per {a : List Nat} {k : Nat} : cyc a (k + a.length) = cyc a k := by
  unfold cyc
  rw [Nat.add_mod_right]
theorem cyc_self (a : List Nat) : (List.range a.length).map (cyc a) = a := by
  apply List.ext_getElem
  · simp
  · intro i h1 h2
    rw [List.getElem_map, List.getElem_range]
    unfold cyc
    rw [Nat.mod_eq_of_lt h2, List.getD_eq_getElem?_getD, List.getElem?_eq_getElem h2]
    rfl
/-- what comes again with N, from i on -/
theorem rot_per {α : Type} {f : Nat → α} {N i : Nat} (hi : i ≤ N) (hp : ∀ k, f (k + N) = f k) : (List.range N).map (fun k => f (i + k)) = rot ((List.range N).map f) i := by
  unfold rot
  apply List.ext_getElem
  · simp
    omega
  · intro j h1 h2
    rw [List.getElem_map, List.getElem_range, List.getElem_append]
    simp only [List.length_map, List.length_range] at h1
    split
    · next h =>
      rw [List.getElem_drop, List.getElem_map, List.getElem_range]
    · next h =>
      rw [List.length_drop, List.length_map, List.length_range] at h
      rw [List.getElem_take, List.getElem_map, List.getElem_range]
      simp only [List.length_drop, List.length_map, List.length_range]
      rw [show i + j = (j - (N - i)) + N by omega, hp]
theorem rot_len {α : Type} {a : List α} {i : Nat} : (rot a i).length = a.length := by
  unfold rot
  rw [List.length_append, List.length_drop, List.length_take]
  omega
theorem rot_perm {α : Type} {a : List α} {i : Nat} : (rot a i).Perm a := by
  unfold rot
  exact List.perm_append_comm.trans (by rw [List.take_append_drop])
theorem cyc_rot {a : List Nat} {i : Nat} (hi : i ≤ a.length) (k : Nat) : cyc (rot a i) k = cyc a (i + k) := by
  by_cases h0 : a.length = 0
  · have : a = [] := List.length_eq_zero_iff.mp h0
    subst this
    simp [rot, cyc]
  have e : rot a i = (List.range a.length).map fun k => cyc a (i + k) := by
    rw [rot_per hi (fun k => cyc_per), cyc_self]
  have hk := Nat.mod_lt k (show 0 < a.length by omega)
  unfold cyc
  rw [rot_len, e, List.getD_eq_getElem?_getD, List.getElem?_map, List.getElem?_range hk]
  show cyc a (i + k % a.length) = _
  unfold cyc
  congr 1
  rw [Nat.add_mod, Nat.mod_mod, ← Nat.add_mod]
theorem cw_per {a : List Nat} {w k : Nat} : cw a w (k + a.length) = cw a w k := by
  unfold cw
  refine List.map_congr_left fun j _ => ?_
  rw [show k + a.length + j = (k + j) + a.length by omega, cyc_per]
theorem cw_rot {a : List Nat} {w i : Nat} (hi : i ≤ a.length) (k : Nat) : cw (rot a i) w k = cw a w (i + k) := by
  unfold cw
  refine List.map_congr_left fun j _ => ?_
  rw [cyc_rot hi, Nat.add_assoc]
theorem ringW_rot {a : List Nat} {w i : Nat} (hi : i ≤ a.length) : ringW w (rot a i) = rot (ringW w a) i := by
  unfold ringW
  rw [rot_len, ← rot_per hi (fun k => cw_per)]
  exact List.map_congr_left fun k _ => cw_rot hi k
theorem ringW_len {a : List Nat} {w : Nat} : (ringW w a).length = a.length := by simp [ringW]
/-! ### the least -/
def ltT (a b : List Nat) : Bool := decide (a < b)
def minT : List (List Nat) → List Nat
  | [] => []
  | x :: l => minB ltT x l
theorem ltT_irr (a : List Nat) : ltT a a = false := decide_eq_false (List.lt_irrefl _)
theorem ltT_as (a b : List Nat) (h : ltT a b = true) : ltT b a = false := decide_eq_false fun k => List.lt_irrefl _ (List.lt_trans (of_decide_eq_true h) k)
theorem ltT_nt (a b c : List Nat) (h : ltT b a = false) (k : ltT c b = false) : ltT c a = false := decide_eq_false fun z => List.le_trans (List.not_lt.mp (of_decide_eq_false h)) (List.not_lt.mp (of_decide_eq_false k)) z
theorem minT_mem {l : List (List Nat)} (h : l ≠ []) : minT l ∈ l := by
  cases l with
  | nil => exact absurd rfl h
  | cons x l => exact (minB_spec ltT_irr ltT_nt ltT_as l x).1
theorem minT_le {l : List (List Nat)} {y : List Nat} (h : y ∈ l) : ¬ y < minT l := by
  cases l with
  | nil => cases h
  | cons x l => exact of_decide_eq_false ((minB_spec ltT_irr ltT_nt ltT_as l x).2 y h)
theorem minT_eq {l m : List (List Nat)} (h : l ≠ []) (e : ∀ y, y ∈ l ↔ y ∈ m) : minT l = minT m := by
  have hm : m ≠ [] := fun z => by
    obtain ⟨x, hx⟩ := List.exists_mem_of_ne_nil _ h
    have := (e x).mp hx
    rw [z] at this
    cases this
  have h1 := minT_le ((e _).mpr (minT_mem hm))
  have h2 := minT_le ((e _).mp (minT_mem h))
  exact List.le_antisymm (List.not_lt.mp h1) (List.not_lt.mp h2)
def rots (a : List Nat) : List (List Nat) := (List.range a.length).map (rot a)
def leastR (a : List Nat) : List Nat := minT (rots a)
theorem mem_rots {a y : List Nat} : y ∈ rots a ↔ ∃ i, i < a.length ∧ y = rot a i := by
  unfold rots
  rw [List.mem_map]
  constructor
  · rintro ⟨i, hi, rfl⟩
    exact ⟨i, List.mem_range.mp hi, rfl⟩
  · rintro ⟨i, hi, rfl⟩
    exact ⟨i, List.mem_range.mpr hi, rfl⟩
theorem ext_cyc {a b : List Nat} (hl : a.length = b.length) (h : ∀ k, cyc a k = cyc b k) : a = b := by
  rw [← cyc_self a, ← cyc_self b, hl]
  exact List.map_congr_left fun k _ => h k
theorem rot_rot {a : List Nat} {i j : Nat} (hi : i ≤ a.length) (hj : j ≤ a.length) (h0 : 0 < a.length) : rot (rot a i) j = rot a ((i + j) % a.length) := by
  have hm := Nat.mod_lt (i + j) h0
  refine ext_cyc (by rw [rot_len, rot_len, rot_len]) fun k => ?_
  rw [cyc_rot (by rw [rot_len]; exact hj), cyc_rot hi, cyc_rot (by omega)]
  unfold cyc
  congr 1
  rw [← Nat.add_assoc, Nat.add_mod (i + j) k, Nat.add_mod ((i + j) % a.length) k, Nat.mod_mod]
theorem rots_rot {a : List Nat} {i : Nat} (hi : i < a.length) (y : List Nat) : y ∈ rots (rot a i) ↔ y ∈ rots a := by
  rw [mem_rots, mem_rots, rot_len]
  constructor
  · rintro ⟨j, hj, rfl⟩
    exact ⟨(i + j) % a.length, Nat.mod_lt _ (by omega), rot_rot (by omega) (by omega) (by omega)⟩
  · rintro ⟨j, hj, rfl⟩
    refine ⟨(j + (a.length - i)) % a.length, Nat.mod_lt _ (by omega), ?_⟩
    rw [rot_rot (by omega) (Nat.le_of_lt (Nat.mod_lt _ (by omega))) (by omega)]
    congr 1
    rw [Nat.add_mod, Nat.mod_mod, ← Nat.add_mod, show i + (j + (a.length - i)) = j + a.length by omega, Nat.add_mod_right, Nat.mod_eq_of_lt hj]
theorem rots_ne {a : List Nat} (h : a ≠ []) : rots a ≠ [] := fun z => by
  have := congrArg List.length z
  simp [rots] at this
  exact h this
theorem leastR_rot {a : List Nat} {i : Nat} (hi : i < a.length) : leastR (rot a i) = leastR a := by
  have hne : rot a i ≠ [] := fun z => by
    have := congrArg List.length z
    rw [rot_len, List.length_nil] at this
    omega
  exact minT_eq (rots_ne hne) (rots_rot hi)
theorem leastR_is {a : List Nat} (h : a ≠ []) : ∃ i, i < a.length ∧ leastR a = rot a i := mem_rots.mp (minT_mem (rots_ne h))
theorem leastR_self {a : List Nat} (h : a ≠ []) : leastR (leastR a) = leastR a := by
  obtain ⟨i, hi, e⟩ := leastR_is h
  conv => lhs; rw [e]
  exact leastR_rot hi
/-! ### a ring, written on -/
theorem getD_get {a : List Nat} {i : Nat} (h : i < a.length) : a.getD i 0 = a[i] := by
  rw [List.getD_eq_getElem?_getD, List.getElem?_eq_getElem h]
  rfl
/-- a text that ends as it begins: its letters are those of a ring -/
theorem closed_cyc {t : List Nat} {N w : Nat} (hN : 0 < N) (hl : t.length = N + w - 1) (hw : 1 ≤ w) (hc : t.drop N = t.take (w - 1)) : ∀ k, k < t.length → t.getD k 0 = cyc (t.take N) k := by
  intro k
  induction k using Nat.strongRecOn with
  | ind k ih =>
    intro hk
    have hN2 : (t.take N).length = N := by rw [List.length_take]; omega
    by_cases c : k < N
    · unfold cyc
      rw [hN2, Nat.mod_eq_of_lt c, List.getD_eq_getElem?_getD, List.getD_eq_getElem?_getD, List.getElem?_take_of_lt c]
    · have h1 := congrArg (fun l => l.getD (k - N) 0) hc
      simp only [List.getD_eq_getElem?_getD, List.getElem?_drop] at h1
      rw [show N + (k - N) = k by omega, List.getElem?_take_of_lt (by omega)] at h1
      rw [List.getD_eq_getElem?_getD, h1, ← List.getD_eq_getElem?_getD, ih (k - N) (by omega) (by omega)]
      have := cyc_per (a := t.take N) (k := k - N)
      rw [hN2, show k - N + N = k by omega] at this
      exact this.symm
theorem closed_wins {t : List Nat} {N w : Nat} (hN : 0 < N) (hl : t.length = N + w - 1) (hw : 1 ≤ w) (hc : t.drop N = t.take (w - 1)) : wins w t = ringW w (t.take N) := by
  have hN2 : (t.take N).length = N := by rw [List.length_take]; omega
  unfold wins ringW
  rw [hN2, hl, show N + w - 1 + 1 - w = N by omega]
  refine List.map_congr_left fun i hi => ?_
  have hi := List.mem_range.mp hi
  unfold pc cw
  apply List.ext_getElem
  · simp
    omega
  · intro j h1 h2
    simp only [List.length_map, List.length_range] at h2
    rw [List.getElem_take, List.getElem_drop, List.getElem_map, List.getElem_range, ← getD_get, closed_cyc hN hl hw hc _ (by omega)]
/-- a ring as such a text -/
def extR (w : Nat) (r : List Nat) : List Nat := (List.range (r.length + w - 1)).map (cyc r)
theorem extR_len {w : Nat} {r : List Nat} : (extR w r).length = r.length + w - 1 := by simp [extR]
theorem extR_take {w : Nat} {r : List Nat} (hw : 1 ≤ w) : (extR w r).take r.length = r := by
  conv => rhs; rw [← cyc_self r]
  unfold extR
  rw [← List.map_take, List.take_range]
  congr 2
  omega
theorem extR_closed {w : Nat} {r : List Nat} (hw : 1 ≤ w) : (extR w r).drop r.length = (extR w r).take (w - 1) := by
  unfold extR
  apply List.ext_getElem
  · simp
    omega
  · intro j h1 h2
    rw [List.getElem_drop, List.getElem_take, List.getElem_map, List.getElem_map, List.getElem_range, List.getElem_range, Nat.add_comm, cyc_per]
theorem extR_wins {w : Nat} {r : List Nat} (hw : 1 ≤ w) (h : 0 < r.length) : wins w (extR w r) = ringW w r := by
  have := closed_wins (t := extR w r) h extR_len hw (extR_closed hw)
  rwa [extR_take hw] at this
/-! ### the rings of a view -/
def closing (w : Nat) (t : List Nat) : Bool := decide (t.drop (t.length + 1 - w) = t.take (w - 1))
def ringsT (w : Nat) (ws : List (List Nat)) : List (List Nat) := setT (((grownT w (ws.length - 1) (ws.erase (ws.getD 0 [])) (ws.getD 0 [])).filter (closing w)).map fun t => leastR (t.take ws.length))
theorem head_mem {ws : List (List Nat)} (h : 1 ≤ ws.length) : ws.getD 0 [] ∈ ws := by
  cases ws with
  | nil => simp at h
  | cons x ws => exact List.mem_cons_self
theorem mem_ringsT {w : Nat} {ws : List (List Nat)} {y : List Nat} (hw : 1 ≤ w) (h1 : 1 ≤ ws.length) (hx : ∀ x ∈ ws, x.length = w) : y ∈ ringsT w ws ↔ y.length = ws.length ∧ (ringW w y).Perm ws ∧ y = leastR y := by
  have hm := head_mem h1
  generalize hx0 : ws.getD 0 [] = x0 at hm
  have hx0l := hx x0 hm
  have he : (ws.erase x0).length = ws.length - 1 := List.length_erase_of_mem hm
  unfold ringsT
  rw [mem_setT, List.mem_map, hx0]
  constructor
  · rintro ⟨t, ht, rfl⟩
    rw [List.mem_filter] at ht
    obtain ⟨ht, hc⟩ := ht
    obtain ⟨b, hb, rfl, hp⟩ := (mem_grownT hw _ _ _ _ he (fun y hy => hx y (List.mem_of_mem_erase hy))).mp ht
    unfold closing at hc
    have hc := of_decide_eq_true hc
    have hl : (x0 ++ b).length = ws.length + w - 1 := by rw [List.length_append, hx0l, hb]; omega
    rw [hl, show ws.length + w - 1 + 1 - w = ws.length by omega] at hc
    have hwin : (wins w (x0 ++ b)).Perm ws := by
      rw [wins_app hw (by omega), wins_one hx0l]
      exact (hp.cons x0).trans (List.perm_cons_erase hm).symm
    rw [closed_wins h1 hl hw hc] at hwin
    have hlen : ((x0 ++ b).take ws.length).length = ws.length := by rw [List.length_take]; omega
    generalize (x0 ++ b).take ws.length = r at hlen hwin
    have hr : r ≠ [] := fun z => by rw [z] at hlen; simp at hlen; omega
    obtain ⟨i, hi, e⟩ := leastR_is hr
    refine ⟨by rw [e, rot_len, hlen], ?_, (leastR_self hr).symm⟩
    rw [e, ringW_rot (by omega)]
    exact rot_perm.trans hwin
  · rintro ⟨hl, hp, hy⟩
    have hm2 : x0 ∈ ringW w y := hp.symm.subset hm
    unfold ringW at hm2
    obtain ⟨i, hi, e⟩ := List.mem_map.mp hm2
    have hi := List.mem_range.mp hi
    have hrl : (rot y i).length = ws.length := by rw [rot_len, hl]
    have htl := extR_len (w := w) (r := rot y i)
    have hta : (extR w (rot y i)).take w = x0 := by
      have h0 := wins_cons hw (l := extR w (rot y i)) (by rw [htl]; omega)
      rw [extR_wins hw (by omega)] at h0
      have h2 : ringW w (rot y i) = cw (rot y i) w 0 :: ((List.range' 1 ((rot y i).length - 1)).map (cw (rot y i) w)) := by
        unfold ringW
        rw [List.range_eq_range', show (rot y i).length = ((rot y i).length - 1) + 1 by omega, List.range'_succ, List.map_cons]
        rfl
      rw [h2] at h0
      rw [← (List.cons.inj h0).1, cw_rot (by omega), ← e]
      rfl
    refine ⟨extR w (rot y i), List.mem_filter.mpr ⟨?_, ?_⟩, ?_⟩
    · refine (mem_grownT hw _ _ _ _ he (fun y hy => hx y (List.mem_of_mem_erase hy))).mpr ⟨(extR w (rot y i)).drop w, by rw [List.length_drop, htl]; omega, by conv => rhs; rw [← hta, List.take_append_drop], ?_⟩
      have hwin : (wins w (extR w (rot y i))).Perm ws := by
        rw [extR_wins hw (by omega), ringW_rot (by omega)]
        exact rot_perm.trans hp
      rw [← List.take_append_drop w (extR w (rot y i)), hta, wins_app hw (by omega), wins_one hx0l] at hwin
      exact (List.cons_perm_iff_perm_erase.mp hwin).2
    · unfold closing
      rw [htl, show (rot y i).length + w - 1 + 1 - w = (rot y i).length by omega]
      exact decide_eq_true (extR_closed hw)
    · rw [← hrl, extR_take hw, leastR_rot hi]
      exact hy.symm
end SV
/-! SvS9: rings. -/
namespace SV
open PySem
/-! ### the least of texts -/
theorem okMin_T (l : List (List Nat)) : okMin (l.map dt) = true := by
  have o := oks (n := 0) (l := l.map dt) fun d hd => by
    obtain ⟨t, _, rfl⟩ := List.mem_map.mp hd
    exact ok_str
  unfold okMin
  rw [Bool.and_eq_true, Bool.and_eq_true, Bool.and_eq_true]
  refine ⟨⟨⟨sims_pures o.1, ?_⟩, decide_eq_true (Nat.le_trans o.2 (by decide))⟩, ?_⟩
  · unfold allAlike
    rw [pys_strs, List.all_map, List.all_eq_true]
    intro a _
    show (List.all _ fun y => PySem.W.alike (dt a).py y) = true
    rw [List.all_map, List.all_eq_true]
    intro b _
    rfl
  · rw [List.all_map, List.all_eq_true]
    intro a _
    rfl
theorem b_minT {l : List (List Nat)} {S : Store} (h : l ≠ []) : Bi.app .min [.lst (l.map dt)] S = .ok (dt (minT l)) S := by
  cases l with
  | nil => exact absurd rfl h
  | cons x l =>
    show (if okMin ((x :: l).map dt) then R.ok (minD (dt x) (l.map dt)) S else .bad) = _
    rw [if_pos (okMin_T _), minD_enc (lt := ltT) dataLt_str]
    rfl
/-! ### joined, and a letter of it -/
theorem m_joinT {d : D} {l : List (List Nat)} {S : Store} (h : d.items S = some (l.map dt)) (hl : (l.map List.length).sum ≤ 16000000) : Mt.app .join (.str ("" : Str)) [d] S = .ok (dt l.flatten) S := by
  show (match (d.items S).bind strsD with
    | some l => if okLen (joinLen ("" : Str) l) then R.ok (D.str (Txt.join ("" : Str) l)) S else .bad
    | none => .bad) = _
  rw [h]
  show (match strsD (l.map dt) with
    | some l => if okLen (joinLen ("" : Str) l) then R.ok (D.str (Txt.join ("" : Str) l)) S else .bad
    | none => .bad) = _
  rw [strsD_map]
  dsimp only
  have e1 : joinLen ("" : Str) (l.map tx) = (l.map List.length).sum := by
    unfold joinLen
    rw [List.map_map]
    have : (Str.length ∘ tx) = List.length := by
      funext a
      exact tx_len a
    rw [this]
    show _ + _ * 0 = _
    omega
  have e2 : Txt.join ("" : Str) (l.map tx) = tx l.flatten := by
    have e3 : TL.tl (Txt.join ("" : Str) (l.map tx)) = l.flatten := by
      rw [TL.join_eq, TL.tl_join, List.map_map]
      have : (TL.tl ∘ tx) = id := by
        funext a
        exact tx_cps a
      rw [this, List.map_id]
      show TL.joinL [] l = _
      have : ∀ l : List (List Nat), TL.joinL [] l = l.flatten := by
        intro l
        induction l with
        | nil => rfl
        | cons x l ih =>
          cases l with
          | nil => simp [TL.joinL]
          | cons y l =>
            show x ++ ([] ++ TL.joinL [] (y :: l)) = _
            rw [ih]
            simp
      exact this l
    have := TL.mk_tl (Txt.join ("" : Str) (l.map tx))
    rw [e3] at this
    exact this.symm
  rw [e1, if_pos (okLen_le' hl), e2]
theorem in_letter {c : Nat} {a : List Nat} {S : Store} : cmA .isin (dt [c]) (dt a) S = .ok (.bl (decide (c ∈ a))) S := by
  have e : inD (dt [c]) (dt a) S = some (decide (c ∈ a)) := by
    show some (!(Builtin.Str.occurrences (tx a) (tx [c]) 0 (tx a).length 1).isEmpty) = _
    have := StrLaws.found_one (tx a) c
    rw [tx_cps] at this
    rw [← this]
    rfl
  show (match inD (dt [c]) (dt a) S with | some c => R.ok (D.bl c) S | none => .bad) = _
  rw [e]
/-! ### a text again and again -/
theorem rep_cyc (a : List Nat) : ∀ n : Nat, (List.replicate n a).flatten = (List.range (n * a.length)).map (cyc a)
  | 0 => by simp
  | n + 1 => by
    rw [List.replicate_succ', List.flatten_append, rep_cyc a n, Nat.succ_mul, List.range_add, List.map_append]
    congr 1
    rw [List.map_map]
    simp only [List.flatten_cons, List.flatten_nil, List.append_nil]
    conv => lhs; rw [← cyc_self a]
    refine List.map_congr_left fun j _ => ?_
    show cyc a j = cyc a (n * a.length + j)
    unfold cyc
    rw [Nat.add_comm, Nat.add_mul_mod_self_right]
def repL (n : Nat) (a : List Nat) : List Nat := (List.replicate n a).flatten
theorem pc_rep {a : List Nat} {n w i : Nat} (h : i + w ≤ n * a.length) : pc (repL n a) w i = cw a w i := by
  unfold repL
  rw [rep_cyc]
  unfold pc cw
  apply List.ext_getElem
  · simp
    omega
  · intro j h1 h2
    rw [List.getElem_take, List.getElem_drop, List.getElem_map, List.getElem_map, List.getElem_range, List.getElem_range]
theorem rep_len {a : List Nat} {n : Nat} : (repL n a).length = n * a.length := by
  unfold repL
  rw [rep_cyc]
  simp
theorem t_mulN {a : List Nat} {n : Nat} {S : Store} (h : n ≤ 1000) (h2 : a.length ≤ 1000) : Op2.mul.app (dt a) (.int (n : Int)) S = .ok (dt (repL n a)) S := by
  show (if 0 ≤ (n : Int) ∧ (n : Int) ≤ 1000 ∧ (tx a).length ≤ 1000 then R.ok (D.str (Txt.mul (tx a) (n : Int))) S else .bad) = _
  rw [tx_len, if_pos ⟨by omega, by omega, h2⟩, mulN]
  rfl
theorem fm_nn {a b : Nat} : Int.fmod (a : Int) (b : Int) = ((a % b : Nat) : Int) := by
  rw [Int.fmod_eq_emod_of_nonneg _ (by omega)]
  rfl
theorem at_tup0 {ws : List (List Nat)} {S : Store} (h : 1 ≤ ws.length) : atD (.tup (ws.map dt)) (.int 0) S = .ok (dt (ws.getD 0 [])) S := by
  cases ws with
  | nil => simp at h
  | cons x ws => exact x_tup0
theorem flat_one (f : Nat → Nat) (l : List Nat) : (l.map fun j => [f j]).flatten = l.map f := by
  induction l with
  | nil => rfl
  | cons x l ih => simp [ih]
local macro_rules
  | `(tactic| simp_arith) => `(tactic| simp -dsimp (disch := first | assumption | omega | (simp only [rv_append, rv_extend, rv_pop, rv_popAt, rv_remove, rv_get, rv_strip, rv_join, rv_split, rv_find, rv_scount, rv_sindex, rv_tcount, rv_tindex, rv_lcount, rv_lindex, g_at, g_at1, g_at2, g_atS, isLst_some, isDct_some, List.getElem?_cons_zero, List.getElem?_cons_succ, List.length_cons, List.length_nil, List.length_map, List.length_append, List.length_take, List.length_drop, List.length_range, List.length_dropLast, lo_strsL, lo_strsT, lo_dt, lo_int, lo_bl, lo_non, lo_tup, lo_lst, los_cons, los_nil, los_dts, Bool.and_true, Bool.and_self] <;> omega) | fail) only [↓wp_bind, ↓w_var, ↓w_cst, ↓w_glb, ↓w_op, ↓w_neg, ↓w_cmp, ↓wp_ift, ↓wp_iff, ↓wp_ifd1, ↓wp_ifd0, ↓wp_ifn1, ↓wp_ifn0, ↓w_chn, ↓w_not, ↓w_and, ↓w_or, ↓w_ite, ↓w_tup, ↓w_lst, ↓w_idx, ↓w_sl, ↓w_call, ↓w_bi, ↓w_mth, ↓w_lc, ↓w_cell, ↓w_snap, ↓w_rev, ↓w_dict, ↓w_sset, ↓w_lset, ↓w_cn, ↓w_cs, ↓w_nil, ↓w_cons, ↓w_on, ↓w_os, ↓w_ie, ↓w_i1, ↓w_i2, ↓w_xnil, ↓w_xcons, ↓w_pass, ↓w_expr, ↓w_set, ↓w_setT, ↓w_par, ↓w_put, ↓w_ret, ↓w_retN, ↓w_ifs, ↓w_for, ↓w_whl, ↓w_brk, ↓w_cnt, ↓w_two, ↓sq_nx, ↓sq_ret, ↓sq_bk, ↓sq_ct, wp_ok, wp_exc, wp_mth, slotR_some, negR_int, intO_int, List.getD_cons_zero, List.getD_cons_succ, List.set_cons_succ, List.set_cons_zero, List.map_cons, List.map_nil, List.length_cons, List.length_nil, List.replicate_succ, List.replicate_zero, List.cons_append, List.nil_append, Nat.reduceAdd, Nat.reduceSub, ret_ret, ret_nx, fin_self, seqR_ok, cellR_lst, p_add, p_sub, p_mul, p_mul', p_mod, q_lt, q_le, q_gt, q_ge, rngR_int, rng2R_int, t_add, t_len, t_cut, t_at, t_eq, t_ne, t_isStr, i_isInt, i_isBool, nc_add, nc_sub, nc_p1, nc_p2, nc_p3, nc_p4, nc_sub1, nc_sub2, nc_1add, nc_mul, Int.toNat_natCast, fin_t, cut_to, cut_from, cut_mid, decide_true, decide_false, Bool.not_true, Bool.not_false, wp_ift, wp_iff, wp_ifd1, wp_ifd0, wp_ifn1, wp_ifn0, b_sortT, b_sortTt, b_tuple_lst, b_tuple_tup, b_list_lst, b_list_tup, b_len_lst, b_len_tup, ss_lst, ss_tup, ls_lst, p_cat, p_catT, c_tup, c_lst, x_tup0, x_tup1, x_lst0, it_lst, it_tup, ← List.map_take, ← List.map_drop, ← List.map_append, List.length_append, List.length_map, List.append_assoc, Nat.zero_add, Nat.add_zero, g_at, g_at1, g_at2, s_at, s_at1, s_at2, g_atS, s_atS, g_set, g_setA, s_set, s_setA, isLst_some, isDct_some, rv_append, rv_extend, rv_pop, rv_popAt, rv_remove, rv_get, rv_strip, rv_join, rv_split, rv_find, rv_scount, rv_sindex, rv_tcount, rv_tindex, rv_lcount, rv_lindex, a_append, a_extend, appendC_some, extendC_some, a_pop, popC_some, a_popAt, popAtC_some, snap_c, snapC_lst, it_c, itC_some, len_c, lenC_some, List.getElem?_cons_zero, List.getElem?_cons_succ, q_tnil, sort_c, sortC_T, tup_c, tupC_some, list_c, listC_lst, dec_le, dec_lt, dec_eq, pc_fold, and_true, true_and, dr_m1, lt_m1, i_eqZ, t_ltq, t_leq])
  | `(tactic| simp_arith [$xs,*]) => `(tactic| simp -dsimp (disch := first | assumption | omega | (simp only [rv_append, rv_extend, rv_pop, rv_popAt, rv_remove, rv_get, rv_strip, rv_join, rv_split, rv_find, rv_scount, rv_sindex, rv_tcount, rv_tindex, rv_lcount, rv_lindex, g_at, g_at1, g_at2, g_atS, isLst_some, isDct_some, List.getElem?_cons_zero, List.getElem?_cons_succ, List.length_cons, List.length_nil, List.length_map, List.length_append, List.length_take, List.length_drop, List.length_range, List.length_dropLast, lo_strsL, lo_strsT, lo_dt, lo_int, lo_bl, lo_non, lo_tup, lo_lst, los_cons, los_nil, los_dts, Bool.and_true, Bool.and_self] <;> omega) | fail) only [↓wp_bind, ↓w_var, ↓w_cst, ↓w_glb, ↓w_op, ↓w_neg, ↓w_cmp, ↓wp_ift, ↓wp_iff, ↓wp_ifd1, ↓wp_ifd0, ↓wp_ifn1, ↓wp_ifn0, ↓w_chn, ↓w_not, ↓w_and, ↓w_or, ↓w_ite, ↓w_tup, ↓w_lst, ↓w_idx, ↓w_sl, ↓w_call, ↓w_bi, ↓w_mth, ↓w_lc, ↓w_cell, ↓w_snap, ↓w_rev, ↓w_dict, ↓w_sset, ↓w_lset, ↓w_cn, ↓w_cs, ↓w_nil, ↓w_cons, ↓w_on, ↓w_os, ↓w_ie, ↓w_i1, ↓w_i2, ↓w_xnil, ↓w_xcons, ↓w_pass, ↓w_expr, ↓w_set, ↓w_setT, ↓w_par, ↓w_put, ↓w_ret, ↓w_retN, ↓w_ifs, ↓w_for, ↓w_whl, ↓w_brk, ↓w_cnt, ↓w_two, ↓sq_nx, ↓sq_ret, ↓sq_bk, ↓sq_ct, wp_ok, wp_exc, wp_mth, slotR_some, negR_int, intO_int, List.getD_cons_zero, List.getD_cons_succ, List.set_cons_succ, List.set_cons_zero, List.map_cons, List.map_nil, List.length_cons, List.length_nil, List.replicate_succ, List.replicate_zero, List.cons_append, List.nil_append, Nat.reduceAdd, Nat.reduceSub, ret_ret, ret_nx, fin_self, seqR_ok, cellR_lst, p_add, p_sub, p_mul, p_mul', p_mod, q_lt, q_le, q_gt, q_ge, rngR_int, rng2R_int, t_add, t_len, t_cut, t_at, t_eq, t_ne, t_isStr, i_isInt, i_isBool, nc_add, nc_sub, nc_p1, nc_p2, nc_p3, nc_p4, nc_sub1, nc_sub2, nc_1add, nc_mul, Int.toNat_natCast, fin_t, cut_to, cut_from, cut_mid, decide_true, decide_false, Bool.not_true, Bool.not_false, wp_ift, wp_iff, wp_ifd1, wp_ifd0, wp_ifn1, wp_ifn0, b_sortT, b_sortTt, b_tuple_lst, b_tuple_tup, b_list_lst, b_list_tup, b_len_lst, b_len_tup, ss_lst, ss_tup, ls_lst, p_cat, p_catT, c_tup, c_lst, x_tup0, x_tup1, x_lst0, it_lst, it_tup, ← List.map_take, ← List.map_drop, ← List.map_append, List.length_append, List.length_map, List.append_assoc, Nat.zero_add, Nat.add_zero, g_at, g_at1, g_at2, s_at, s_at1, s_at2, g_atS, s_atS, g_set, g_setA, s_set, s_setA, isLst_some, isDct_some, rv_append, rv_extend, rv_pop, rv_popAt, rv_remove, rv_get, rv_strip, rv_join, rv_split, rv_find, rv_scount, rv_sindex, rv_tcount, rv_tindex, rv_lcount, rv_lindex, a_append, a_extend, appendC_some, extendC_some, a_pop, popC_some, a_popAt, popAtC_some, snap_c, snapC_lst, it_c, itC_some, len_c, lenC_some, List.getElem?_cons_zero, List.getElem?_cons_succ, q_tnil, sort_c, sortC_T, tup_c, tupC_some, list_c, listC_lst, dec_le, dec_lt, dec_eq, pc_fold, and_true, true_and, dr_m1, lt_m1, i_eqZ, t_ltq, t_leq, $xs,*])
section
variable {fu n : Nat} {S : Store} {a : List Nat} {ws : List (List Nat)} {w : Nat}
theorem s_ringWin (hn : 1 ≤ n) (ha : a.length ≤ 100) (h1 : 1 ≤ a.length) (hw : w ≤ 10) : run G fu n 30 [dt a, .int (w : Int)] S = .ok (.lst ((ringW w a).map dt)) S := by
  refine run_wp G30 hn rfl ?_
  simp only [c30]
  have hl := rep_len (a := a) (n := w + 1)
  have hl2 : (w + 1) * a.length ≤ 11 * 100 := Nat.mul_le_mul (by omega) ha
  have hl3 : (w + 1) * a.length = w * a.length + a.length := Nat.succ_mul ..
  have hl4 : w * 1 ≤ w * a.length := Nat.mul_le_mul_left _ h1
  simp_arith [t_mulN]
  refine wp_mapNT (cw a w) (by omega) (fun i hi => ⟨_, rfl, ?_⟩) ?_
  · simp_arith [pc_rep]
  · simp_arith [ringW]
theorem s_ringView (hn : 3 ≤ n) (t : T3 a) (h1 : 1 ≤ a.length) (h9 : a.length ≤ 9) (w1 : 1 ≤ w) (w4 : w ≤ 4) : run G fu n 31 [dt a, .int (w : Int)] S = .ok (dv w (sortT (ringW w a))) S := by
  refine run_wp G31 (by omega) rfl ?_
  simp only [c31]
  obtain ⟨m, rfl⟩ := Nat.exists_eq_add_of_le' hn
  have e1 : run G fu (m + 3 - 1) 7 [dt a] S = .ok .non S := r_needText t h1 (by omega)
  have e2 : run G fu (m + 3 - 1) 9 [.int (w : Int)] S = .ok .non S := r_needWidth (by omega) (by omega)
  have hl := ringW_len (a := a) (w := w)
  simp_arith [e1, e2, s_ringWin]
theorem s_ringSeen (hn : 1 ≤ n) (ha : a.length ≤ 100) (h1 : 1 ≤ a.length) (hw : w ≤ 10) (wf : Wf S) : run G fu n 38 [dt a, .int (w : Int)] S = .ok (.tup ((sortT (ringW w a)).map dt)) S := by
  refine run_wp G38 hn rfl ?_
  simp only [c38]
  simp_arith
  refine wp_forN0 (fun i env S' => ∃ o o2, env = [some (dt a), some (.int (w : Int)), some (.loc S.length), o, o2] ∧ S' = S ++ [.lst (((List.range i).map (cw a w)).map dt)]) ⟨none, none, rfl, rfl⟩ ?_ ?_
  · rintro i env S' hi ⟨o, o2, rfl, rfl⟩
    refine ⟨_, rfl, ?_⟩
    simp_arith
    refine wp_mapNT (fun j => [cyc a (i + j)]) (by omega) (fun j hj => ⟨_, rfl, ?_⟩) ?_
    · have hm : (i + j) % a.length < a.length := Nat.mod_lt _ (by omega)
      simp_arith [fm_nn]
      unfold cyc
      rw [getD_get hm]
    · have hj2 : (((List.range w).map fun j => [cyc a (i + j)]).map List.length).sum ≤ 16000000 := by
        have : ∀ l : List Nat, ((l.map fun j => [cyc a (i + j)]).map List.length).sum = l.length := by
          intro l
          induction l with
          | nil => rfl
          | cons x l ih =>
            simp only [List.map_cons, List.sum_cons, List.length_cons, List.length_nil] at ih ⊢
            omega
        rw [this, List.length_range]
        omega
      have hj := m_joinT (d := .lst ((((List.range w).map fun j => [cyc a (i + j)])).map dt)) (l := (List.range w).map fun j => [cyc a (i + j)]) (S := S ++ [.lst (((List.range i).map (cw a w)).map dt)]) rfl hj2
      rw [flat_one] at hj
      simp_arith [hj]
      exact ⟨_, _, rfl, by simp [List.range_succ, cw]⟩
  · rintro env S' ⟨o, o2, rfl, rfl⟩
    have hl := ringW_len (a := a) (w := w)
    unfold ringW at hl ⊢
    simp_arith
theorem s_turned (hn : 3 ≤ n) (t : T3 a) (h1 : 1 ≤ a.length) (h2 : a.length ≤ 12) : run G fu n 37 [dt a] S = .ok (dt (leastR a)) S := by
  refine run_wp G37 (by omega) rfl ?_
  simp only [c37]
  obtain ⟨m, rfl⟩ := Nat.exists_eq_add_of_le' hn
  have e1 : run G fu (m + 3 - 1) 7 [dt a] S = .ok .non S := r_needText t h1 h2
  have hne : rots a ≠ [] := rots_ne fun z => by rw [z] at h1; simp at h1
  simp_arith [e1]
  refine wp_mapNT (rot a) (by omega) (fun i hi => ⟨_, rfl, ?_⟩) ?_
  · simp_arith
    rfl
  · rw [show (List.range a.length).map (rot a) = rots a from rfl]
    simp_arith [b_minT hne]
    rfl
/-! ### rings of a view -/
abbrev rgM (as : List (List Nat)) : Cell := .dct (memo dt D.bl (fun _ => true) as)
theorem good_dt : GoodK dt false where
  inj := fun a b e => dt_inj.mp e
  ok := fun a => rfl
  tu := fun a => rfl
theorem listC_rg {as : List (List Nat)} : listC (some (rgM as)) S = .ok (.lst (as.map dt)) S := by
  show (if ((memo dt D.bl (fun _ => true) as).all fun p => !isTup p.1) = true then R.ok (D.lst ((memo dt D.bl (fun _ => true) as).map (·.1))) S else .bad) = _
  rw [if_pos]
  · unfold memo
    rw [List.map_map]
    rfl
  · rw [List.all_eq_true]
    intro p hp
    obtain ⟨c, _, rfl⟩ := List.mem_map.mp hp
    rfl
def addAll (as : List (List Nat)) : List (List Nat) → List (List Nat)
  | [] => as
  | x :: l => addAll (addK as x) l
theorem addAll_snoc {x : List Nat} : ∀ {l as : List (List Nat)}, addAll as (l ++ [x]) = addK (addAll as l) x
  | [], as => rfl
  | y :: l, as => addAll_snoc (l := l)
theorem mem_addAll {y : List Nat} : ∀ {l as : List (List Nat)}, y ∈ addAll as l ↔ y ∈ as ∨ y ∈ l
  | [], as => by simp [addAll]
  | x :: l, as => by
    rw [addAll, mem_addAll]
    unfold addK
    split
    · next h =>
      rw [List.mem_cons]
      constructor
      · rintro (q | q)
        · exact .inl q
        · exact .inr (.inr q)
      · rintro (q | rfl | q)
        · exact .inl q
        · exact .inl h
        · exact .inr q
    · rw [List.mem_append, List.mem_singleton, List.mem_cons, or_assoc]
theorem nodup_addAll : ∀ {l as : List (List Nat)}, as.Nodup → (addAll as l).Nodup
  | [], as, h => h
  | x :: l, as, h => by
    rw [addAll]
    refine nodup_addAll ?_
    unfold addK
    split
    · exact h
    · next q =>
      rw [List.nodup_append]
      refine ⟨h, by simp, fun a ha b hb e => ?_⟩
      rw [List.mem_singleton] at hb
      subst hb
      exact q (e ▸ ha)
theorem addAll_len : ∀ {l as : List (List Nat)}, (addAll as l).length ≤ as.length + l.length
  | [], as => Nat.le_refl _
  | x :: l, as => by
    rw [addAll]
    have h1 := addAll_len (l := l) (as := addK as x)
    have h2 := addK_len (as := as) (a := x)
    rw [List.length_cons]
    omega
theorem sort_addAll {l : List (List Nat)} : sortT (addAll [] l) = setT l :=
  rises_ext (sortT_rises (nodup_addAll List.nodup_nil)) (setT_rises l) fun t => by
    rw [mem_sortT, mem_addAll, mem_setT]
    simp
theorem s_rings (hn : 13 ≤ n) (h : VW w ws) (wf : Wf S) : run G fu n 36 [dv w ws] S = .ok (.lst ((ringsT w ws).map dt)) S := by
  have := h.w1
  have := h.w4
  have := h.n1
  have := h.n9
  have hm := head_mem h.n1
  have hx0l := h.el _ hm
  have he : (ws.erase (ws.getD 0 [])).length = ws.length - 1 := List.length_erase_of_mem hm
  have hgl := Nat.le_trans (grownT_len w (ws.length - 1) (ws.erase (ws.getD 0 [])) (ws.getD 0 []) he) (fac_le (ws.length - 1) (by omega))
  have htl : ∀ t ∈ grownT w (ws.length - 1) (ws.erase (ws.getD 0 [])) (ws.getD 0 []), t.length = ws.length + w - 1 := fun t ht => by
    obtain ⟨b, hb, rfl, -⟩ := (mem_grownT h.w1 _ _ _ _ he (fun y hy => h.el y (List.mem_of_mem_erase hy))).mp ht
    rw [List.length_append, hx0l, hb]
    omega
  have hg := s_grown (fu := fu) (ws.length - 1) (ws.erase (ws.getD 0 [])) (ws.getD 0 []) w (n - 1) (S ++ [.dct []]) he (by omega) (by omega) h.w1 (by omega) (by omega) (fun y hy => h.el y (List.mem_of_mem_erase hy)) (wf.flat (fun _ => rfl))
  refine run_wp G36 (by omega) rfl ?_
  simp only [c36]
  simp_arith [s_needView, disp_nil, at_tup0, s_without, hg]
  generalize hgs : grownT w (ws.length - 1) (ws.erase (ws.getD 0 [])) (ws.getD 0 []) = gs at hgl htl
  refine wp_forI (enc := dt) (xs := gs) (fun p env S' => ∃ o4 o5 o6, env = [some (dv w ws), some (.int (w : Int)), some (.tup (ws.map dt)), some (.loc S.length), o4, o5, o6] ∧ S' = S ++ [rgM (addAll [] ((p.filter (closing w)).map fun t => leastR (t.take ws.length)))])
    ⟨none, none, none, rfl, rfl⟩ (fun _ _ _ _ => good_none _) ?_ ?_
  · rintro p x r env S' hp ⟨o4, o5, o6, rfl, rfl⟩
    refine ⟨_, rfl, ?_⟩
    have hxl := htl x (by rw [hp]; simp)
    have e1 : x.length - w + 1 = x.length + 1 - w := by omega
    have pl : p.length ≤ 362880 := by
      have := congrArg List.length hp
      simp at this
      omega
    have fl := List.length_filter_le (closing w) p
    have al := addAll_len (l := (p.filter (closing w)).map fun t => leastR (t.take ws.length)) (as := [])
    rw [List.length_map, List.length_nil] at al
    by_cases c : x.drop (x.length + 1 - w) = x.take (w - 1)
    · have hc : closing w x = true := decide_eq_true c
      have hrl : (x.take ws.length).length = ws.length := by rw [List.length_take]; omega
      simp_arith [e1, c]
      generalize hr : x.take ws.length = r at hrl
      have hne : rots r ≠ [] := rots_ne fun z => by rw [z] at hrl; simp at hrl; omega
      refine wp_mapNT (rot r) (by omega) (fun i hi => ⟨_, rfl, ?_⟩) ?_
      · simp_arith
        rfl
      · rw [show (List.range r.length).map (rot r) = rots r from rfl]
        have hput := put_memo (kq := dt) (vq := D.bl) (f := fun _ : List Nat => true) good_dt (a := leastR r) (v := .bl true) (as := addAll [] ((p.filter (closing w)).map fun t => leastR (t.take ws.length))) (k := S.length) (S := S ++ [rgM (addAll [] ((p.filter (closing w)).map fun t => leastR (t.take ws.length)))]) g_at (by omega) rfl
        rw [s_at] at hput
        simp_arith [b_minT hne]
        rw [show minT (rots r) = leastR r from rfl]
        simp_arith [hput]
        refine ⟨_, _, _, rfl, ?_⟩
        rw [List.filter_append, List.map_append, List.filter_cons_of_pos hc, List.filter_nil, List.map_singleton, addAll_snoc, hr]
    · have hc : ¬ closing w x = true := fun z => c (of_decide_eq_true z)
      simp_arith [e1, c]
      refine ⟨_, _, _, rfl, ?_⟩
      rw [List.filter_append, List.filter_cons_of_neg hc, List.filter_nil, List.append_nil]
  · rintro env S' ⟨o4, o5, o6, rfl, rfl⟩
    have fl := List.length_filter_le (closing w) gs
    have al := addAll_len (l := (gs.filter (closing w)).map fun t => leastR (t.take ws.length)) (as := [])
    rw [List.length_map, List.length_nil] at al
    have hs : sortT (addAll [] ((gs.filter (closing w)).map fun t => leastR (t.take ws.length))) = ringsT w ws := by
      rw [sort_addAll]
      unfold ringsT
      rw [hgs]
    simp_arith [listC_rg, hs]
end
end SV
/-! SvP03: the law k03. -/
namespace SV
open PySem
def longerL (q : Nat → Bool) (l : List Nat) : List (List Nat) := ([97, 98, 99].filter q).map fun c => l ++ [c]
def rowsL (q : Nat → Bool) : Nat → List (List Nat)
  | 0 => [[]]
  | k + 1 => (rowsL q k).flatMap (longerL q)
theorem longerL_len {q : Nat → Bool} {l : List Nat} : (longerL q l).length ≤ 3 := by
  unfold longerL
  rw [List.length_map]
  exact List.length_filter_le _ _
theorem rowsL_len {q : Nat → Bool} : ∀ k, (rowsL q k).length ≤ 3 ^ k
  | 0 => Nat.le_refl _
  | k + 1 => by
    have := rowsL_len (q := q) k
    have h := flatMap_len (f := longerL q) (c := 3) (l := rowsL q k) fun x _ => longerL_len
    rw [Nat.pow_succ]
    exact Nat.le_trans h (Nat.mul_le_mul_right _ this)
theorem mem_rowsL {q : Nat → Bool} : ∀ {k : Nat} {l : List Nat}, l ∈ rowsL q k ↔ l.length = k ∧ ∀ c ∈ l, (c = 97 ∨ c = 98 ∨ c = 99) ∧ q c = true
  | 0, l => by
    rw [rowsL, List.mem_singleton]
    constructor
    · rintro rfl
      exact ⟨rfl, fun x hx => by cases hx⟩
    · rintro ⟨h, _⟩
      exact List.length_eq_zero_iff.mp h
  | k + 1, l => by
    rw [rowsL, List.mem_flatMap]
    unfold longerL
    constructor
    · rintro ⟨x, hx, h⟩
      obtain ⟨c, hc, rfl⟩ := List.mem_map.mp h
      obtain ⟨h1, h2⟩ := mem_rowsL.mp hx
      rw [List.mem_filter] at hc
      refine ⟨by simp [h1], fun z hz => ?_⟩
      rcases List.mem_append.mp hz with hz | hz
      · exact h2 z hz
      · rw [List.mem_singleton] at hz
        subst hz
        exact ⟨by simpa using hc.1, hc.2⟩
    · rintro ⟨h, ht⟩
      have hne : l ≠ [] := fun z => by rw [z] at h; cases h
      have e := last_split hne
      have hl : l.getLastD 0 ∈ l := by
        rw [List.getLastD_eq_getLast?, List.getLast?_eq_some_getLast hne]
        exact List.getLast_mem hne
      refine ⟨l.dropLast, mem_rowsL.mpr ⟨by rw [List.length_dropLast, h]; rfl, fun x hx => ht x (List.dropLast_subset l hx)⟩, List.mem_map.mpr ⟨l.getLastD 0, List.mem_filter.mpr ⟨?_, (ht _ hl).2⟩, e⟩⟩
      simpa using (ht _ hl).1
theorem rowsL_rises {q : Nat → Bool} : ∀ k, Rises (rowsL q k)
  | 0 => by simp [rowsL, Rises]
  | k + 1 => by
    rw [rowsL]
    refine flatMap_rises (rowsL_rises k) (fun x _ => letters_rise x q) fun x hx y hy h a ha b hb => ?_
    obtain ⟨c, _, rfl⟩ := List.mem_map.mp ha
    obtain ⟨d, _, rfl⟩ := List.mem_map.mp hb
    exact lt_app h (by rw [(mem_rowsL.mp hx).1, (mem_rowsL.mp hy).1]) _ _
def dueR (w : Nat) (ws : List (List Nat)) (y : List Nat) : Bool := decide (sortT (ringW w y) = ws) && decide (y = leastR y)
theorem ring_letter {w : Nat} (hw : 1 ≤ w) {y : List Nat} {c : Nat} (hc : c ∈ y) : ∃ x ∈ ringW w y, c ∈ x := by
  obtain ⟨i, hi, rfl⟩ := List.mem_iff_getElem.mp hc
  refine ⟨cw y w i, List.mem_map.mpr ⟨i, List.mem_range.mpr hi, rfl⟩, List.mem_map.mpr ⟨0, List.mem_range.mpr hw, ?_⟩⟩
  unfold cyc
  rw [Nat.add_zero, Nat.mod_eq_of_lt hi, getD_get hi]
theorem rings_due {w : Nat} {ws : List (List Nat)} (h : VW w ws) : ringsT w ws = (rowsL (fun c => decide (c ∈ ws.flatten)) ws.length).filter (dueR w ws) := by
  refine rises_ext (setT_rises _) (List.Pairwise.filter _ (rowsL_rises _)) fun y => ?_
  rw [mem_ringsT h.w1 h.n1 h.el, List.mem_filter, mem_rowsL]
  unfold dueR
  rw [Bool.and_eq_true, decide_eq_true_eq, decide_eq_true_eq]
  constructor
  · rintro ⟨h1, h2, h3⟩
    refine ⟨⟨h1, fun c hc => ?_⟩, sorted_eq (sortT_sorted _) h.so ((sortT_perm _).trans h2), h3⟩
    obtain ⟨x, hx, hcx⟩ := ring_letter h.w1 hc
    have hxw := h2.subset hx
    exact ⟨h.t3 x hxw c hcx, decide_eq_true (List.mem_flatten.mpr ⟨x, hxw, hcx⟩)⟩
  · rintro ⟨⟨h1, -⟩, h2, h3⟩
    exact ⟨h1, h2 ▸ (sortT_perm _).symm, h3⟩
theorem T3_cw {a : List Nat} {w i : Nat} (h : T3 a) (h0 : 0 < a.length) : T3 (cw a w i) := fun c hc => by
  obtain ⟨j, _, rfl⟩ := List.mem_map.mp hc
  have := Nat.mod_lt (i + j) h0
  unfold cyc
  rw [getD_get this]
  exact h _ (List.getElem_mem ..)
theorem ring_VW {w : Nat} {a : List Nat} (t : T3 a) (h1 : 1 ≤ a.length) (h9 : a.length ≤ 9) (w1 : 1 ≤ w) (w4 : w ≤ 4) : VW w (sortT (ringW w a)) :=
  .of w1 w4 (by rw [ringW_len]; exact h1) (by rw [ringW_len]; exact h9) fun x hx => by
    obtain ⟨i, _, rfl⟩ := List.mem_map.mp hx
    exact ⟨T3_cw t h1, by simp [cw]⟩
theorem ring_in {w : Nat} {a : List Nat} (t : T3 a) (h1 : 1 ≤ a.length) (h9 : a.length ≤ 9) (w1 : 1 ≤ w) (w4 : w ≤ 4) : leastR a ∈ ringsT w (sortT (ringW w a)) := by
  have v := ring_VW t h1 h9 w1 w4
  have hne : a ≠ [] := fun z => by rw [z] at h1; simp at h1
  obtain ⟨i, hi, e⟩ := leastR_is hne
  rw [mem_ringsT v.w1 v.n1 v.el, sortT_len, ringW_len]
  refine ⟨by rw [e, rot_len], ?_, (leastR_self hne).symm⟩
  rw [e, ringW_rot (by omega)]
  exact rot_perm.trans (sortT_perm _).symm
theorem nin_texts {a : List Nat} {ts : List (List Nat)} {S : Store} : cmA .notin (dt a) (.lst (ts.map dt)) S = .ok (.bl (!decide (a ∈ ts))) S := by
  have o := oks (n := 0) (l := ts.map dt) fun d hd => by
    obtain ⟨t, _, rfl⟩ := List.mem_map.mp hd
    exact ok_str
  have e : inD (dt a) (.lst (ts.map dt)) S = some (decide (a ∈ ts)) := by
    unfold inD
    simp only [D.items]
    rw [sims_pures o.1, decide_eq_true (Nat.le_trans o.2 (show 0 ≤ 30 by decide))]
    show (if (true && true && decide (PyData.depth (dt a).py ≤ 30) && true) = true then some _ else none) = _
    rw [decide_eq_true (show PyData.depth (dt a).py ≤ 30 from Nat.zero_le _)]
    show some _ = some _
    congr 1
    rw [Bool.eq_iff_iff, List.any_eq_true, decide_eq_true_eq]
    constructor
    · rintro ⟨d, hd, hq⟩
      rw [pys_strs] at hd
      obtain ⟨t, ht, rfl⟩ := List.mem_map.mp hd
      have e1 : (dt t) = dt a := (eqv_iff (x := dt t) (y := dt a) rfl rfl).mp hq
      exact dt_inj.mp e1 ▸ ht
    · intro h
      refine ⟨.str (tx a), ?_, ?_⟩
      · rw [pys_strs]
        exact List.mem_map.mpr ⟨a, h, rfl⟩
      · exact (eqv_iff (x := dt a) (y := dt a) rfl rfl).mpr rfl
  unfold cmA
  show (match (inD (dt a) (.lst (ts.map dt)) S).map (!·) with | some c => R.ok (D.bl c) S | none => .bad) = _
  rw [e]
  rfl
theorem ne_dv {w : Nat} {ws : List (List Nat)} {S : Store} : cmA .ne (dv w ws) (dv w ws) S = .ok (.bl false) S := by
  classical
  rw [q_ne (show Ok 30 ((dv w ws).rd S) from ok_dv) (show Ok 30 ((dv w ws).rd S) from ok_dv)]
  simp
theorem eq_textsC {ts us : List (List Nat)} {k : Nat} {S : Store} (g : S[k]? = some (.lst (us.map dt))) : cmA .eq (.lst (ts.map dt)) (.loc k) S = .ok (.bl (decide (ts = us))) S := by
  have e := eq_texts (ts := ts) (us := us) (S := S)
  have r1 : (D.loc k).rd S = .lst (us.map dt) := by
    unfold D.rd
    simp only [g]
  have e2 : eqD (.lst (ts.map dt)) (.loc k) S = eqD (.lst (ts.map dt)) (.lst (us.map dt)) S := by
    unfold eqD
    rw [r1]
    rfl
  show (match eqD (.lst (ts.map dt)) (.loc k) S with | some c => R.ok (D.bl c) S | none => .bad) = _
  rw [e2]
  exact e
local macro_rules
  | `(tactic| simp_arith) => `(tactic| simp -dsimp (disch := first | assumption | omega | (simp only [rv_append, rv_extend, rv_pop, rv_popAt, rv_remove, rv_get, rv_strip, rv_join, rv_split, rv_find, rv_scount, rv_sindex, rv_tcount, rv_tindex, rv_lcount, rv_lindex, g_at, g_at1, g_at2, g_atS, isLst_some, isDct_some, List.getElem?_cons_zero, List.getElem?_cons_succ, List.length_cons, List.length_nil, List.length_map, List.length_append, List.length_take, List.length_drop, List.length_range, List.length_dropLast, lo_strsL, lo_strsT, lo_dt, lo_int, lo_bl, lo_non, lo_tup, lo_lst, los_cons, los_nil, los_dts, Bool.and_true, Bool.and_self] <;> omega) | fail) only [↓wp_bind, ↓w_var, ↓w_cst, ↓w_glb, ↓w_op, ↓w_neg, ↓w_cmp, ↓wp_ift, ↓wp_iff, ↓wp_ifd1, ↓wp_ifd0, ↓wp_ifn1, ↓wp_ifn0, ↓w_chn, ↓w_not, ↓w_and, ↓w_or, ↓w_ite, ↓w_tup, ↓w_lst, ↓w_idx, ↓w_sl, ↓w_call, ↓w_bi, ↓w_mth, ↓w_lc, ↓w_cell, ↓w_snap, ↓w_rev, ↓w_dict, ↓w_sset, ↓w_lset, ↓w_cn, ↓w_cs, ↓w_nil, ↓w_cons, ↓w_on, ↓w_os, ↓w_ie, ↓w_i1, ↓w_i2, ↓w_xnil, ↓w_xcons, ↓w_pass, ↓w_expr, ↓w_set, ↓w_setT, ↓w_par, ↓w_put, ↓w_ret, ↓w_retN, ↓w_ifs, ↓w_for, ↓w_whl, ↓w_brk, ↓w_cnt, ↓w_two, ↓sq_nx, ↓sq_ret, ↓sq_bk, ↓sq_ct, wp_ok, wp_exc, wp_mth, slotR_some, negR_int, intO_int, List.getD_cons_zero, List.getD_cons_succ, List.set_cons_succ, List.set_cons_zero, List.map_cons, List.map_nil, List.length_cons, List.length_nil, List.replicate_succ, List.replicate_zero, List.cons_append, List.nil_append, Nat.reduceAdd, Nat.reduceSub, ret_ret, ret_nx, fin_self, seqR_ok, cellR_lst, p_add, p_sub, p_mul, p_mul', p_mod, q_lt, q_le, q_gt, q_ge, rngR_int, rng2R_int, t_add, t_len, t_cut, t_at, t_eq, t_ne, t_isStr, i_isInt, i_isBool, nc_add, nc_sub, nc_p1, nc_p2, nc_p3, nc_p4, nc_sub1, nc_sub2, nc_1add, nc_mul, Int.toNat_natCast, fin_t, cut_to, cut_from, cut_mid, decide_true, decide_false, Bool.not_true, Bool.not_false, wp_ift, wp_iff, wp_ifd1, wp_ifd0, wp_ifn1, wp_ifn0, b_sortT, b_sortTt, b_tuple_lst, b_tuple_tup, b_list_lst, b_list_tup, b_len_lst, b_len_tup, ss_lst, ss_tup, ls_lst, p_cat, p_catT, c_tup, c_lst, x_tup0, x_tup1, x_lst0, it_lst, it_tup, ← List.map_take, ← List.map_drop, ← List.map_append, List.length_append, List.length_map, List.append_assoc, Nat.zero_add, Nat.add_zero, g_at, g_at1, g_at2, s_at, s_at1, s_at2, g_atS, s_atS, g_set, g_setA, s_set, s_setA, isLst_some, isDct_some, rv_append, rv_extend, rv_pop, rv_popAt, rv_remove, rv_get, rv_strip, rv_join, rv_split, rv_find, rv_scount, rv_sindex, rv_tcount, rv_tindex, rv_lcount, rv_lindex, a_append, a_extend, appendC_some, extendC_some, a_pop, popC_some, a_popAt, popAtC_some, snap_c, snapC_lst, it_c, itC_some, len_c, lenC_some, List.getElem?_cons_zero, List.getElem?_cons_succ, q_tnil, sort_c, sortC_T, tup_c, tupC_some, list_c, listC_lst, dec_le, dec_lt, dec_eq, pc_fold, and_true, true_and, dr_m1, lt_m1, i_eqZ, t_ltq, t_leq])
  | `(tactic| simp_arith [$xs,*]) => `(tactic| simp -dsimp (disch := first | assumption | omega | (simp only [rv_append, rv_extend, rv_pop, rv_popAt, rv_remove, rv_get, rv_strip, rv_join, rv_split, rv_find, rv_scount, rv_sindex, rv_tcount, rv_tindex, rv_lcount, rv_lindex, g_at, g_at1, g_at2, g_atS, isLst_some, isDct_some, List.getElem?_cons_zero, List.getElem?_cons_succ, List.length_cons, List.length_nil, List.length_map, List.length_append, List.length_take, List.length_drop, List.length_range, List.length_dropLast, lo_strsL, lo_strsT, lo_dt, lo_int, lo_bl, lo_non, lo_tup, lo_lst, los_cons, los_nil, los_dts, Bool.and_true, Bool.and_self] <;> omega) | fail) only [↓wp_bind, ↓w_var, ↓w_cst, ↓w_glb, ↓w_op, ↓w_neg, ↓w_cmp, ↓wp_ift, ↓wp_iff, ↓wp_ifd1, ↓wp_ifd0, ↓wp_ifn1, ↓wp_ifn0, ↓w_chn, ↓w_not, ↓w_and, ↓w_or, ↓w_ite, ↓w_tup, ↓w_lst, ↓w_idx, ↓w_sl, ↓w_call, ↓w_bi, ↓w_mth, ↓w_lc, ↓w_cell, ↓w_snap, ↓w_rev, ↓w_dict, ↓w_sset, ↓w_lset, ↓w_cn, ↓w_cs, ↓w_nil, ↓w_cons, ↓w_on, ↓w_os, ↓w_ie, ↓w_i1, ↓w_i2, ↓w_xnil, ↓w_xcons, ↓w_pass, ↓w_expr, ↓w_set, ↓w_setT, ↓w_par, ↓w_put, ↓w_ret, ↓w_retN, ↓w_ifs, ↓w_for, ↓w_whl, ↓w_brk, ↓w_cnt, ↓w_two, ↓sq_nx, ↓sq_ret, ↓sq_bk, ↓sq_ct, wp_ok, wp_exc, wp_mth, slotR_some, negR_int, intO_int, List.getD_cons_zero, List.getD_cons_succ, List.set_cons_succ, List.set_cons_zero, List.map_cons, List.map_nil, List.length_cons, List.length_nil, List.replicate_succ, List.replicate_zero, List.cons_append, List.nil_append, Nat.reduceAdd, Nat.reduceSub, ret_ret, ret_nx, fin_self, seqR_ok, cellR_lst, p_add, p_sub, p_mul, p_mul', p_mod, q_lt, q_le, q_gt, q_ge, rngR_int, rng2R_int, t_add, t_len, t_cut, t_at, t_eq, t_ne, t_isStr, i_isInt, i_isBool, nc_add, nc_sub, nc_p1, nc_p2, nc_p3, nc_p4, nc_sub1, nc_sub2, nc_1add, nc_mul, Int.toNat_natCast, fin_t, cut_to, cut_from, cut_mid, decide_true, decide_false, Bool.not_true, Bool.not_false, wp_ift, wp_iff, wp_ifd1, wp_ifd0, wp_ifn1, wp_ifn0, b_sortT, b_sortTt, b_tuple_lst, b_tuple_tup, b_list_lst, b_list_tup, b_len_lst, b_len_tup, ss_lst, ss_tup, ls_lst, p_cat, p_catT, c_tup, c_lst, x_tup0, x_tup1, x_lst0, it_lst, it_tup, ← List.map_take, ← List.map_drop, ← List.map_append, List.length_append, List.length_map, List.append_assoc, Nat.zero_add, Nat.add_zero, g_at, g_at1, g_at2, s_at, s_at1, s_at2, g_atS, s_atS, g_set, g_setA, s_set, s_setA, isLst_some, isDct_some, rv_append, rv_extend, rv_pop, rv_popAt, rv_remove, rv_get, rv_strip, rv_join, rv_split, rv_find, rv_scount, rv_sindex, rv_tcount, rv_tindex, rv_lcount, rv_lindex, a_append, a_extend, appendC_some, extendC_some, a_pop, popC_some, a_popAt, popAtC_some, snap_c, snapC_lst, it_c, itC_some, len_c, lenC_some, List.getElem?_cons_zero, List.getElem?_cons_succ, q_tnil, sort_c, sortC_T, tup_c, tupC_some, list_c, listC_lst, dec_le, dec_lt, dec_eq, pc_fold, and_true, true_and, dr_m1, lt_m1, i_eqZ, t_ltq, t_leq, $xs,*])
theorem plain03 : Plain G 100000 60 39 := by
  intro ns hns
  refine plain_of G39 (by decide) rfl ?_
  simp only [c39]
  simp_arith
  refine w_view2 (Z := []) (k := 0) 7 hns (by decide) (by decide) (by decide) (by decide) (wf_tw _) fun w ws k1 h _ hk1 => ?_
  rw [sq_nx, w_xcons]
  refine wp_imp (Q' := fun fl S => ∃ (w : Nat) (ws : List (List Nat)) (o3 o4 : Option D) (k : Nat), VW w ws ∧ fl = .nx [some (.scr ns), some (.loc 0), some (dv w ws), o3, o4, none, none, none, none, none, none, none, none] ∧ S = [tw k]) (t' := .mk) ?_ ?_
  · simp_arith
    refine w_draw2 (Z := []) 3 hns (by decide) (by decide) (by omega) fun r hr => ?_
    by_cases c : (r : Int) > 0
    · simp_arith [c]
      refine w_draw2 (Z := []) 4 hns (by decide) (by decide) (by omega) fun r2 hr2 => ?_
      simp_arith
      generalize hv : 1 + r2 = v
      refine w_text2 (Z := []) 1 7 hns (by decide) (by decide) (by decide) (by omega) fun a k2 t2 a1 a2 hk2 => ?_
      have wf := wf_tw k2
      have hv2 : VW v (sortT (ringW v a)) := ring_VW t2 a1 (by omega) (by omega) (by omega)
      have hin := ring_in (w := v) t2 a1 (by omega) (by omega) (by omega)
      simp_arith [s_ringView, s_ringSeen, ne_dv, s_turned, s_rings, nin_texts, hin]
      exact ⟨_, _, _, _, _, hv2, rfl, rfl⟩
    · simp_arith [c]
      exact ⟨_, _, _, _, _, h, rfl, rfl⟩
  · rintro fl S ⟨w, ws, o3, o4, k, h, rfl, rfl⟩
    have := h.w1
    have := h.w4
    have := h.n1
    have := h.n9
    have wf := wf_tw k
    have hfl : (ws.map List.length).sum ≤ 16000000 := by
      have : ∀ l : List (List Nat), (∀ x ∈ l, x.length = w) → (l.map List.length).sum = l.length * w := by
        intro l
        induction l with
        | nil => intro _; simp
        | cons x l ih =>
          intro hx
          rw [List.map_cons, List.sum_cons, ih fun y hy => hx y (List.mem_cons_of_mem _ hy), hx x List.mem_cons_self, List.length_cons, Nat.succ_mul]
          omega
      rw [this ws h.el]
      have : ws.length * w ≤ 9 * 4 := Nat.mul_le_mul (by omega) (by omega)
      omega
    have hj : ∀ S, Mt.app .join (dt []) [.tup (ws.map dt)] S = .ok (dt ws.flatten) S := fun S => by
      rw [← dt_nil]
      exact m_joinT rfl hfl
    generalize hq : (fun c : Nat => decide (c ∈ ws.flatten)) = q
    simp_arith [dt_nil]
    refine wp_forN0 (fun i env S' => ∃ d o1 o2 o3, env = [some (.scr ns), some (.loc 0), some (dv w ws), some (.int (w : Int)), o4, some (.tup (ws.map dt)), some d, o1, o2, o3, none, none, none] ∧ Itr S' d ((rowsL q i).map dt) ∧ Wf S') ⟨_, none, none, none, rfl, .lst, wf⟩ ?_ ?_
    · rintro i env S' hi ⟨d, o1, o2, o3, rfl, ⟨g, hg1, hg2⟩, wf'⟩
      refine ⟨_, rfl, ?_⟩
      have hg := hg1 [.lst []]
      have bl := Nat.le_trans (rowsL_len (q := q) i) (pow12 (show i ≤ 12 by omega))
      simp_arith [hg]
      refine wp_forI (enc := dt) (xs := rowsL q i) (fun p env S'' => ∃ o3, env = [some (.scr ns), some (.loc 0), some (dv w ws), some (.int (w : Int)), o4, some (.tup (ws.map dt)), some d, some (.int (i : Int)), some (.loc S'.length), o3, none, none, none] ∧ S'' = S' ++ [.lst ((p.flatMap (longerL q)).map dt)])
        ⟨o3, rfl, rfl⟩ ?_ ?_ ?_
      · rintro p env S'' ⟨o3, rfl, rfl⟩
        exact hg2 _
      · rintro p x r env S'' hp ⟨o3, rfl, rfl⟩
        refine ⟨_, rfl, ?_⟩
        have hxm : x ∈ rowsL q i := by rw [hp]; simp
        have hxl := (mem_rowsL.mp hxm).1
        have pl : p.length ≤ 531441 := by
          have := congrArg List.length hp
          simp at this
          omega
        have fl := flatMap_len (f := longerL q) (c := 3) (l := p) fun x _ => longerL_len
        have ll := longerL_len (q := q) (l := x)
        simp_arith [it_abc]
        refine wp_lcT (enc := fun c => dt [c]) (xs := [97, 98, 99]) q (fun c => x ++ [c]) (good_none _) (by decide) (fun c hc => ⟨_, rfl, ?_, fun hu => ?_⟩) ?_
        · have hqc : decide (c ∈ ws.flatten) = q c := by rw [← hq]
          simp_arith [hj, in_letter, hqc]
        · simp_arith
        · rw [show ([97, 98, 99].filter q).map (fun c => x ++ [c]) = longerL q x from rfl]
          simp_arith
          exact ⟨_, rfl, by simp [List.flatMap_append]⟩
      · rintro env S'' ⟨o3, rfl, rfl⟩
        simp_arith
        exact ⟨_, _, _, _, rfl, .loc, wf'.strs⟩
    · rintro env S' ⟨d, o1, o2, o3, rfl, ⟨g, hg1, hg2⟩, wf'⟩
      have hg := hg1 [.lst []]
      have bl := Nat.le_trans (rowsL_len (q := q) ws.length) (pow12 (show ws.length ≤ 12 by omega))
      have hdue := rings_due h
      rw [hq] at hdue
      simp_arith [hg]
      refine wp_forI (enc := dt) (xs := rowsL q ws.length) (fun p env S'' => ∃ o3, env = [some (.scr ns), some (.loc 0), some (dv w ws), some (.int (w : Int)), o4, some (.tup (ws.map dt)), some d, o1, o2, o3, none, some (.loc S'.length), none] ∧ S'' = S' ++ [.lst ((p.filter (dueR w ws)).map dt)])
        ⟨o3, rfl, rfl⟩ ?_ ?_ ?_
      · rintro p env S'' ⟨o3, rfl, rfl⟩
        exact hg2 _
      · rintro p x r env S'' hp ⟨o3, rfl, rfl⟩
        refine ⟨_, rfl, ?_⟩
        have hxm : x ∈ rowsL q ws.length := by rw [hp]; simp
        have hxl := (mem_rowsL.mp hxm).1
        have pl : p.length ≤ 531441 := by
          have := congrArg List.length hp
          simp at this
          omega
        have fl := List.length_filter_le (dueR w ws) p
        have wf2 : Wf (S' ++ [.lst ((p.filter (dueR w ws)).map dt)]) := wf'.strs
        by_cases c1 : sortT (ringW w x) = ws
        · simp_arith [s_ringSeen, q_tupT, c1]
          have hne : rots x ≠ [] := rots_ne fun z => by rw [z] at hxl; simp at hxl; omega
          refine wp_mapNT (rot x) (by omega) (fun i hi => ⟨_, rfl, ?_⟩) ?_
          · simp_arith
            rfl
          · rw [show (List.range x.length).map (rot x) = rots x from rfl]
            by_cases c2 : x = leastR x
            · have hdu : dueR w ws x = true := by
                unfold dueR
                rw [decide_eq_true c1, decide_eq_true c2]
                rfl
              have c3 : decide (x = minT (rots x)) = true := decide_eq_true c2
              simp_arith [b_minT hne, c3]
              exact ⟨_, rfl, by simp [List.filter_append, hdu]⟩
            · have hdu : dueR w ws x = false := by
                unfold dueR
                rw [decide_eq_false c2, Bool.and_false]
              have c3 : decide (x = minT (rots x)) = false := decide_eq_false c2
              simp_arith [b_minT hne, c3]
              exact ⟨_, rfl, by simp [List.filter_append, hdu]⟩
        · have hdu : dueR w ws x = false := by
            unfold dueR
            rw [decide_eq_false c1, Bool.false_and]
          simp_arith [s_ringSeen, q_tupT, c1]
          exact ⟨_, rfl, by simp [List.filter_append, hdu]⟩
      · rintro env S'' ⟨o3, rfl, rfl⟩
        have wf2 : Wf (S' ++ [.lst (((rowsL q ws.length).filter (dueR w ws)).map dt)]) := wf'.strs
        have he := eq_textsC (ts := ringsT w ws) (us := (rowsL q ws.length).filter (dueR w ws)) (k := S'.length) (S := S' ++ [.lst (((rowsL q ws.length).filter (dueR w ws)).map dt)]) g_at
        rw [decide_eq_true hdue] at he
        simp_arith [s_rings, he]
end SV
namespace SV.k03
theorem plain : Plain G 100000 60 39 := plain03
end SV.k03
/-! the rows of law_k03_whole_rings (printed by gen.py) -/
namespace SV.k03
open PySem PySem.Spec PyProof.Rows L2
abbrev topS (i : Nat) : Stmt := PySem.Challenge.pw_slitview_k03_whole_rings.main.body.getD i (.Pass ⟨0, 0, 0, 0⟩)
def r__law_cell_at : Row := ⟨0, ("_law_cell_at" : Str), topS 24, ["_law_script", "_law_k"], ["_law_script", "_law_k"]⟩
def r__law_mixed : Row := ⟨24, ("_law_mixed" : Str), topS 25, ["_law_script", "_law_k", "_law_many"], ["_law_script", "_law_k", "_law_many", "_law_drawn"]⟩
def r__law_draw : Row := ⟨25, ("_law_draw" : Str), topS 26, ["_law_script", "_law_town", "_law_many"], ["_law_script", "_law_town", "_law_many"]⟩
def r__law_pick : Row := ⟨26, ("_law_pick" : Str), topS 27, ["_law_script", "_law_town", "_law_some"], ["_law_script", "_law_town", "_law_some"]⟩
def r__law_text : Row := ⟨27, ("_law_text" : Str), topS 28, ["_law_script", "_law_town", "_law_low", "_law_most"], ["_law_script", "_law_town", "_law_low", "_law_most", "_law_few", "_law_made", "_law_k"]⟩
def r__law_seen : Row := ⟨28, ("_law_seen" : Str), topS 29, ["_law_text_here", "_law_width"], ["_law_text_here", "_law_width", "_law_made", "_law_at"]⟩
def r__law_view : Row := ⟨29, ("_law_view" : Str), topS 31, ["_law_script", "_law_town", "_law_most"], ["_law_script", "_law_town", "_law_most", "_law_width", "_law_text_here", "_law_windows", "_law_k", "_law_at", "_law_new", "_law_turn"]⟩
def r_is_letters : Row := ⟨6, ("is_letters" : Str), topS 11, ["thing", "low", "most"], ["thing", "low", "most"]⟩
def r_need_text : Row := ⟨7, ("need_text" : Str), topS 12, ["thing"], ["thing"]⟩
def r_is_whole : Row := ⟨8, ("is_whole" : Str), topS 10, ["thing", "low", "most"], ["thing", "low", "most"]⟩
def r_need_width : Row := ⟨9, ("need_width" : Str), topS 13, ["thing"], ["thing"]⟩
def r_ring_windows : Row := ⟨30, ("ring_windows" : Str), topS 16, ["text", "width"], ["text", "width", "more", "at"]⟩
def r_ring_view : Row := ⟨31, ("ring_view" : Str), topS 17, ["text", "width"], ["text", "width"]⟩
def r_is_view : Row := ⟨32, ("is_view" : Str), topS 14, ["thing"], ["thing", "window"]⟩
def r_need_view : Row := ⟨33, ("need_view" : Str), topS 15, ["thing"], ["thing"]⟩
def r_without : Row := ⟨34, ("without" : Str), topS 20, ["windows", "window"], ["windows", "window", "place"]⟩
def r_grown : Row := ⟨35, ("grown" : Str), topS 21, ["windows", "text", "width"], ["windows", "text", "width", "made", "window"]⟩
def r_rings : Row := ⟨36, ("rings" : Str), topS 22, ["some"], ["some", "width", "windows", "made", "text", "ring", "at"]⟩
def r_turned : Row := ⟨37, ("turned" : Str), topS 18, ["text"], ["text", "at"]⟩
def r__law_ring_seen : Row := ⟨38, ("_law_ring_seen" : Str), topS 30, ["_law_text_here", "_law_width"], ["_law_text_here", "_law_width", "_law_made", "_law_at", "_law_k"]⟩
def r_law : Row := ⟨39, ("law" : Str), topS 32, ["_law_script"], ["_law_script", "_law_town", "_law_some", "_law_width", "_law_text_here", "_law_windows", "_law_rows", "_law_k", "_law_longer", "_law_line", "_law_letter", "_law_due", "_law_at"]⟩
def rows : List Row := [r__law_cell_at, r__law_mixed, r__law_draw, r__law_pick, r__law_text, r__law_seen, r__law_view, r_is_letters, r_need_text, r_is_whole, r_need_width, r_ring_windows, r_ring_view, r_is_view, r_need_view, r_without, r_grown, r_rings, r_turned, r__law_ring_seen, r_law]
def csts : List (Str × D) := [(("LETTERS" : Str), (.str ("abc" : Str))), (("LONG" : Str), (.int 12)), (("WIDTH" : Str), (.int 4)), (("WINDOWS" : Str), (.int 9))]
theorem ok__law_cell_at : r__law_cell_at.ok G (tabOf G rows csts) = true := by decide +kernel
theorem ok__law_mixed : r__law_mixed.ok G (tabOf G rows csts) = true := by decide +kernel
theorem ok__law_draw : r__law_draw.ok G (tabOf G rows csts) = true := by decide +kernel
theorem ok__law_pick : r__law_pick.ok G (tabOf G rows csts) = true := by decide +kernel
theorem ok__law_text : r__law_text.ok G (tabOf G rows csts) = true := by decide +kernel
theorem ok__law_seen : r__law_seen.ok G (tabOf G rows csts) = true := by decide +kernel
theorem ok__law_view : r__law_view.ok G (tabOf G rows csts) = true := by decide +kernel
theorem ok_is_letters : r_is_letters.ok G (tabOf G rows csts) = true := by decide +kernel
theorem ok_need_text : r_need_text.ok G (tabOf G rows csts) = true := by decide +kernel
theorem ok_is_whole : r_is_whole.ok G (tabOf G rows csts) = true := by decide +kernel
theorem ok_need_width : r_need_width.ok G (tabOf G rows csts) = true := by decide +kernel
theorem ok_ring_windows : r_ring_windows.ok G (tabOf G rows csts) = true := by decide +kernel
theorem ok_ring_view : r_ring_view.ok G (tabOf G rows csts) = true := by decide +kernel
theorem ok_is_view : r_is_view.ok G (tabOf G rows csts) = true := by decide +kernel
theorem ok_need_view : r_need_view.ok G (tabOf G rows csts) = true := by decide +kernel
theorem ok_without : r_without.ok G (tabOf G rows csts) = true := by decide +kernel
theorem ok_grown : r_grown.ok G (tabOf G rows csts) = true := by decide +kernel
theorem ok_rings : r_rings.ok G (tabOf G rows csts) = true := by decide +kernel
theorem ok_turned : r_turned.ok G (tabOf G rows csts) = true := by decide +kernel
theorem ok__law_ring_seen : r__law_ring_seen.ok G (tabOf G rows csts) = true := by decide +kernel
theorem ok_law : r_law.ok G (tabOf G rows csts) = true := by decide +kernel
theorem ok_all : ∀ r ∈ rows, r.ok G (tabOf G rows csts) = true := by
  intro r hr
  simp only [rows, List.mem_cons, List.not_mem_nil, or_false] at hr
  rcases hr with rfl | rfl | rfl | rfl | rfl | rfl | rfl | rfl | rfl | rfl | rfl | rfl | rfl | rfl | rfl | rfl | rfl | rfl | rfl | rfl | rfl
  · exact ok__law_cell_at
  · exact ok__law_mixed
  · exact ok__law_draw
  · exact ok__law_pick
  · exact ok__law_text
  · exact ok__law_seen
  · exact ok__law_view
  · exact ok_is_letters
  · exact ok_need_text
  · exact ok_is_whole
  · exact ok_need_width
  · exact ok_ring_windows
  · exact ok_ring_view
  · exact ok_is_view
  · exact ok_need_view
  · exact ok_without
  · exact ok_grown
  · exact ok_rings
  · exact ok_turned
  · exact ok__law_ring_seen
  · exact ok_law
theorem b__law_cell_at : BindF r__law_cell_at := fun _ _ _ _ _ _ us hl => match us, hl with | [_, _], _ => rfl
theorem b__law_mixed : BindF r__law_mixed := fun _ _ _ _ _ _ us hl => match us, hl with | [_, _, _], _ => rfl
theorem b__law_draw : BindF r__law_draw := fun _ _ _ _ _ _ us hl => match us, hl with | [_, _, _], _ => rfl
theorem b__law_pick : BindF r__law_pick := fun _ _ _ _ _ _ us hl => match us, hl with | [_, _, _], _ => rfl
theorem b__law_text : BindF r__law_text := fun _ _ _ _ _ _ us hl => match us, hl with | [_, _, _, _], _ => rfl
theorem b__law_seen : BindF r__law_seen := fun _ _ _ _ _ _ us hl => match us, hl with | [_, _], _ => rfl
theorem b__law_view : BindF r__law_view := fun _ _ _ _ _ _ us hl => match us, hl with | [_, _, _], _ => rfl
theorem b_is_letters : BindF r_is_letters := fun _ _ _ _ _ _ us hl => match us, hl with | [_, _, _], _ => rfl
theorem b_need_text : BindF r_need_text := fun _ _ _ _ _ _ us hl => match us, hl with | [_], _ => rfl
theorem b_is_whole : BindF r_is_whole := fun _ _ _ _ _ _ us hl => match us, hl with | [_, _, _], _ => rfl
theorem b_need_width : BindF r_need_width := fun _ _ _ _ _ _ us hl => match us, hl with | [_], _ => rfl
theorem b_ring_windows : BindF r_ring_windows := fun _ _ _ _ _ _ us hl => match us, hl with | [_, _], _ => rfl
theorem b_ring_view : BindF r_ring_view := fun _ _ _ _ _ _ us hl => match us, hl with | [_, _], _ => rfl
theorem b_is_view : BindF r_is_view := fun _ _ _ _ _ _ us hl => match us, hl with | [_], _ => rfl
theorem b_need_view : BindF r_need_view := fun _ _ _ _ _ _ us hl => match us, hl with | [_], _ => rfl
theorem b_without : BindF r_without := fun _ _ _ _ _ _ us hl => match us, hl with | [_, _], _ => rfl
theorem b_grown : BindF r_grown := fun _ _ _ _ _ _ us hl => match us, hl with | [_, _, _], _ => rfl
theorem b_rings : BindF r_rings := fun _ _ _ _ _ _ us hl => match us, hl with | [_], _ => rfl
theorem b_turned : BindF r_turned := fun _ _ _ _ _ _ us hl => match us, hl with | [_], _ => rfl
theorem b__law_ring_seen : BindF r__law_ring_seen := fun _ _ _ _ _ _ us hl => match us, hl with | [_, _], _ => rfl
theorem b_law : BindF r_law := fun _ _ _ _ _ _ us hl => match us, hl with | [_], _ => rfl
end SV.k03
/-! the law (printed by gen.py) -/
open PySem PySem.W PyProof.Rows SV in
set_option maxHeartbeats 0 in
theorem PySem.Challenge.cw_slitview_k03_whole_rings_holds : PySem.Challenge.rw_slitview_k03_whole_rings.Holds := by
  w_on; o_law; k_head; (case hw => w_witness2)
  k_fill
  refine L2.walk_of (l := PySem.Challenge.rw_slitview_k03_whole_rings) (n := 63) (k := 60) (x := "_law_script") (CX := fun w => L2.CX PySem.Challenge.rw_slitview_k03_whole_rings.prog w) (sp := fun w => SV.lawSp _) rfl (by decide) rfl ⟨rfl, by decide, by decide⟩ (fun w h Y => PySem.W.kIn_of Y) ?F (fun _ _ a ns hl _ hS => ⟨a, ns, rfl, hS, hl, fun _ => rfl⟩) (fun _ _ _ _ _ z => SV.cx_none _ _ _ _ z)
  case F =>
    intro w mg fa h KX Gm hmg
    refine SV.all_mk (fu := 100000) (cls := fun _ => "") (r := SV.k03.r_law) (rows := SV.k03.rows) (csts := SV.k03.csts) KX Gm hmg (by simp [SV.k03.rows]) rfl SV.k03.ok_all ?df ?cf ?bf SV.k03.plain
    case df =>
      clear hmg
      intro r hr
      simp only [SV.k03.rows, List.mem_cons, List.not_mem_nil, or_false] at hr
      rcases hr with rfl | rfl | rfl | rfl | rfl | rfl | rfl | rfl | rfl | rfl | rfl | rfl | rfl | rfl | rfl | rfl | rfl | rfl | rfl | rfl | rfl
      · refine ⟨?_, SV.k03.b__law_cell_at⟩
        show SV.DefF _ ("_law_cell_at" : Str) (SV.k03.topS 24)
        refine' SV.defF_mk ?a0 ?l0 ?c0 ?k0
        (case a0 => k_is); (case l0 => k_is); (case c0 => k_is); (case k0 => k_is)
      · refine ⟨?_, SV.k03.b__law_mixed⟩
        show SV.DefF _ ("_law_mixed" : Str) (SV.k03.topS 25)
        refine' SV.defF_mk ?a1 ?l1 ?c1 ?k1
        (case a1 => k_is); (case l1 => k_is); (case c1 => k_is); (case k1 => k_is)
      · refine ⟨?_, SV.k03.b__law_draw⟩
        show SV.DefF _ ("_law_draw" : Str) (SV.k03.topS 26)
        refine' SV.defF_mk ?a2 ?l2 ?c2 ?k2
        (case a2 => k_is); (case l2 => k_is); (case c2 => k_is); (case k2 => k_is)
      · refine ⟨?_, SV.k03.b__law_pick⟩
        show SV.DefF _ ("_law_pick" : Str) (SV.k03.topS 27)
        refine' SV.defF_mk ?a3 ?l3 ?c3 ?k3
        (case a3 => k_is); (case l3 => k_is); (case c3 => k_is); (case k3 => k_is)
      · refine ⟨?_, SV.k03.b__law_text⟩
        show SV.DefF _ ("_law_text" : Str) (SV.k03.topS 28)
        refine' SV.defF_mk ?a4 ?l4 ?c4 ?k4
        (case a4 => k_is); (case l4 => k_is); (case c4 => k_is); (case k4 => k_is)
      · refine ⟨?_, SV.k03.b__law_seen⟩
        show SV.DefF _ ("_law_seen" : Str) (SV.k03.topS 29)
        refine' SV.defF_mk ?a5 ?l5 ?c5 ?k5
        (case a5 => k_is); (case l5 => k_is); (case c5 => k_is); (case k5 => k_is)
      · refine ⟨?_, SV.k03.b__law_view⟩
        show SV.DefF _ ("_law_view" : Str) (SV.k03.topS 31)
        refine' SV.defF_mk ?a6 ?l6 ?c6 ?k6
        (case a6 => k_is); (case l6 => k_is); (case c6 => k_is); (case k6 => k_is)
      · refine ⟨?_, SV.k03.b_is_letters⟩
        show SV.DefF _ ("is_letters" : Str) (SV.k03.topS 11)
        refine' SV.defF_mk ?a7 ?l7 ?c7 ?k7
        (case a7 => k_is); (case l7 => k_is); (case c7 => k_is); (case k7 => k_is)
      · refine ⟨?_, SV.k03.b_need_text⟩
        show SV.DefF _ ("need_text" : Str) (SV.k03.topS 12)
        refine' SV.defF_mk ?a8 ?l8 ?c8 ?k8
        (case a8 => k_is); (case l8 => k_is); (case c8 => k_is); (case k8 => k_is)
      · refine ⟨?_, SV.k03.b_is_whole⟩
        show SV.DefF _ ("is_whole" : Str) (SV.k03.topS 10)
        refine' SV.defF_mk ?a9 ?l9 ?c9 ?k9
        (case a9 => k_is); (case l9 => k_is); (case c9 => k_is); (case k9 => k_is)
      · refine ⟨?_, SV.k03.b_need_width⟩
        show SV.DefF _ ("need_width" : Str) (SV.k03.topS 13)
        refine' SV.defF_mk ?a10 ?l10 ?c10 ?k10
        (case a10 => k_is); (case l10 => k_is); (case c10 => k_is); (case k10 => k_is)
      · refine ⟨?_, SV.k03.b_ring_windows⟩
        show SV.DefF _ ("ring_windows" : Str) (SV.k03.topS 16)
        refine' SV.defF_mk ?a11 ?l11 ?c11 ?k11
        (case a11 => k_is); (case l11 => k_is); (case c11 => k_is); (case k11 => k_is)
      · refine ⟨?_, SV.k03.b_ring_view⟩
        show SV.DefF _ ("ring_view" : Str) (SV.k03.topS 17)
        refine' SV.defF_mk ?a12 ?l12 ?c12 ?k12
        (case a12 => k_is); (case l12 => k_is); (case c12 => k_is); (case k12 => k_is)
      · refine ⟨?_, SV.k03.b_is_view⟩
        show SV.DefF _ ("is_view" : Str) (SV.k03.topS 14)
        refine' SV.defF_mk ?a13 ?l13 ?c13 ?k13
        (case a13 => k_is); (case l13 => k_is); (case c13 => k_is); (case k13 => k_is)
      · refine ⟨?_, SV.k03.b_need_view⟩
        show SV.DefF _ ("need_view" : Str) (SV.k03.topS 15)
        refine' SV.defF_mk ?a14 ?l14 ?c14 ?k14
        (case a14 => k_is); (case l14 => k_is); (case c14 => k_is); (case k14 => k_is)
      · refine ⟨?_, SV.k03.b_without⟩
        show SV.DefF _ ("without" : Str) (SV.k03.topS 20)
        refine' SV.defF_mk ?a15 ?l15 ?c15 ?k15
        (case a15 => k_is); (case l15 => k_is); (case c15 => k_is); (case k15 => k_is)
      · refine ⟨?_, SV.k03.b_grown⟩
        show SV.DefF _ ("grown" : Str) (SV.k03.topS 21)
        refine' SV.defF_mk ?a16 ?l16 ?c16 ?k16
        (case a16 => k_is); (case l16 => k_is); (case c16 => k_is); (case k16 => k_is)
      · refine ⟨?_, SV.k03.b_rings⟩
        show SV.DefF _ ("rings" : Str) (SV.k03.topS 22)
        refine' SV.defF_mk ?a17 ?l17 ?c17 ?k17
        (case a17 => k_is); (case l17 => k_is); (case c17 => k_is); (case k17 => k_is)
      · refine ⟨?_, SV.k03.b_turned⟩
        show SV.DefF _ ("turned" : Str) (SV.k03.topS 18)
        refine' SV.defF_mk ?a18 ?l18 ?c18 ?k18
        (case a18 => k_is); (case l18 => k_is); (case c18 => k_is); (case k18 => k_is)
      · refine ⟨?_, SV.k03.b__law_ring_seen⟩
        show SV.DefF _ ("_law_ring_seen" : Str) (SV.k03.topS 30)
        refine' SV.defF_mk ?a19 ?l19 ?c19 ?k19
        (case a19 => k_is); (case l19 => k_is); (case c19 => k_is); (case k19 => k_is)
      · refine ⟨?_, SV.k03.b_law⟩
        show SV.DefF _ ("law" : Str) (SV.k03.topS 32)
        refine' SV.defF_mk ?a20 ?l20 ?c20 ?k20
        (case a20 => k_is); (case l20 => k_is); (case c20 => k_is); (case k20 => k_is)
    case cf =>
      clear hmg
      intro p hp
      simp only [SV.k03.csts, List.mem_cons, List.not_mem_nil, or_false] at hp
      rcases hp with rfl | rfl | rfl | rfl
      · refine' SV.cstS_mk ?z0
        (case z0 => k_is)
      · refine' SV.cstI_mk ?z1
        (case z1 => k_is)
      · refine' SV.cstI_mk ?z2
        (case z2 => k_is)
      · refine' SV.cstI_mk ?z3
        (case z3 => k_is)
    case bf =>
      clear hmg
      intro x hx
      simp only [SV.bltNames, List.mem_cons, List.not_mem_nil, or_false] at hx
      rcases hx with rfl | rfl | rfl | rfl | rfl | rfl | rfl | rfl | rfl | rfl | rfl | rfl | rfl | rfl | rfl
      · k_is
      · k_is
      · k_is
      · k_is
      · k_is
      · k_is
      · k_is
      · k_is
      · k_is
      · k_is
      · k_is
      · k_is
      · k_is
      · k_is
      · k_is
