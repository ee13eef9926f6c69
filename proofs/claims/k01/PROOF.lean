import PyProof.Rows.All
import Wide.All
import OpenK.AllK
import Wide.FinOn
import HandS.ForMost
import HandS.Flow
import HandS.ForExc
import HandS.Wide
import HandS.Deep
import HandS.TupAny
import HandS.Style
import HandS.Gcd
import HandS.More
import HandS.IsInst
import HandS.TryMany
import HandS.ExcInit
import HandS.ExcField
import HandS.FStr
import KE.SortData
import HandS.HeadHook1
import HandS.TupMul
import PyProof.StrOps2
import HandS.RaiseMore
import HandS.Defaults
import HandS.ExcIs
import HandS.Strs
import HandS.ClsMeth
import PyProof.ReprRoads
import KE.KExcIs
import HandS.Head0
import HandS.Head1
import HandS.Head2
import HandS.Head3
import HandS.HeadEnd
import HandS.HeadHook2
import HandS.HeadHook4
import HandS.Codes
import PySem.Challenge.RW_ledgerloom_k01_errors
set_option Elab.async false
set_option linter.all false
set_option maxRecDepth 100000
set_option maxHeartbeats 4000000
/-! LA: the core language: data, values, stores; its syntax without positions; its evaluator. -/
namespace LL
open PySem PySem.Spec PyProof.Rows L2

/-! ### data, values, stores -/
/-- data that stand still: frz is a list known to the caller (the script), dct is a dict that is no more changed, obj an object of an own class (its names ks, their values), exc an own error that keeps x under the name f -/
inductive D where
  | non | bl (b : Bool) | int (i : Int) | str (s : Str)
  | tup (xs : List D) | lst (xs : List D) | frz (xs : List D)
  | dct (kvs : List (D × D)) | obj (c : Str) (ks : List Str) (fs : List D) | exc (c f : Str) (x : D)
/-- a value: data, or an object of the store by its number -/
inductive W where
  | d (x : D) | ref (i : Nat)
/-- objects that may be changed -/
inductive Ob where
  | lst (ws : List W) | dct (kvs : List (D × W)) | ins (c : Str) (ks : List Str) (ws : List W)
abbrev Sto := List Ob
abbrev Ev := List (Option W)
/-- what an expression comes to -/
inductive R (α : Type) where
  | ok (a : α) (st : Sto) | exc (c : Nat) (p : D) (st : Sto) | bad
/-- what a statement comes to -/
inductive F where
  | nx (env : Ev) (st : Sto) | ret (w : W) (st : Sto) | bk (env : Ev) (st : Sto) | ct (env : Ev) (st : Sto) | exc (c : Nat) (p : D) (env : Ev) (st : Sto) | bad

def R.bind {α β : Type} (r : R α) (f : α → Sto → R β) : R β := match r with
  | .ok a st => f a st
  | .exc c p st => .exc c p st
  | .bad => .bad
@[simp] theorem R.bind_ok {α β : Type} (a : α) (st : Sto) (f : α → Sto → R β) : (R.ok a st).bind f = f a st := rfl
@[simp] theorem R.bind_exc {α β : Type} (c : Nat) (p : D) (st : Sto) (f : α → Sto → R β) : (R.exc c p st).bind f = .exc c p st := rfl
@[simp] theorem R.bind_bad {α β : Type} (f : α → Sto → R β) : (R.bad : R α).bind f = .bad := rfl
/-- an expression within a statement -/
def R.thn {α : Type} (r : R α) (env : Ev) (f : α → Sto → F) : F := match r with
  | .ok a st => f a st
  | .exc c p st => .exc c p env st
  | .bad => .bad
@[simp] theorem R.thn_ok {α : Type} (a : α) (st : Sto) (env : Ev) (f : α → Sto → F) : (R.ok a st).thn env f = f a st := rfl
@[simp] theorem R.thn_exc {α : Type} (c : Nat) (p : D) (st : Sto) (env : Ev) (f : α → Sto → F) : (R.exc c p st).thn env f = .exc c p env st := rfl
@[simp] theorem R.thn_bad {α : Type} (env : Ev) (f : α → Sto → F) : (R.bad : R α).thn env f = .bad := rfl
def ofO {α : Type} (o : Option α) (st : Sto) : R α := match o with
  | some a => .ok a st
  | none => .bad
@[simp] theorem ofO_some {α : Type} (a : α) (st : Sto) : ofO (some a) st = .ok a st := rfl
@[simp] theorem ofO_none {α : Type} (st : Sto) : ofO (none : Option α) st = .bad := rfl

mutual
/-- as the library's data (what it doesn't have: a dict, which no rule takes) -/
def D.py : D → PyData
  | .non => .none
  | .bl b => .bool b
  | .int i => .int i
  | .str s => .str s
  | .tup xs => .tuple (D.pys xs)
  | .lst xs => .list (D.pys xs)
  | .frz _ => .dict []
  | .dct _ => .dict []
  | .obj _ _ _ => .dict []
  | .exc _ _ _ => .dict []
def D.pys : List D → List PyData
  | [] => []
  | x :: xs => D.py x :: D.pys xs
end
theorem D.pys_map : ∀ xs : List D, D.pys xs = xs.map D.py
  | [] => rfl
  | x :: xs => by rw [D.pys, D.pys_map xs]; rfl
/-- plain data, nested at most 64 deep -/
def D.shp (x : D) : Bool := SeqAt.shaped x.py

def allD : List W → Option (List D)
  | [] => some []
  | .d x :: ws => (allD ws).map (x :: ·)
  | .ref _ :: _ => none
def mapO {α β : Type} (f : α → Option β) : List α → Option (List β)
  | [] => some []
  | x :: xs => match f x with
    | some y => (mapO f xs).map (y :: ·)
    | none => none
/-- a value with all that it has, taken out of the store -/
def frz : Nat → Sto → W → Option D
  | _, _, .d x => some x
  | 0, _, .ref _ => none
  | k + 1, st, .ref i => match st[i]? with
    | some (.lst ws) => (mapO (frz k st) ws).map .lst
    | some (.ins c ks ws) => (mapO (frz k st) ws).map (.obj c ks)
    | some (.dct kvs) => (mapO (fun p => (frz k st p.2).map fun y => (p.1, y)) kvs).map .dct
    | none => none
/-- a store's list of data -/
def frzL (st : Sto) : W → Option (List D)
  | .ref i => match st[i]? with
    | some (.lst ws) => allD ws
    | _ => none
  | _ => none
/-- the items of a list, a tuple -/
def itemsL (st : Sto) : W → Option (List W)
  | .d (.lst xs) => some (xs.map .d)
  | .ref i => match st[i]? with
    | some (.lst ws) => some ws
    | _ => none
  | _ => none
/-- a new list: changed later (m), or never -/
def newL (m : Bool) (ws : List W) (st : Sto) : R W :=
  if ws.length ≤ sizeLine then
    if m then .ok (.ref st.length) (st ++ [.lst ws]) else match allD ws with
      | some ds => .ok (.d (.lst ds)) st
      | none => .bad
  else .bad
def cutL {α : Type} (xs : List α) (lo hi : Option Int) : List α := (xs.drop (HT.sIx xs.length 0 lo)).take (HT.sIx xs.length xs.length hi - HT.sIx xs.length 0 lo)

/-! ### operators -/
def binI (op : Operator) (i j : Int) : Option Int := match op with
  | .Add => some (i + j)
  | .Sub => some (i - j)
  | .Mult => if i.natAbs.log2 + j.natAbs.log2 < 1000000 then some (i * j) else none
  | .FloorDiv => if 0 < j ∧ j.natAbs.log2 < 9000 then some (i / j) else none
  | .Mod => if 0 < j then some (i % j) else none
  | .Pow => if 0 ≤ j ∧ j ≤ 1000000 ∧ i.natAbs < 2 ^ 64 then some (i ^ j.toNat) else none
  | _ => none
/-- a text, a tuple, many times -/
def mulStr (z : Str) (k : Int) : Str := if k < 1 then Str.empty else if (k == 1 || z.length == 0) = true then z else ⟨(List.replicate k.toNat z.cps).foldl (· ++ ·) #[]⟩
def mulS (z : Str) (k : Int) (st : Sto) : R W := if 0 < z.length ∧ z.length ≤ 200 ∧ -1000 ≤ k ∧ k ≤ 5000 then .ok (.d (.str (mulStr z k))) st else .bad
def mulT (xs : List D) (k : Int) (st : Sto) : R W := if (xs.isEmpty || k == 1) = true ∧ -1000 ≤ k ∧ k ≤ 1000 then .ok (.d (.tup xs)) st
  else if xs.isEmpty = false ∧ 2 ≤ k ∧ k ≤ 1000 ∧ xs.length ≤ 1000 then .ok (.d (.tup (List.replicate k.toNat xs).flatten)) st else .bad
/-- two values by an operator; m: a list that comes is changed later -/
def binW (op : Operator) (m : Bool) (a b : W) (st : Sto) : R W := match a, b with
  | .d (.int i), .d (.int j) => ofO ((binI op i j).map fun k => .d (.int k)) st
  | .d (.str x), .d (.str y) => if op = .Add ∧ x.length + y.length ≤ sizeLine then .ok (.d (.str (x ++ y))) st else .bad
  | .d (.tup xs), .d (.tup ys) => if op = .Add ∧ xs.length + ys.length ≤ sizeLine then .ok (.d (.tup (xs ++ ys))) st else .bad
  | .d (.str z), .d (.int k) => if op = .Mult then mulS z k st else .bad
  | .d (.tup xs), .d (.int k) => if op = .Mult then mulT xs k st else .bad
  | a, b => if op = .Add then match itemsL st a, itemsL st b with
      | some xs, some ys => newL m (xs ++ ys) st
      | _, _ => .bad
    else .bad

def cmpI (op : CmpOp) (i j : Int) : Option Bool := match op with
  | .Lt => some (decide (i < j))
  | .LtE => some (decide (i ≤ j))
  | .Gt => some (decide (j < i))
  | .GtE => some (decide (j ≤ i))
  | _ => none
def cmpS (op : CmpOp) (x y : Str) : Option Bool := match op with
  | .Lt => some (decide (x.cps.toList < y.cps.toList))
  | .LtE => some (!decide (y.cps.toList < x.cps.toList))
  | .Gt => some (decide (y.cps.toList < x.cps.toList))
  | .GtE => some (!decide (x.cps.toList < y.cps.toList))
  | _ => none
def eqO (st : Sto) (a b : W) : Option Bool := match frz 8 st a, frz 8 st b with
  | some x, some y => if x.shp = true ∧ y.shp = true then some (PyData.eqv x.py y.py) else none
  | _, _ => none
/-- one sign -/
def sign? (x : Str) : Option Nat := match x.cps.toList with
  | [c] => some c
  | _ => none
def inO (st : Sto) (a b : W) : Option Bool := match a, b with
  | .d (.str x), .d (.str z) => (sign? x).map fun c => decide (c ∈ z.cps.toList)
  | a, .d (.tup ys) => match frz 8 st a with
    | some x => if x.shp = true ∧ (D.tup ys).shp = true then some ((D.pys ys).any fun z => PyData.eqv z x.py) else none
    | none => none
  | a, b => match frz 8 st a, frz 8 st b with
    | some x, some (.lst ys) => if x.shp = true ∧ (D.lst ys).shp = true then some ((D.pys ys).any fun z => PyData.eqv z x.py) else none
    | _, _ => none
def isO (a b : W) : Option Bool := match a, b with
  | .d .non, .d .non => some true
  | _, .d .non => some false
  | .d (.bl x), .d (.bl y) => some (decide (x = y))
  | _, _ => none
def cmpO (op : CmpOp) (a b : W) (st : Sto) : Option Bool := match op with
  | .Eq => eqO st a b
  | .NotEq => (eqO st a b).map (!·)
  | .In => inO st a b
  | .NotIn => (inO st a b).map (!·)
  | .Is => isO a b
  | .IsNot => (isO a b).map (!·)
  | op => match a, b with
    | .d (.int i), .d (.int j) => cmpI op i j
    | .d (.str x), .d (.str y) => cmpS op x y
    | _, _ => none
def cmpW (op : CmpOp) (a b : W) (st : Sto) : R W := ofO ((cmpO op a b st).map fun k => .d (.bl k)) st

def truth (st : Sto) : W → Option Bool
  | .d .non => some false
  | .d (.bl b) => some b
  | .d (.int i) => some (i != 0)
  | .d (.str s) => if s.length ≤ sizeLine then some (s.length != 0) else none
  | .d (.tup xs) => some (!xs.isEmpty)
  | .d (.lst xs) => some (!xs.isEmpty)
  | .ref i => match st[i]? with
    | some (.lst ws) => some (!ws.isEmpty)
    | _ => none
  | _ => none

/-! ### subscripts, slices -/
def ixW (a i : W) (st : Sto) : R W := match i with
  | .d (.int k) => (match a with
    | .d (.tup xs) => ofO ((atI xs k).map .d) st
    | .d (.lst xs) => ofO ((atI xs k).map .d) st
    | .d (.frz xs) => ofO ((atI xs k).map .d) st
    | .d (.str s) => if s.length ≤ sizeLine then ofO ((atI s.cps.toList k).map fun c => .d (.str ⟨#[c]⟩)) st else .bad
    | .ref r => match st[r]? with
      | some (.lst ws) => ofO (atI ws k) st
      | _ => .bad
    | _ => .bad)
  | _ => .bad
def slW (m : Bool) (a : W) (lo hi : Option Int) (st : Sto) : R W := match a with
  | .d (.tup xs) => .ok (.d (.tup (cutL xs lo hi))) st
  | .d (.str s) => if s.length ≤ sizeLine then .ok (.d (.str (cutS s lo hi))) st else .bad
  | a => match itemsL st a with
    | some ws => newL m (cutL ws lo hi) st
    | none => .bad

/-! ### built-in functions, methods -/
inductive Bi where
  | len | abs | int | str | ord | tup | lst | gcd | all | any | sum | max2 | min2 | sorted
def lenO (st : Sto) : W → Option Nat
  | .d (.tup xs) => some xs.length
  | .d (.lst xs) => some xs.length
  | .d (.frz xs) => some xs.length
  | .d (.str s) => if s.length ≤ sizeLine then some s.length else none
  | .ref i => match st[i]? with
    | some (.lst ws) => some ws.length
    | _ => none
  | _ => none
/-- all items are bools -/
def blsO : List D → Option (List Bool)
  | [] => some []
  | .bl b :: r => (blsO r).map (b :: ·)
  | _ :: _ => none
def intsO : List D → Option (List Int)
  | [] => some []
  | .int i :: r => (intsO r).map (i :: ·)
  | _ :: _ => none
/-- one argument, two -/
def arg1 (ws : List W) (f : W → R W) : R W := match ws with
  | [a] => f a
  | _ => .bad
def arg2 (ws : List W) (f : W → W → R W) : R W := match ws with
  | [a, b] => f a b
  | _ => .bad
def bInt (st : Sto) (a : W) : R W := match a with
  | .d (.int i) => .ok (.d (.int i)) st
  | .d (.bl k) => .ok (.d (.int (if k then 1 else 0))) st
  | .d (.str x) => (match PySem.intText? x with
    | some n => if x.length ≤ 640 then .ok (.d (.int n)) st else .bad
    | none => .bad)
  | _ => .bad
def bStr (st : Sto) (a : W) : R W := match a with
  | .d (.int i) => if i.natAbs.log2 < 1920 then .ok (.d (.str (toString i))) st else .bad
  | .d (.str x) => .ok (.d (.str x)) st
  | _ => .bad
def bTup (st : Sto) (a : W) : R W := match a with
  | .d (.tup xs) => .ok (.d (.tup xs)) st
  | a => (match itemsL st a with
    | some ws => (match allD ws with
      | some ds => .ok (.d (.tup ds)) st
      | none => .bad)
    | none => .bad)
def bLst (m : Bool) (st : Sto) (a : W) : R W := match a with
  | .d (.tup xs) => newL m (xs.map .d) st
  | a => (match itemsL st a with
    | some ws => newL m ws st
    | none => .bad)
def bAll (st : Sto) (a : W) : R W := match a with
  | .d (.lst xs) => ofO ((blsO xs).map fun l => .d (.bl (l.all id))) st
  | _ => .bad
def bAny (st : Sto) (a : W) : R W := match a with
  | .d (.lst xs) => ofO ((blsO xs).map fun l => .d (.bl (l.any id))) st
  | _ => .bad
def bSum (st : Sto) (a : W) : R W := match a with
  | .d (.lst xs) => ofO ((intsO xs).map fun l => .d (.int l.sum)) st
  | _ => .bad
def bAbs (st : Sto) (a : W) : R W := match a with
  | .d (.int i) => .ok (.d (.int (if i < 0 then -i else i))) st
  | _ => .bad
def bOrd (st : Sto) (a : W) : R W := match a with
  | .d (.str x) => ofO ((sign? x).map fun c => .d (.int c)) st
  | _ => .bad
/-- what is sorted -/
def alikeB (ds : List D) : Bool := ds.all fun a => ds.all fun b => PySem.W.alike a.py b.py
def sortB (ds : List D) : Bool := ds.all (fun a => match a.py with | .tuple (_ :: _) => true | _ => false) || ds.all (fun a => match a.py with | .none => false | .tuple _ => false | _ => true)
def sortD (ds : List D) : List D := ds.mergeSort (PySem.W.dataLe false D.py)
def seqL (st : Sto) : W → Option (List W)
  | .d (.tup xs) => some (xs.map .d)
  | a => itemsL st a
def bSorted (m : Bool) (st : Sto) (a : W) : R W := match seqL st a with
  | some ws => (match allD ws with
    | some ds => if ds.all D.shp = true ∧ alikeB ds = true ∧ sortB ds = true ∧ ds.length ≤ sizeLine then newL m ((sortD ds).map .d) st else .bad
    | none => .bad)
  | none => .bad
def int2 (st : Sto) (f : Int → Int → Int) (a b : W) : R W := match a, b with
  | .d (.int i), .d (.int j) => .ok (.d (.int (f i j))) st
  | _, _ => .bad
def biW (b : Bi) (m : Bool) (ws : List W) (st : Sto) : R W := match b with
  | .len => arg1 ws fun a => ofO ((lenO st a).map fun n => .d (.int n)) st
  | .abs => arg1 ws (bAbs st)
  | .int => arg1 ws (bInt st)
  | .str => arg1 ws (bStr st)
  | .ord => arg1 ws (bOrd st)
  | .tup => arg1 ws (bTup st)
  | .lst => arg1 ws (bLst m st)
  | .gcd => arg2 ws (int2 st fun i j => ((Nat.gcd i.natAbs j.natAbs : Nat) : Int))
  | .all => arg1 ws (bAll st)
  | .any => arg1 ws (bAny st)
  | .sum => arg1 ws (bSum st)
  | .max2 => arg2 ws (int2 st fun i j => if j > i then j else i)
  | .min2 => arg2 ws (int2 st fun i j => if j < i then j else i)
  | .sorted => arg1 ws (bSorted m st)
/-- classes that isinstance asks of -/
inductive Ty where
  | int | bool | str | tup | lst | own (c : Nat)
def isiO (t : Ty) (st : Sto) (a : W) : Option Bool := match a with
  | .d .non => some false
  | .d (.bl _) => some (match t with | .int => true | .bool => true | _ => false)
  | .d (.int _) => some (match t with | .int => true | _ => false)
  | .d (.str _) => some (match t with | .str => true | _ => false)
  | .d (.tup _) => some (match t with | .tup => true | _ => false)
  | .d (.lst _) => some (match t with | .lst => true | _ => false)
  | .d (.frz _) => some (match t with | .lst => true | _ => false)
  | .ref i => (match st[i]? with
    | some (.lst _) => some (match t with | .lst => true | _ => false)
    | _ => none)
  | _ => none
inductive Me where
  | append | insert | pop | extend | index | split | join
def setL (st : Sto) (i : Nat) (ws : List W) : Sto := st.set i (.lst ws)
def insL {α : Type} (k : Nat) (x : α) (xs : List α) : List α := xs.take k ++ x :: xs.drop k
def lstAt (st : Sto) (o : W) (f : Nat → List W → R W) : R W := match o with
  | .ref i => (match st[i]? with
    | some (.lst xs) => f i xs
    | _ => .bad)
  | _ => .bad
def mSplit (m : Bool) (st : Sto) (o w : W) : R W := match o, w with
  | .d (.str a), .d (.str b) => if (b.length == 0) = false ∧ a.length + 2 ≤ sizeLine then newL m ((Txt.split a b).map fun z => .d (.str z)) st else .bad
  | _, _ => .bad
def mIns (st : Sto) (i : Nat) (xs : List W) (k w : W) : R W := match k with
  | .d (.int k) => if xs.length < sizeLine ∧ 0 ≤ k ∧ k < 2 ^ 63 then .ok (.d .non) (setL st i (insL k.toNat w xs)) else .bad
  | _ => .bad
def mExt (st : Sto) (i : Nat) (xs : List W) (w : W) : R W := match itemsL st w with
  | some ys => if xs.length + ys.length ≤ sizeLine then .ok (.d .non) (setL st i (xs ++ ys)) else .bad
  | none => .bad
/-- the first that is alike -/
def idxO (d : PyData) : List PyData → Option Nat
  | [] => none
  | z :: zs => if PyData.eqv z d = true then some 0 else (idxO d zs).map (· + 1)
def mIdx (st : Sto) (o w : W) : R W := match frz 8 st o, frz 8 st w with
  | some (.lst ds), some x => if (D.lst ds).shp = true ∧ x.shp = true then ofO ((idxO x.py (D.pys ds)).map fun j => .d (.int (j : Nat))) st else .bad
  | _, _ => .bad
def strsO : List W → Option (List Str)
  | [] => some []
  | .d (.str y) :: r => (strsO r).map (y :: ·)
  | _ :: _ => none
def idxS (z : Str) : List Str → Option Nat
  | [] => none
  | y :: ys => if y = z then some 0 else (idxS z ys).map (· + 1)
def tixW (ws : List W) (w : W) (st : Sto) : R W := match strsO ws, w with
  | some ys, .d (.str z) => ofO ((idxS z ys).map fun j => .d (.int (j : Nat))) st
  | _, _ => .bad
def sttW (g : Bool) (a : W) (st : Sto) : R W := match a with
  | .d (.tup xs) => if g = true ∧ (D.tup xs).shp = true ∧ (D.tup xs).py.showable = true ∧ (D.tup xs).py.hasDict = false ∧ (D.tup xs).py.shown.length ≤ sizeLine then .ok (.d (.str (D.tup xs).py.shown)) st else .bad
  | _ => .bad
def mJoin (st : Sto) (o w : W) : R W := match o with
  | .d (.str a) => (match seqL st w with
    | some ws => (match strsO ws with
      | some ys => if (ys.map (·.length)).sum + ys.length * a.length ≤ 16777216 then .ok (.d (.str (Txt.join a ys))) st else .bad
      | none => .bad)
    | none => .bad)
  | _ => .bad
def meW (e : Me) (m : Bool) (o : W) (ws : List W) (st : Sto) : R W := match e with
  | .append => lstAt st o fun i xs => arg1 ws fun w => if xs.length < sizeLine then .ok (.d .non) (setL st i (xs ++ [w])) else .bad
  | .pop => lstAt st o fun i xs => (match ws, xs.getLast? with
    | [], some w => .ok w (setL st i xs.dropLast)
    | _, _ => .bad)
  | .insert => lstAt st o fun i xs => arg2 ws (mIns st i xs)
  | .split => arg1 ws (mSplit m st o)
  | .extend => lstAt st o fun i xs => arg1 ws (mExt st i xs)
  | .index => arg1 ws (mIdx st o)
  | .join => arg1 ws (mJoin st o)
/-- what a method's object must be -/
def strB : W → Bool
  | .d (.str _) => true
  | _ => false
def lstB (st : Sto) : W → Bool
  | .ref i => (match st[i]? with | some (.lst _) => true | _ => false)
  | _ => false
def recvB (e : Me) (st : Sto) (x : W) : Bool := match e with
  | .split => strB x
  | .join => strB x
  | .index => (itemsL st x).isSome
  | _ => lstB st x

/-! ### the syntax -/
inductive Md where
  | pure | new | sh
inductive Pa where
  | v (i : Nat) | t (is : List Nat)
mutual
inductive CE where
  | var (i : Nat)
  | gc (k : Nat)
  | lit (x : Const)
  | tup (es : CEs)
  | lst (m : Bool) (es : CEs)
  | bin (op : Operator) (m : Bool) (a b : CE)
  | neg (a : CE)
  | bnot (a : CE)
  | conj (a b : CE)
  | disj (a b : CE)
  | cmp (op : CmpOp) (a b : CE)
  | chain (op op' : CmpOp) (a b c : CE)
  | ifx (c a b : CE)
  | ix (a i : CE)
  | sl (m : Bool) (a : CE) (lo hi : CO)
  | call (f : Nat) (md : Md) (es : CEs)
  | bi (b : Bi) (m : Bool) (es : CEs)
  | isi (t : Ty) (a : CE)
  | meth (e : Me) (m : Bool) (o : CE) (es : CEs)
  | comp (m : Bool) (elt : CE) (p : Pa) (it : CI) (own : List Nat)
  | compIf (m : Bool) (elt : CE) (p : Pa) (it : CI) (c : CE) (own : List Nat)
  | fstr (es : CEs)
  /-- (e1, .., en).index(a), all texts -/
  | tix (es : CEs) (a : CE)
  /-- str(a), a tuple -/
  | stt (a : CE)
  /-- what is never run -/
  | un
  /-- an own error, not raised: the class of number c, its name x, what it keeps under the name f -/
  | mke (c : Nat) (x f : Str) (e : CE)
  /-- a.f -/
  | att (f : Str) (a : CE)
  /-- isinstance(a, y) of an own error -/
  | isx (y : Str) (a : CE)
  /-- a new object of the class x; f: its __init__ -/
  | new (f : Nat) (x : Str) (es : CEs)
inductive CEs where
  | nil
  | cons (e : CE) (es : CEs)
inductive CO where
  | no
  | yes (e : CE)
inductive CI where
  | e (a : CE)
  | rng1 (a : CE)
  | rng2 (a b : CE)
end
/-- how a caught error is answered; i: the slot of its name: (word, what it keeps) | what it keeps | a word | (without a name) None -/
inductive Hd where
  | pair (i : Nat) (x : Str) | val (i : Nat) | cst (i : Nat) (x : Str) | non
  /-- whether it is of the class c and keeps the text z -/
  | isv (i c : Nat) (z : Str)
mutual
inductive CS where
  | asg (i : Nat) (e : CE)
  | asgT (is : List Nat) (e : CE)
  | par (is : List Nat) (es : CEs)
  | aug (i : Nat) (op : Operator) (e : CE)
  | setIx (o i v : CE)
  | ex (e : CE)
  | ret (e : CE)
  | retN
  | ifs (c : CE) (a b : CSs)
  | fors (p : Pa) (it : CI) (b : CSs)
  | whl (c : CE) (b : CSs)
  | raise (c : Nat) (e : CE)
  | tri (b : CSs) (hs : List (Nat × Hd))
  | pass | brk | cont
  /-- never run -/
  | un
inductive CSs where
  | nil
  | cons (s : CS) (r : CSs)
end

/-! ### the evaluator -/
/-- what defs, constants, error classes stand under the numbers -/
structure FD where
  np : Nat
  nv : Nat
  body : CSs
structure Tab where
  fn : Nat → Option FD
  cn : Nat → Option D
  /-- whether an error of the first class is caught by the second -/
  sub : Nat → Nat → Bool
  /-- whether no text of a tuple is under way (within the law's own text) -/
  grd : Bool
  /-- an own error's name that may be read -/
  xa : Str → Str → Bool
  /-- whether an own error of the first class is one of the second -/
  isa : Str → Str → Option Bool
/-- calls, by the number, the values, the store -/
abbrev Cal := Nat → List W → Sto → R W
def litW : Const → Option W
  | .none => some (.d .non)
  | .bool b => some (.d (.bl b))
  | .int i => some (.d (.int i))
  | .str s => some (.d (.str s))
  | _ => none
/-- a call of a def: by data alone, in a store of its own (what comes is taken out of it; new: a list that may be changed by the caller), or in the caller's store -/
def callW (C : Cal) (f : Nat) (md : Md) (ws : List W) (st : Sto) : R W := match md with
  | .sh => C f ws st
  | .pure => (match allD ws with
    | some _ => (match C f ws [] with
      | .ok w st' => ofO ((frz 8 st' w).map .d) st
      | .exc c p _ => .exc c p st
      | .bad => .bad)
    | none => .bad)
  | .new => (match allD ws with
    | some _ => (match C f ws [] with
      | .ok w st' => (match frzL st' w with
        | some ds => .ok (.ref st.length) (st ++ [.lst (ds.map .d)])
        | none => .bad)
      | .exc c p _ => .exc c p st
      | .bad => .bad)
    | none => .bad)
def mkeW (x f : Str) (w : W) (st : Sto) : R W := match w with
  | .d y => .ok (.d (.exc x f y)) st
  | .ref _ => .bad
def attW (xa : Str → Str → Bool) (f : Str) (w : W) (st : Sto) : R W := match w with
  | .d (.exc c g x) => if xa c f = true ∧ g = f then .ok (.d x) st else .bad
  | _ => .bad
def isxW (isa : Str → Str → Option Bool) (y : Str) (w : W) (st : Sto) : R W := match w with
  | .d (.exc c _ _) => ofO ((isa c y).map fun k => .d (.bl k)) st
  | _ => .bad
/-- a new object of the store, given to its __init__ -/
def newW (C : Cal) (f : Nat) (x : Str) (ws : List W) (st : Sto) : R W := match C f (.ref st.length :: ws) (st ++ [.ins x [] []]) with
  | .ok (.d .non) st' => .ok (.ref st.length) st'
  | .ok _ _ => .bad
  | .exc c p st' => .exc c p st'
  | .bad => .bad
def setV (env : Ev) (i : Nat) (w : W) : Ev := env.set i (some w)
/-- several slots by a tuple's members -/
def setVs : Ev → List Nat → List D → Option Ev
  | env, [], [] => some env
  | env, i :: is, x :: xs => setVs (setV env i (.d x)) is xs
  | _, _, _ => none
def setWs : Ev → List Nat → List W → Option Ev
  | env, [], [] => some env
  | env, i :: is, x :: xs => setWs (setV env i x) is xs
  | _, _, _ => none
def patV (env : Ev) : Pa → W → Option Ev
  | .v i, w => some (setV env i w)
  | .t is, .d (.tup xs) => setVs env is xs
  | _, _ => none
def wipeE (env : Ev) : List Nat → Ev
  | [] => env
  | v :: vs => (wipeE env vs).set v none
/-- the turns of a comprehension; g: the item's slots set, the test, the element -/
def compR (g : W → Sto → R (Option W)) : List W → List W → Sto → R (List W)
  | [], acc, st => .ok acc st
  | x :: xs, acc, st => match g x st with
    | .ok (some y) st' => if acc.length < sizeLine then compR g xs (acc ++ [y]) st' else .bad
    | .ok none st' => compR g xs acc st'
    | _ => .bad
def rngL (lo hi : Int) : List W := (List.range (hi - lo).toNat).map fun k : Nat => .d (.int (lo + (k : Int)))
/-- a value as a test -/
def R.tst (r : R W) : R Bool := r.bind fun x st => ofO (truth st x) st
def strL (s : Str) : List W := s.cps.toList.map fun c => .d (.str ⟨#[c]⟩)
/-- what a loop walks: its items; a list of the store by its number -/
def iterW (a : W) (st : Sto) : R (List W ⊕ Nat) := match a with
  | .d (.tup xs) => .ok (.inl (xs.map .d)) st
  | .d (.lst xs) => .ok (.inl (xs.map .d)) st
  | .d (.frz xs) => .ok (.inl (xs.map .d)) st
  | .d (.str s) => .ok (.inl (strL s)) st
  | .ref i => (match st[i]? with
    | some (.lst _) => .ok (.inr i) st
    | _ => .bad)
  | _ => .bad
/-- the turns over a list of the store: its i-th object, n items left from place k on -/
def compRef (g : W → Sto → R (Option W)) (i : Nat) : Nat → Nat → List W → Sto → R (List W)
  | n, k, acc, st => match st[i]? with
    | some (.lst ws) => if ws.length = k + n then (match n with
        | 0 => .ok acc st
        | n + 1 => match ws[k]? with
          | some x => (match g x st with
            | .ok (some y) st' => if acc.length < sizeLine then compRef g i n (k + 1) (acc ++ [y]) st' else .bad
            | .ok none st' => compRef g i n (k + 1) acc st'
            | _ => .bad)
          | none => .bad)
      else .bad
    | _ => .bad
/-- a part of an f-string -/
def txtO : W → Option Str
  | .d (.str x) => if x.length ≤ sizeLine then some x else none
  | .d (.int i) => if i.natAbs.log2 < 1920 then some (toString i) else none
  | _ => none
section
variable (T : Tab) (C : Cal)
mutual
def ev : CE → Ev → Sto → R W
  | .var i, env, st => (match env[i]? with
    | some (some w) => .ok w st
    | _ => .bad)
  | .gc k, _, st => ofO ((T.cn k).map .d) st
  | .lit x, _, st => ofO (litW x) st
  | .tup es, env, st => (evs es env st).bind fun ws st => (match allD ws with
    | some ds => if ds.length ≤ sizeLine then .ok (.d (.tup ds)) st else .bad
    | none => .bad)
  | .lst m es, env, st => (evs es env st).bind fun ws st => newL m ws st
  | .bin op m a b, env, st => (ev a env st).bind fun x st => (ev b env st).bind fun y st => binW op m x y st
  | .neg a, env, st => (ev a env st).bind fun x st => (match x with
    | .d (.int i) => .ok (.d (.int (-i))) st
    | _ => .bad)
  | .bnot a, env, st => (ev a env st).tst.bind fun b st => .ok (.d (.bl (!b))) st
  | .conj a b, env, st => (ev a env st).bind fun x st => (match truth st x with
    | some true => ev b env st
    | some false => .ok x st
    | none => .bad)
  | .disj a b, env, st => (ev a env st).bind fun x st => (match truth st x with
    | some true => .ok x st
    | some false => ev b env st
    | none => .bad)
  | .cmp op a b, env, st => (ev a env st).bind fun x st => (ev b env st).bind fun y st => cmpW op x y st
  | .chain op op' a b c, env, st => (ev a env st).bind fun x st => (ev b env st).bind fun y st => (cmpW op x y st).bind fun k st => (match k with
    | .d (.bl true) => (ev c env st).bind fun z st => cmpW op' y z st
    | .d (.bl false) => .ok (.d (.bl false)) st
    | _ => .bad)
  | .ifx c a b, env, st => (ev c env st).tst.bind fun k st => (match k with
    | true => ev a env st
    | false => ev b env st)
  | .ix a i, env, st => (ev a env st).bind fun x st => (ev i env st).bind fun y st => ixW x y st
  | .sl m a lo hi, env, st => (ev a env st).bind fun x st => (evO lo env st).bind fun l st => (evO hi env st).bind fun h st => slW m x l h st
  | .call f md es, env, st => (match (T.fn f).isSome with
    | true => (evs es env st).bind fun ws st => callW C f md ws st
    | false => .bad)
  | .bi b m es, env, st => (evs es env st).bind fun ws st => biW b m ws st
  | .isi t a, env, st => (ev a env st).bind fun x st => ofO ((isiO t st x).map fun k => .d (.bl k)) st
  | .meth e m o es, env, st => (ev o env st).bind fun x st => (match recvB e st x with
    | true => (evs es env st).bind fun ws st => meW e m x ws st
    | false => .bad)
  | .comp m elt p it own, env, st => (evI it env st).bind fun its st => (match its with
      | .inl ws => compR (fun w st => match patV (wipeE env own) p w with
          | some env' => (ev elt env' st).bind fun y st => .ok (some y) st
          | none => .bad) ws [] st
      | .inr i => compRef (fun w st => match patV (wipeE env own) p w with
          | some env' => (ev elt env' st).bind fun y st => .ok (some y) st
          | none => .bad) i ((lenO st (.ref i)).getD 0) 0 [] st).bind fun ws st => newL m ws st
  | .compIf m elt p it c own, env, st => (evI it env st).bind fun its st => (match its with
      | .inl ws => compR (fun w st => match patV (wipeE env own) p w with
          | some env' => (ev c env' st).tst.bind fun k st => (match k with
            | true => (ev elt env' st).bind fun y st => .ok (some y) st
            | false => .ok none st)
          | none => .bad) ws [] st
      | .inr i => compRef (fun w st => match patV (wipeE env own) p w with
          | some env' => (ev c env' st).tst.bind fun k st => (match k with
            | true => (ev elt env' st).bind fun y st => .ok (some y) st
            | false => .ok none st)
          | none => .bad) i ((lenO st (.ref i)).getD 0) 0 [] st).bind fun ws st => newL m ws st
  | .fstr es, env, st => (evF es Str.empty env st).bind fun z st => .ok (.d (.str z)) st
  | .tix es a, env, st => (evs es env st).bind fun ws st => (match decide (ws.length ≤ sizeLine) with
    | true => (ev a env st).bind fun w st => tixW ws w st
    | false => .bad)
  | .stt a, env, st => (ev a env st).bind fun w st => sttW T.grd w st
  | .un, _, _ => .bad
  | .mke _ x f a, env, st => (ev a env st).bind fun w st => mkeW x f w st
  | .att f a, env, st => (ev a env st).bind fun w st => attW T.xa f w st
  | .isx y a, env, st => (ev a env st).bind fun w st => isxW T.isa y w st
  | .new f x es, env, st => (match (T.fn f).isSome with
    | true => (evs es env st).bind fun ws st => newW C f x ws st
    | false => .bad)
def evs : CEs → Ev → Sto → R (List W)
  | .nil, _, st => .ok [] st
  | .cons e es, env, st => (ev e env st).bind fun w st => (evs es env st).bind fun ws st => .ok (w :: ws) st
def evF : CEs → Str → Ev → Sto → R Str
  | .nil, acc, _, st => .ok acc st
  | .cons e es, acc, env, st => (ev e env st).bind fun w st => (match txtO w with
    | some y => if (acc ++ y).length ≤ sizeLine then evF es (acc ++ y) env st else .bad
    | none => .bad)
def evO : CO → Ev → Sto → R (Option Int)
  | .no, _, st => .ok none st
  | .yes e, env, st => (ev e env st).bind fun w st => (match w with
    | .d (.int i) => .ok (some i) st
    | _ => .bad)
def evI : CI → Ev → Sto → R (List W ⊕ Nat)
  | .e a, env, st => (ev a env st).bind fun w st => iterW w st
  | .rng1 a, env, st => (ev a env st).bind fun w st => (match w with
    | .d (.int j) => if -(2 ^ 62) ≤ j ∧ j < 2 ^ 62 then .ok (.inl (rngL 0 j)) st else .bad
    | _ => .bad)
  | .rng2 a b, env, st => (ev a env st).bind fun v st => (ev b env st).bind fun w st => (match v, w with
    | .d (.int i), .d (.int j) => if -(2 ^ 62) ≤ i ∧ i < 2 ^ 62 ∧ -(2 ^ 62) ≤ j ∧ j < 2 ^ 62 then .ok (.inl (rngL i j)) st else .bad
    | _, _ => .bad)
end
end
/-! ### statements -/
def forR (g : W → Ev → Sto → F) : List W → Ev → Sto → F
  | [], env, st => .nx env st
  | x :: xs, env, st => match g x env st with
    | .nx env' st' => forR g xs env' st'
    | .ct env' st' => forR g xs env' st'
    | .bk env' st' => .nx env' st'
    | .ret w st' => .ret w st'
    | .exc c p env' st' => .exc c p env' st'
    | .bad => .bad
def forRef (g : W → Ev → Sto → F) (i : Nat) : Nat → Nat → Ev → Sto → F
  | n, k, env, st => match st[i]? with
    | some (.lst ws) => if ws.length = k + n then (match n with
        | 0 => .nx env st
        | n + 1 => match ws[k]? with
          | some x => (match g x env st with
            | .nx env' st' => forRef g i n (k + 1) env' st'
            | .ct env' st' => forRef g i n (k + 1) env' st'
            | .bk env' st' => .nx env' st'
            | .ret w st' => .ret w st'
            | .exc c p env' st' => .exc c p env' st'
            | .bad => .bad)
          | none => .bad)
      else .bad
    | _ => .bad
/-- at most n turns -/
def whlR (c : Ev → Sto → R Bool) (g : Ev → Sto → F) : Nat → Ev → Sto → F
  | 0, _, _ => .bad
  | n + 1, env, st => (c env st).thn env fun k st => match k with
    | true => (match g env st with
      | .nx env' st' => whlR c g n env' st'
      | .ct env' st' => whlR c g n env' st'
      | .bk env' st' => .nx env' st'
      | .ret w st' => .ret w st'
      | .exc c p env' st' => .exc c p env' st'
      | .bad => .bad)
    | false => .nx env st
def mostTurns : Nat := 1000000
def hdW (sub : Nat → Nat → Bool) (c : Nat) (p : D) : Hd → Option W
  | .pair _ x => some (.d (.tup [.str x, p]))
  | .val _ => some (.d p)
  | .cst _ x => some (.d (.str x))
  | .non => some (.d .non)
  | .isv _ h z => match sub c h with
    | false => some (.d (.bl false))
    | true => match p with
      | .str y => some (.d (.bl (decide (y = z))))
      | _ => none
def hdL (n : Nat) : Hd → Bool
  | .pair i _ => decide (i < n)
  | .val i => decide (i < n)
  | .isv i _ _ => decide (i < n)
  | _ => true
def catchF (sub : Nat → Nat → Bool) (c : Nat) (p : D) (env : Ev) (st : Sto) : List (Nat × Hd) → F
  | [] => .exc c p env st
  | (h, k) :: r => match sub c h with
    | true => (match hdL env.length k with
      | true => (match hdW sub c p k with
        | some w => .ret w st
        | none => .bad)
      | false => .bad)
    | false => catchF sub c p env st r
def setI (o i v : W) (st : Sto) : Option Sto := match o, i with
  | .ref r, .d (.int k) => (match st[r]? with
    | some (.lst ws) => (ixN ws.length k).map fun j => setL st r (ws.set j v)
    | _ => none)
  | _, _ => none
def augW (op : Operator) (a b : W) : Option W := match a, b with
  | .d (.int i), .d (.int j) => (match op with
    | .Add => some (.d (.int (i + j)))
    | .Sub => some (.d (.int (i - j)))
    | _ => none)
  | _, _ => none
section
variable (T : Tab) (C : Cal)
mutual
def exec : CS → Ev → Sto → F
  | .asg i e, env, st => (ev T C e env st).thn env fun w st => .nx (setV env i w) st
  | .asgT is e, env, st => (ev T C e env st).thn env fun w st => (match patV env (.t is) w with
    | some env' => .nx env' st
    | none => .bad)
  | .par is es, env, st => (evs T C es env st).thn env fun ws st => (match setWs env is ws with
    | some env' => .nx env' st
    | none => .bad)
  | .aug i op e, env, st => (match env[i]? with
    | some (some a) => (ev T C e env st).thn env fun b st => (match augW op a b with
      | some w => .nx (setV env i w) st
      | none => .bad)
    | _ => .bad)
  | .setIx o i v, env, st => (ev T C v env st).thn env fun v st => (ev T C o env st).thn env fun o st => (ev T C i env st).thn env fun i st => (match setI o i v st with
    | some st' => .nx env st'
    | none => .bad)
  | .ex e, env, st => (ev T C e env st).thn env fun _ st => .nx env st
  | .ret e, env, st => (ev T C e env st).thn env fun w st => .ret w st
  | .retN, _, st => .ret (.d .non) st
  | .ifs c a b, env, st => (ev T C c env st).tst.thn env fun k st => (match k with
    | true => execs a env st
    | false => execs b env st)
  | .fors p it b, env, st => (evI T C it env st).thn env fun its st => (match its with
    | .inl ws => forR (fun w env st => match patV env p w with
      | some env' => execs b env' st
      | none => .bad) ws env st
    | .inr i => forRef (fun w env st => match patV env p w with
      | some env' => execs b env' st
      | none => .bad) i ((lenO st (.ref i)).getD 0) 0 env st)
  | .whl c b, env, st => whlR (fun env st => (ev T C c env st).tst) (fun env st => execs b env st) mostTurns env st
  | .raise c e, env, st => (ev T C e env st).thn env fun w st => (match w with
    | .d x => .exc c x env st
    | .ref _ => .bad)
  | .tri b hs, env, st => (match execs b env st with
    | .exc c p env' st' => catchF T.sub c p env' st' hs
    | .nx env' st' => .nx env' st'
    | .ret w st' => .ret w st'
    | .bk env' st' => .bk env' st'
    | .ct env' st' => .ct env' st'
    | .bad => .bad)
  | .un, _, _ => .bad
  | .pass, env, st => .nx env st
  | .brk, env, st => .bk env st
  | .cont, env, st => .ct env st
def execs : CSs → Ev → Sto → F
  | .nil, env, st => .nx env st
  | .cons s r, env, st => (match exec s env st with
    | .nx env' st' => execs r env' st'
    | .ret w st' => .ret w st'
    | .bk env' st' => .bk env' st'
    | .ct env' st' => .ct env' st'
    | .exc c p env' st' => .exc c p env' st'
    | .bad => .bad)
end
end
def startE (nv : Nat) (ws : List W) : Ev := ws.map some ++ List.replicate (nv - ws.length) none
/-- what a body's end is to the caller -/
def F.out : F → R W
  | .nx _ st => .ok (.d .non) st
  | .ret w st => .ok w st
  | .exc c p _ st => .exc c p st
  | .bk _ _ => .bad
  | .ct _ _ => .bad
  | .bad => .bad
/-- calls nested at most n deep -/
def run (T : Tab) : Nat → Cal
  | 0 => fun _ _ _ => .bad
  | n + 1 => fun f ws st => match T.fn f with
    | some fd => if ws.length = fd.np then (execs T (run T n) fd.body (startE fd.nv ws) st).out else .bad
    | none => .bad
/-- one statement, then the rest -/
def seqF (f : F) (g : Ev → Sto → F) : F := match f with
    | .nx env' st' => g env' st'
    | .ret w st' => .ret w st'
    | .bk env' st' => .bk env' st'
    | .ct env' st' => .ct env' st'
    | .exc c p env' st' => .exc c p env' st'
    | .bad => .bad
/-- what a turn's end is to the loop: go on by g -/
def turnF (f : F) (g : Ev → Sto → F) : F := match f with
  | .nx env' st' => g env' st'
  | .ct env' st' => g env' st'
  | .bk env' st' => .nx env' st'
  | .ret w st' => .ret w st'
  | .exc c p env' st' => .exc c p env' st'
  | .bad => .bad
/-- what a loop's evaluator says, over items known -/
theorem forR_eq (g : W → Ev → Sto → F) (x : W) (xs : List W) (env : Ev) (st : Sto) : forR g (x :: xs) env st = turnF (g x env st) (forR g xs) := by
  rw [forR]
  cases g x env st <;> rfl
/-! ### own error classes by their names -/
def subN (x y : Str) : Bool := decide (x = y) || decide (y = ("BookError" : Str))
def fldN (x : Str) : Str := if x = ("Undefined" : Str) then "what" else "value"
def isaL (l : List Str) (c y : Str) : Option Bool := if l.contains c = true then (if y = ("ValueError" : Str) then some true else if l.contains y = true then some (subN c y) else none) else none
def xaL (l : List Str) (c f : Str) : Bool := l.contains c && decide (f = fldN c)
end LL

set_option Elab.async false
set_option linter.all false
set_option maxRecDepth 100000
set_option maxHeartbeats 4000000
set_option autoImplicit false
/-! LB: how data, values, stores lie in the abstract heap. -/
namespace LL
open PySem PySem.Spec PyProof.Rows L2
section
variable (K : PySem.W.Frag)
/-- a list that is only read -/
def FzL (H : Hp) (a : Addr) (xs : List V) : Prop := (∃ o, H a = some (.frz o (.lst xs))) ∨
    ∃ (o : Obj) (its : Array Value) (n : Nat), K.lookup a = some o ∧ o.cls = .type "list" ∧ o.dict = none ∧ o.data = .seq its n ∧ its.size ≤ sizeLine ∧ Vals xs its.toList
mutual
/-- data at a value; B: the addresses of what may be changed -/
def DV (H : Hp) (B : List Addr) : D → V → Prop
  | .non, v => v = .non
  | .bl b, v => v = .bl b
  | .int i, v => v = .int i
  | .str s, v => v = .str s
  | .tup xs, v => ∃ a vs, v = .ref a ∧ SqT K H a vs ∧ DVs H B xs vs
  | .lst xs, v => ∃ a vs, v = .ref a ∧ a ∉ B ∧ H a = some (.lst vs) ∧ DVs H B xs vs
  | .frz xs, v => ∃ a vs, v = .ref a ∧ FzL K H a vs ∧ DVs H B xs vs
  | .dct _, _ => False
  | .obj c ks fs, v => ∃ a dx vs, v = .ref a ∧ a ∉ B ∧ H a = some (.ins (He.ga K c) dx (ks.zip vs)) ∧ ks.length = vs.length ∧ DVs H B fs vs
  | .exc c f x, v => ∃ a d u, v = .ref a ∧ a ∉ B ∧ d ∉ B ∧ H a = some (exo a (He.ga K c) (some d)) ∧ H d = some (exd d [(f, u)]) ∧ DV H B x u
def DVs (H : Hp) (B : List Addr) : List D → List V → Prop
  | [], vs => vs = []
  | x :: xs, vs => ∃ v r, vs = v :: r ∧ DV H B x v ∧ DVs H B xs r
end
/-- from one state to a later one: what is new (ms), what stands (all but what may be changed here) -/
structure Ext (H : Hp) (m : List Addr) (H' : Hp) (m' : List Addr) : Prop where
  more : ∃ ms, m' = m ++ ms ∧ ∀ a ∈ ms, H a = none
  keep : ∀ a o, a ∉ m → H a = some o → H' a = some o
def WV (H : Hp) (O m : List Addr) : W → V → Prop
  | .d x, v => DV K H (O ++ m) x v
  | .ref i, v => ∃ a, m[i]? = some a ∧ v = .ref a
def WVs (H : Hp) (O m : List Addr) : List W → List V → Prop
  | [], vs => vs = []
  | w :: ws, vs => ∃ v r, vs = v :: r ∧ WV K H O m w v ∧ WVs H O m ws r
def ObV (H : Hp) (O m : List Addr) : Ob → Addr → Prop
  | .lst ws, a => ∃ vs, H a = some (.lst vs) ∧ WVs K H O m ws vs
  | .dct _, _ => False
  | .ins c ks ws, a => ∃ dx vs, H a = some (.ins (He.ga K c) dx (ks.zip vs)) ∧ ks.length = vs.length ∧ WVs K H O m ws vs
structure Rep (H : Hp) (O m : List Addr) (st : Sto) : Prop where
  len : m.length = st.length
  nd : m.Nodup
  dj : ∀ a ∈ m, a ∉ O
  ol : ∀ a ∈ O, H a ≠ none
  ob : ∀ (i : Nat) (a : Addr) (o : Ob), m[i]? = some a → st[i]? = some o → ObV K H O m o a
structure EnvOk (H : Hp) (O m : List Addr) (env : Ev) (σ : L2.St) : Prop where
  len : σ.length = env.length
  at_ : ∀ (i : Nat) (w : W), env[i]? = some (some w) → ∃ v, σ[i]? = some (some v) ∧ WV K H O m w v
end
section
variable {K : PySem.W.Frag} {H H' H1 H2 : Hp} {O m m' m1 m2 : List Addr} {st st' : Sto} {env : Ev} {σ : L2.St}

theorem Ext.refl : Ext H m H m := ⟨⟨[], by simp, fun _ h => nomatch h⟩, fun _ _ _ h => h⟩
theorem Rep.there (r : Rep K H O m st) {a : Addr} (h : a ∈ m) : ∃ o, H a = some o ∧ Mut (some o) := by
  obtain ⟨i, hi⟩ := List.mem_iff_getElem?.mp h
  have hl : i < st.length := by rw [← r.len]; exact (List.getElem?_eq_some_iff.mp hi).1
  have q := r.ob i a st[i] hi (List.getElem?_eq_getElem hl)
  cases e : st[i] with
  | lst ws => rw [e] at q; obtain ⟨vs, h, _⟩ := q; exact ⟨_, h, trivial⟩
  | dct ks => rw [e] at q; exact q.elim
  | ins c ks ws => rw [e] at q; obtain ⟨dx, vs, h, _⟩ := q; exact ⟨_, h, trivial⟩
theorem Ext.trans (a : Ext H m H1 m1) (b : Ext H1 m1 H2 m2) (r : Rep K H1 O m1 st) : Ext H m H2 m2 := by
  obtain ⟨ms, e1, f1⟩ := a.more
  obtain ⟨ns, e2, f2⟩ := b.more
  have sub : ∀ c, c ∈ m → c ∈ m1 := fun c h => by rw [e1]; exact List.mem_append_left _ h
  refine ⟨⟨ms ++ ns, by rw [e2, e1, List.append_assoc], fun c h => ?_⟩, fun c o h q => ?_⟩
  · rcases List.mem_append.mp h with h | h
    · exact f1 c h
    · have n1 := f2 c h
      cases q : H c with
      | none => rfl
      | some o =>
        by_cases hm : c ∈ m
        · obtain ⟨o', h', _⟩ := r.there (sub c hm)
          rw [n1] at h'; cases h'
        · rw [a.keep c o hm q] at n1; cases n1
  · have q1 := a.keep c o h q
    refine b.keep c o (fun z => ?_) q1
    rw [e1] at z
    rcases List.mem_append.mp z with z | z
    · exact h z
    · rw [f1 c z] at q; cases q
theorem FzL.sq {a : Addr} {vs : List V} (h : FzL K H a vs) : SqL K H a vs := by
  rcases h with ⟨o, h⟩ | h
  · exact .inl (.inr ⟨o, h⟩)
  · exact .inr h
theorem SqT.ext {a : Addr} {vs : List V} (r : ∀ b ∈ m, ∃ o, H b = some o ∧ Mut (some o)) (e : Ext H m H' m') (q : SqT K H a vs) : SqT K H' a vs := by
  have nm : ∀ o, H a = some o → ¬ Mut (some o) → a ∉ m := fun o h n z => by
    obtain ⟨o', h', mu⟩ := r a z
    rw [h] at h'; cases h'
    exact n mu
  rcases q with (q | ⟨o, q⟩) | q
  · exact .inl (.inl (e.keep a _ (nm _ q fun z => z) q))
  · exact .inl (.inr ⟨o, e.keep a _ (nm _ q fun z => z) q⟩)
  · exact .inr q
theorem FzL.ext {a : Addr} {vs : List V} (r : ∀ b ∈ m, ∃ o, H b = some o ∧ Mut (some o)) (e : Ext H m H' m') (q : FzL K H a vs) : FzL K H' a vs := by
  rcases q with ⟨o, q⟩ | q
  · refine .inl ⟨o, e.keep a _ (fun z => ?_) q⟩
    obtain ⟨o', h', mu⟩ := r a z
    rw [q] at h'; cases h'
    exact mu
  · exact .inr q
mutual
/-- data stay where what they lie on stays -/
theorem DV.map {B B' : List Addr} (h1 : ∀ a o, H a = some o → ¬ Mut (some o) → H' a = some o) (h2 : ∀ a o, a ∉ B → H a = some o → a ∉ B' ∧ H' a = some o) : ∀ (x : D) (v : V), DV K H B x v → DV K H' B' x v
  | .non, _, h => h
  | .bl _, _, h => h
  | .int _, _, h => h
  | .str _, _, h => h
  | .tup xs, _, h => by
    unfold DV at h ⊢
    obtain ⟨a, vs, ev, q, hs⟩ := h
    refine ⟨a, vs, ev, ?_, DVs.map h1 h2 xs vs hs⟩
    rcases q with (q | ⟨o, q⟩) | q
    · exact .inl (.inl (h1 a _ q fun z => z))
    · exact .inl (.inr ⟨o, h1 a _ q fun z => z⟩)
    · exact .inr q
  | .lst xs, _, h => by
    unfold DV at h ⊢
    obtain ⟨a, vs, ev, nb, q, hs⟩ := h
    obtain ⟨nb', q'⟩ := h2 a _ nb q
    exact ⟨a, vs, ev, nb', q', DVs.map h1 h2 xs vs hs⟩
  | .frz xs, _, h => by
    unfold DV at h ⊢
    obtain ⟨a, vs, ev, q, hs⟩ := h
    refine ⟨a, vs, ev, ?_, DVs.map h1 h2 xs vs hs⟩
    rcases q with ⟨o, q⟩ | q
    · exact .inl ⟨o, h1 a _ q fun z => z⟩
    · exact .inr q
  | .dct _, _, h => h
  | .obj c ks fs, _, h => by
    unfold DV at h ⊢
    obtain ⟨a, dx, vs, ev, nb, q, hl, hs⟩ := h
    obtain ⟨nb', q'⟩ := h2 a _ nb q
    exact ⟨a, dx, vs, ev, nb', q', hl, DVs.map h1 h2 fs vs hs⟩
  | .exc c f x, _, h => by
    unfold DV at h ⊢
    obtain ⟨a, d, u, ev, na, nd, qa, qd, hx⟩ := h
    obtain ⟨na', qa'⟩ := h2 a _ na qa
    obtain ⟨nd', qd'⟩ := h2 d _ nd qd
    exact ⟨a, d, u, ev, na', nd', qa', qd', DV.map h1 h2 x u hx⟩
theorem DVs.map {B B' : List Addr} (h1 : ∀ a o, H a = some o → ¬ Mut (some o) → H' a = some o) (h2 : ∀ a o, a ∉ B → H a = some o → a ∉ B' ∧ H' a = some o) : ∀ (xs : List D) (vs : List V), DVs K H B xs vs → DVs K H' B' xs vs
  | [], _, h => h
  | x :: xs, _, h => by
    unfold DVs at h ⊢
    obtain ⟨v, r', ev, q1, q2⟩ := h
    exact ⟨v, r', ev, DV.map h1 h2 x v q1, DVs.map h1 h2 xs r' q2⟩
end
theorem keep_fix (r : ∀ b ∈ m, ∃ o, H b = some o ∧ Mut (some o)) (k : ∀ a o, a ∉ m → H a = some o → H' a = some o) : ∀ a o, H a = some o → ¬ Mut (some o) → H' a = some o := fun a o h n =>
  k a o (fun z => by
    obtain ⟨o', h', mu⟩ := r a z
    rw [h] at h'; cases h'
    exact n mu) h
theorem keep_lst {B B' : List Addr} (k : ∀ a o, a ∉ m → H a = some o → H' a = some o) (hB : ∀ b ∈ B', b ∈ B ∨ H b = none) (hm : ∀ b ∈ m, b ∈ B) : ∀ a o, a ∉ B → H a = some o → a ∉ B' ∧ H' a = some o := fun a vs nb q =>
  ⟨fun z => (hB a z).elim nb (fun z => by rw [q] at z; exact nomatch z), k a _ (fun z => nb (hm a z)) q⟩
theorem DV.ext {B B' : List Addr} (r : ∀ b ∈ m, ∃ o, H b = some o ∧ Mut (some o)) (e : Ext H m H' m') (hB : ∀ b ∈ B', b ∈ B ∨ H b = none) (hm : ∀ b ∈ m, b ∈ B) (x : D) (v : V) (h : DV K H B x v) : DV K H' B' x v :=
  DV.map (keep_fix r e.keep) (keep_lst e.keep hB hm) x v h
theorem DVs.ext {B B' : List Addr} (r : ∀ b ∈ m, ∃ o, H b = some o ∧ Mut (some o)) (e : Ext H m H' m') (hB : ∀ b ∈ B', b ∈ B ∨ H b = none) (hm : ∀ b ∈ m, b ∈ B) (xs : List D) (vs : List V) (h : DVs K H B xs vs) : DVs K H' B' xs vs :=
  DVs.map (keep_fix r e.keep) (keep_lst e.keep hB hm) xs vs h
/-- fewer addresses -/
theorem DV.weak {B B' : List Addr} (hB : ∀ b ∈ B', b ∈ B) {x : D} {v : V} (h : DV K H B x v) : DV K H B' x v :=
  DV.ext (m := []) (m' := []) (fun _ z => nomatch z) Ext.refl (fun b z => .inl (hB b z)) (fun _ z => nomatch z) x v h
theorem DVs.weak {B B' : List Addr} (hB : ∀ b ∈ B', b ∈ B) {xs : List D} {vs : List V} (h : DVs K H B xs vs) : DVs K H B' xs vs :=
  DVs.ext (m := []) (m' := []) (fun _ z => nomatch z) Ext.refl (fun b z => .inl (hB b z)) (fun _ z => nomatch z) xs vs h
theorem Rep.mut (r : Rep K H O m st) : ∀ b ∈ m, ∃ o, H b = some o ∧ Mut (some o) := fun _ h => r.there h
theorem WV.ext (r : ∀ b ∈ m, ∃ o, H b = some o ∧ Mut (some o)) (e : Ext H m H' m') : ∀ {w : W} {v : V}, WV K H O m w v → WV K H' O m' w v
  | .d x, v, h => by
    obtain ⟨ms, e1, f1⟩ := e.more
    refine DV.ext r e (fun b z => ?_) (fun b z => List.mem_append_right _ z) x v h
    rw [e1] at z
    rcases List.mem_append.mp z with z | z
    · exact .inl (List.mem_append_left _ z)
    · rcases List.mem_append.mp z with z | z
      · exact .inl (List.mem_append_right _ z)
      · exact .inr (f1 b z)
  | .ref i, v, ⟨a, h1, h2⟩ => by
    obtain ⟨ms, e1, _⟩ := e.more
    refine ⟨a, ?_, h2⟩
    rw [e1, List.getElem?_append_left (List.getElem?_eq_some_iff.mp h1).1]
    exact h1
theorem WVs.ext (r : ∀ b ∈ m, ∃ o, H b = some o ∧ Mut (some o)) (e : Ext H m H' m') : ∀ {ws : List W} {vs : List V}, WVs K H O m ws vs → WVs K H' O m' ws vs
  | [], _, h => h
  | _ :: _, _, ⟨v, r', ev, h1, h2⟩ => ⟨v, r', ev, WV.ext r e h1, WVs.ext r e h2⟩
theorem ObV.ext (r : ∀ b ∈ m, ∃ o, H b = some o ∧ Mut (some o)) (e : Ext H m H' m') {o : Ob} {a : Addr} (ha : H' a = H a) (h : ObV K H O m o a) : ObV K H' O m' o a := by
  cases o with
  | lst ws =>
    obtain ⟨vs, h1, h2⟩ := h
    exact ⟨vs, ha.trans h1, WVs.ext r e h2⟩
  | dct _ => exact h
  | ins c ks ws =>
    obtain ⟨dx, vs, h1, hl, h2⟩ := h
    exact ⟨dx, vs, ha.trans h1, hl, WVs.ext r e h2⟩
theorem EnvOk.ext (r : ∀ b ∈ m, ∃ o, H b = some o ∧ Mut (some o)) (e : Ext H m H' m') (h : EnvOk K H O m env σ) : EnvOk K H' O m' env σ :=
  ⟨h.len, fun i w q => let ⟨v, h1, h2⟩ := h.at_ i w q; ⟨v, h1, WV.ext r e h2⟩⟩
/-- a new thing that is not of the store -/
theorem Ext.fresh {p : Addr} {o : HO} (n : H p = none) : Ext H m (upd H p o) m := ⟨⟨[], by simp, fun _ h => nomatch h⟩, fun a o' _ q => by rw [upd_ne (ne_of_none q n)]; exact q⟩
theorem Rep.upto (r : Rep K H O m st) (e : Ext H m H' m) (h : ∀ a ∈ m, H' a = H a) : Rep K H' O m st :=
  ⟨r.len, r.nd, r.dj, fun a z => by
    by_cases hm : a ∈ m
    · exact absurd z (r.dj a hm)
    · cases q : H a with
      | none => exact absurd q (r.ol a z)
      | some o => rw [e.keep a o hm q]; exact (fun y => nomatch y), fun i a o h1 h2 => ObV.ext r.mut e (h a (List.mem_of_getElem? h1)) (r.ob i a o h1 h2)⟩
theorem Rep.fresh (r : Rep K H O m st) {p : Addr} {o : HO} (n : H p = none) : Rep K (upd H p o) O m st :=
  r.upto (Ext.fresh n) fun a ha => upd_ne (fun z => by
    obtain ⟨o', h, _⟩ := r.there ha
    rw [z, n] at h; cases h)
/-- a new list of the store -/
theorem Rep.alloc (r : Rep K H O m st) {p : Addr} {ws : List W} {vs : List V} (n : H p = none) (h : WVs K H O m ws vs) : Ext H m (upd H p (.lst vs)) (m ++ [p]) ∧ Rep K (upd H p (.lst vs)) O (m ++ [p]) (st ++ [.lst ws]) := by
  have e : Ext H m (upd H p (.lst vs)) (m ++ [p]) := ⟨⟨[p], rfl, fun a h => by rw [List.mem_singleton.mp h]; exact n⟩, fun a o' _ q => by rw [upd_ne (ne_of_none q n)]; exact q⟩
  have np : ∀ a, H a ≠ none → a ≠ p := fun a h z => h (by rw [z]; exact n)
  have npm : ∀ a ∈ m, a ≠ p := fun a ha => np a (by obtain ⟨o, h, _⟩ := r.there ha; rw [h]; exact fun z => nomatch z)
  refine ⟨e, ⟨by rw [List.length_append, List.length_append, r.len]; rfl, ?_, fun a ha => ?_, fun a ha => ?_, fun i a o h1 h2 => ?_⟩⟩
  · rw [List.nodup_append]
    refine ⟨r.nd, by simp, fun a ha b hb => ?_⟩
    rw [List.mem_singleton.mp hb]
    exact npm a ha
  · rcases List.mem_append.mp ha with ha | ha
    · exact r.dj a ha
    · intro z
      rw [List.mem_singleton.mp ha] at z
      exact r.ol p z n
  · rw [upd_ne (np a (r.ol a ha))]
    exact r.ol a ha
  · by_cases hi : i < m.length
    · rw [List.getElem?_append_left hi] at h1
      rw [List.getElem?_append_left (by rw [← r.len]; exact hi)] at h2
      exact ObV.ext r.mut e (upd_ne (npm a (List.mem_of_getElem? h1))) (r.ob i a o h1 h2)
    · have hi' : i = m.length := by
        have := (List.getElem?_eq_some_iff.mp h1).1
        rw [List.length_append] at this
        simp at this
        omega
      subst hi'
      rw [List.getElem?_append_right (Nat.le_refl _)] at h1
      rw [r.len, List.getElem?_append_right (Nat.le_refl _)] at h2
      simp at h1 h2
      subst h1 h2
      exact ⟨vs, upd_same, WVs.ext r.mut e h⟩
theorem nodup_at {α : Type} {a : α} : ∀ {l : List α} {i j : Nat}, l.Nodup → l[i]? = some a → l[j]? = some a → i = j
  | [], _, _, _, h, _ => by simp at h
  | x :: l, 0, 0, _, _, _ => rfl
  | x :: l, 0, j + 1, n, h, q => by
    simp at h q
    subst h
    exact absurd (List.mem_of_getElem? q) (List.nodup_cons.mp n).1
  | x :: l, i + 1, 0, n, h, q => by
    simp at h q
    subst q
    exact absurd (List.mem_of_getElem? h) (List.nodup_cons.mp n).1
  | x :: l, i + 1, j + 1, n, h, q => by
    simp at h q
    rw [nodup_at (List.nodup_cons.mp n).2 h q]
/-- a list of the store changed -/
theorem Rep.write (r : Rep K H O m st) {i : Nat} {a : Addr} {o : Ob} {ws : List W} {vs : List V} (hi : m[i]? = some a) (h : WVs K H O m ws vs) :
    Ext H m (upd H a (.lst vs)) m ∧ Rep K (upd H a (.lst vs)) O m (st.set i (.lst ws)) := by
  have ha : a ∈ m := List.mem_of_getElem? hi
  have e : Ext H m (upd H a (.lst vs)) m := ⟨⟨[], by simp, fun _ h => nomatch h⟩, fun b o' nb q => by rw [upd_ne (fun z => nb (by rw [z]; exact ha))]; exact q⟩
  refine ⟨e, ⟨by rw [List.length_set]; exact r.len, r.nd, r.dj, fun b hb => ?_, fun j b o' h1 h2 => ?_⟩⟩
  · rw [upd_ne (fun z => r.dj a ha (by rw [← z]; exact hb))]
    exact r.ol b hb
  · by_cases hj : i = j
    · subst hj
      rw [hi] at h1; cases h1
      have hl : i < st.length := by rw [← r.len]; exact (List.getElem?_eq_some_iff.mp hi).1
      rw [List.getElem?_set_self hl] at h2
      cases h2
      exact ⟨vs, upd_same, WVs.ext r.mut e h⟩
    · rw [List.getElem?_set_ne hj] at h2
      have nab : b ≠ a := fun z => by
        subst z
        exact hj (nodup_at r.nd hi h1)
      exact ObV.ext r.mut e (upd_ne nab) (r.ob j b o' h1 h2)
theorem Rep.at_ (r : Rep K H O m st) {i : Nat} {v : V} {ws : List W} (hv : WV K H O m (.ref i) v) (h : st[i]? = some (.lst ws)) : ∃ a vs, v = .ref a ∧ m[i]? = some a ∧ H a = some (.lst vs) ∧ WVs K H O m ws vs := by
  obtain ⟨a, h1, h2⟩ := hv
  obtain ⟨vs, h3, h4⟩ := r.ob i a _ h1 h
  exact ⟨a, vs, h2, h1, h3, h4⟩
/-! ### lists of values -/
theorem WVs.length : ∀ {ws : List W} {vs : List V}, WVs K H O m ws vs → ws.length = vs.length
  | [], _, h => by rw [show _ = [] from h]; rfl
  | _ :: _, _, ⟨v, r, e, _, h⟩ => by rw [e, List.length_cons, List.length_cons, WVs.length h]
theorem WVs.append : ∀ {ws ws' : List W} {vs vs' : List V}, WVs K H O m ws vs → WVs K H O m ws' vs' → WVs K H O m (ws ++ ws') (vs ++ vs')
  | [], _, _, _, h, h' => by rw [show _ = [] from h]; exact h'
  | _ :: _, _, _, _, ⟨v, r, e, h1, h2⟩, h' => by rw [e]; exact ⟨v, r ++ _, rfl, h1, WVs.append h2 h'⟩
theorem WVs.get : ∀ {ws : List W} {vs : List V} {i : Nat} {w : W}, WVs K H O m ws vs → ws[i]? = some w → ∃ v, vs[i]? = some v ∧ WV K H O m w v
  | [], _, _, _, _, h => by simp at h
  | _ :: _, _, 0, _, ⟨v, r, e, h1, _⟩, h => by simp at h; subst h; exact ⟨v, by rw [e]; rfl, h1⟩
  | _ :: _, _, i + 1, _, ⟨v, r, e, _, h2⟩, h => by
    obtain ⟨u, q1, q2⟩ := WVs.get (i := i) h2 (by simpa using h)
    exact ⟨u, by rw [e]; simpa using q1, q2⟩
theorem WVs.set : ∀ {ws : List W} {vs : List V} {w : W} {v : V} (i : Nat), WVs K H O m ws vs → WV K H O m w v → WVs K H O m (ws.set i w) (vs.set i v)
  | [], _, _, _, i, h, _ => by rw [show _ = [] from h]; rfl
  | _ :: _, _, _, _, 0, ⟨_, r, e, _, h2⟩, h => by rw [e]; exact ⟨_, r, rfl, h, h2⟩
  | _ :: _, _, _, _, i + 1, ⟨u, r, e, h1, h2⟩, h => by rw [e]; exact ⟨u, r.set i _, rfl, h1, WVs.set i h2 h⟩
theorem WVs.take : ∀ {ws : List W} {vs : List V} (n : Nat), WVs K H O m ws vs → WVs K H O m (ws.take n) (vs.take n)
  | [], _, n, h => by rw [show _ = [] from h]; simp; rfl
  | _ :: _, _, 0, _ => by simp; rfl
  | _ :: _, _, n + 1, ⟨u, r, e, h1, h2⟩ => by rw [e]; exact ⟨u, r.take n, rfl, h1, WVs.take n h2⟩
theorem WVs.drop : ∀ {ws : List W} {vs : List V} (n : Nat), WVs K H O m ws vs → WVs K H O m (ws.drop n) (vs.drop n)
  | [], _, n, h => by rw [show _ = [] from h]; simp; rfl
  | _ :: _, _, 0, h => by simpa using h
  | _ :: _, _, n + 1, ⟨u, r, e, h1, h2⟩ => by rw [e]; exact WVs.drop n h2
theorem DVs.toW : ∀ {xs : List D} {vs : List V}, DVs K H (O ++ m) xs vs → WVs K H O m (xs.map .d) vs
  | [], _, h => by unfold DVs at h; exact h
  | _ :: _, _, h => by
    unfold DVs at h
    obtain ⟨v, r, e, h1, h2⟩ := h
    exact ⟨v, r, e, h1, DVs.toW h2⟩
theorem WVs.toD : ∀ {ws : List W} {xs : List D} {vs : List V}, allD ws = some xs → WVs K H O m ws vs → DVs K H (O ++ m) xs vs
  | [], _, _, h, q => by cases h; unfold DVs; exact q
  | .d x :: ws, xs, vs, h, ⟨v, r, e, h1, h2⟩ => by
    unfold allD at h
    cases e2 : allD ws with
    | none => rw [e2] at h; cases h
    | some ys =>
      rw [e2] at h; cases h
      unfold DVs
      exact ⟨v, r, e, h1, WVs.toD e2 h2⟩
  | .ref _ :: _, _, _, h, _ => by cases h
theorem DVs.length {B : List Addr} : ∀ {xs : List D} {vs : List V}, DVs K H B xs vs → xs.length = vs.length
  | [], _, h => by unfold DVs at h; rw [h]; rfl
  | _ :: _, _, h => by
    unfold DVs at h
    obtain ⟨v, r, e, _, h⟩ := h
    rw [e, List.length_cons, List.length_cons, DVs.length h]
theorem allD_map : ∀ xs : List D, allD (xs.map .d) = some xs
  | [] => rfl
  | x :: xs => by rw [List.map_cons, allD, allD_map xs]; rfl
theorem allD_eq : ∀ {ws : List W} {xs : List D}, allD ws = some xs → ws = xs.map .d
  | [], _, h => by cases h; rfl
  | .d x :: ws, xs, h => by
    unfold allD at h
    cases e2 : allD ws with
    | none => rw [e2] at h; cases h
    | some ys => rw [e2] at h; cases h; rw [allD_eq e2]; rfl
  | .ref _ :: _, _, h => by cases h
theorem DVs.get {B : List Addr} : ∀ {xs : List D} {vs : List V} {i : Nat} {x : D}, DVs K H B xs vs → xs[i]? = some x → ∃ v, vs[i]? = some v ∧ DV K H B x v
  | [], _, _, _, _, h => by simp at h
  | _ :: _, _, 0, _, q, h => by
    unfold DVs at q
    obtain ⟨v, r, e, h1, _⟩ := q
    simp at h; subst h; exact ⟨v, by rw [e]; rfl, h1⟩
  | _ :: _, _, i + 1, _, q, h => by
    unfold DVs at q
    obtain ⟨v, r, e, _, h2⟩ := q
    obtain ⟨u, q1, q2⟩ := DVs.get (i := i) h2 (by simpa using h)
    exact ⟨u, by rw [e]; simpa using q1, q2⟩
theorem DVs.append {B : List Addr} : ∀ {xs ys : List D} {vs us : List V}, DVs K H B xs vs → DVs K H B ys us → DVs K H B (xs ++ ys) (vs ++ us)
  | [], _, _, _, h, h' => by unfold DVs at h; rw [h]; exact h'
  | _ :: _, _, _, _, h, h' => by
    unfold DVs at h
    obtain ⟨v, r, e, h1, h2⟩ := h
    rw [e, List.cons_append, List.cons_append]
    unfold DVs
    exact ⟨v, _, rfl, h1, DVs.append h2 h'⟩
theorem DVs.take {B : List Addr} : ∀ {xs : List D} {vs : List V} (n : Nat), DVs K H B xs vs → DVs K H B (xs.take n) (vs.take n)
  | [], _, n, h => by unfold DVs at h; rw [h]; simp; unfold DVs; rfl
  | _ :: _, _, 0, _ => by simp; unfold DVs; rfl
  | _ :: _, _, n + 1, h => by
    unfold DVs at h
    obtain ⟨v, r, e, h1, h2⟩ := h
    rw [e, List.take_succ_cons, List.take_succ_cons]
    unfold DVs
    exact ⟨v, _, rfl, h1, DVs.take n h2⟩
theorem DVs.drop {B : List Addr} : ∀ {xs : List D} {vs : List V} (n : Nat), DVs K H B xs vs → DVs K H B (xs.drop n) (vs.drop n)
  | [], _, n, h => by unfold DVs at h; rw [h]; simp; unfold DVs; rfl
  | _ :: _, _, 0, h => by simpa using h
  | _ :: _, _, n + 1, h => by
    unfold DVs at h
    obtain ⟨v, r, e, h1, h2⟩ := h
    rw [e, List.drop_succ_cons, List.drop_succ_cons]
    exact DVs.drop n h2
end
end LL

set_option Elab.async false
set_option linter.all false
set_option maxRecDepth 100000
set_option maxHeartbeats 4000000
set_option autoImplicit false
/-! LC: what a result promises (PostG); the operators by values. -/
namespace LL
open PySem PySem.Spec PyProof.Rows L2
/-- error classes: where they stand, the name of what they keep -/
structure Er where
  ca : Nat → Addr
  an : Nat → Str
section
variable (K : PySem.W.Frag) (er : Er) (Wx : WX) (O : List Addr)
def PostG {α β : Type} (rel : Hp → List Addr → α → β → Prop) (r : R α) (σ : L2.St) (H : Hp) (m : List Addr) (Q : β → Hp → Prop) : Prop := match r with
  | .ok a st' => ∀ H' m' b, Ext H m H' m' → Rep K H' O m' st' → rel H' m' a b → Q b H'
  | .exc c p st' => ∀ H' m' dd fs v, Ext H m H' m' → Rep K H' O m' st' → DV K H' (O ++ m') p v → H' dd = some (.xd fs) → fs.lookup (er.an c) = some v → Wx (.ref (er.ca c)) (some dd) σ H'
  | .bad => False
abbrev relW (H : Hp) (m : List Addr) : W → V → Prop := WV K H O m
abbrev relWs (H : Hp) (m : List Addr) : List W → List V → Prop := WVs K H O m
abbrev relB (_ : Hp) (_ : List Addr) : Bool → Bool → Prop := fun a b => b = a
abbrev relO (_ : Hp) (_ : List Addr) : Option Int → Option Int → Prop := fun a b => b = a
end
section
variable (K : PySem.W.Frag) (er : Er) (Wx : WX)
/-- an expression's reading by what the evaluator gives -/
def tE (r : Ev → Sto → R W) : TE := fun σ H Q => ∃ O m st env, Rep K H O m st ∧ EnvOk K H O m env σ ∧ PostG K er Wx O (relW K O) (r env st) σ H m Q
def tT (r : Ev → Sto → R Bool) : TT := fun σ H Q => ∃ O m st env, Rep K H O m st ∧ EnvOk K H O m env σ ∧ PostG K er Wx O relB (r env st) σ H m Q
def tA (r : Ev → Sto → R (List W)) : TA := fun σ H Q => ∃ O m st env, Rep K H O m st ∧ EnvOk K H O m env σ ∧ PostG K er Wx O (relWs K O) (r env st) σ H m Q
def tOo (r : Ev → Sto → R (Option Int)) : TO := fun σ H Q => ∃ O m st env, Rep K H O m st ∧ EnvOk K H O m env σ ∧ PostG K er Wx O relO (r env st) σ H m Q
end
section
variable {K : PySem.W.Frag} {er : Er} {Wx : WX} {O : List Addr} {σ : L2.St} {H H1 : Hp} {m m1 : List Addr} {st st1 : Sto} {env : Ev}
variable {α β γ δ : Type} {rel : Hp → List Addr → α → β → Prop} {rel' : Hp → List Addr → γ → δ → Prop}
theorem PostG.imp {r : R α} {Q Q' : β → Hp → Prop} (h : PostG K er Wx O rel r σ H m Q) (i : ∀ b H, Q b H → Q' b H) : PostG K er Wx O rel r σ H m Q' := by
  cases r with
  | ok a st' => exact fun H' m' b e rp rl => i _ _ (h H' m' b e rp rl)
  | exc c p st' => exact h
  | bad => exact h
theorem PostG.fwd {r : R α} {Q : β → Hp → Prop} (h : PostG K er Wx O rel r σ H m Q) (e : Ext H m H1 m1) (rp : Rep K H1 O m1 st1) : PostG K er Wx O rel r σ H1 m1 Q := by
  cases r with
  | ok a st' => exact fun H' m' b e' rp' rl => h H' m' b (e.trans e' rp) rp' rl
  | exc c p st' => exact fun H' m' dd fs v e' rp' d x l => h H' m' dd fs v (e.trans e' rp) rp' d x l
  | bad => exact h
theorem PostG.bind {r : R α} {f : α → Sto → R γ} {Q : δ → Hp → Prop} (h : PostG K er Wx O rel' (r.bind f) σ H m Q) :
    PostG K er Wx O rel r σ H m (fun b H1 => ∃ m1 st1 a, Ext H m H1 m1 ∧ Rep K H1 O m1 st1 ∧ rel H1 m1 a b ∧ PostG K er Wx O rel' (f a st1) σ H1 m1 Q) := by
  cases r with
  | ok a st' => exact fun H' m' b e rp rl => ⟨m', st', a, e, rp, rl, PostG.fwd h e rp⟩
  | exc c p st' => exact h
  | bad => exact h
theorem PostG.ofO {o : Option α} {Q : β → Hp → Prop} (h : PostG K er Wx O rel (ofO o st) σ H m Q) : ∃ a, o = some a ∧ PostG K er Wx O rel (.ok a st) σ H m Q := by
  cases o with
  | some a => exact ⟨a, rfl, h⟩
  | none => exact h.elim
theorem PostG.here {a : α} {y : β} {Q : β → Hp → Prop} (h : PostG K er Wx O rel (.ok a st) σ H m Q) (rp : Rep K H O m st) (rl : rel H m a y) : Q y H := h H m y Ext.refl rp rl
/-- a test's result -/
theorem truth_ok {w : W} {v : V} {k : Bool} (rp : Rep K H O m st) (h : WV K H O m w v) (e : truth st w = some k) : TruV K v H k := by
  cases w with
  | d x =>
    cases x with
    | non => cases e; rw [show v = .non from h]; exact rfl
    | bl b => cases e; rw [show v = .bl k from h]; exact rfl
    | int i => cases e; rw [show v = .int i from h]; exact rfl
    | str s =>
      rw [show v = .str s from h]
      have e : (if s.length ≤ sizeLine then some (s.length != 0) else none) = some k := e
      by_cases hl : s.length ≤ sizeLine
      · rw [if_pos hl] at e
        cases e
        refine ⟨hl, ?_⟩
        by_cases z : s.length = 0
        · simp [z]
        · have z1 : (s.length == 0) = false := by simpa using z
          have z2 : ((s.length : Int) == 0) = false := by
            have : ¬ ((s.length : Int) = 0) := by omega
            simpa using this
          unfold bne
          rw [z1, z2]
      · rw [if_neg hl] at e; cases e
    | tup xs =>
      cases e
      unfold WV DV at h
      obtain ⟨a, vs, ev, q, hs⟩ := h
      rw [ev]
      refine .inr (.inl ⟨vs, q, ?_⟩)
      cases xs with
      | nil => unfold DVs at hs; rw [hs]; rfl
      | cons x xs => unfold DVs at hs; obtain ⟨u, r, e1, _⟩ := hs; rw [e1]; rfl
    | lst xs =>
      cases e
      unfold WV DV at h
      obtain ⟨a, vs, ev, _, q, hs⟩ := h
      rw [ev]
      refine .inl ⟨vs, SqL.of q, ?_⟩
      cases xs with
      | nil => unfold DVs at hs; rw [hs]; rfl
      | cons x xs => unfold DVs at hs; obtain ⟨u, r, e1, _⟩ := hs; rw [e1]; rfl
    | frz xs => cases e
    | dct _ => cases e
    | obj _ _ _ => cases e
    | exc _ _ _ => cases e
  | ref i =>
    unfold truth at e
    cases hs : st[i]? with
    | none => simp only [hs] at e; cases e
    | some o =>
      cases o with
      | lst ws =>
        simp only [hs] at e; cases e
        obtain ⟨a, vs, ev, _, q, hw⟩ := rp.at_ h hs
        rw [ev]
        refine .inl ⟨vs, SqL.of q, ?_⟩
        cases ws with
        | nil => rw [show vs = [] from hw]; rfl
        | cons x xs => obtain ⟨u, r, e1, _⟩ := hw; rw [e1]; rfl
      | dct _ => simp only [hs] at e; cases e
      | ins _ _ _ => simp only [hs] at e; cases e
/-- a new list -/
theorem newL_ok {mm : Bool} {ws : List W} {vs : List V} {Q : V → Hp → Prop} (rp : Rep K H O m st) (h : WVs K H O m ws vs) (q : PostG K er Wx O (relW K O) (newL mm ws st) σ H m Q) :
    vs.length ≤ sizeLine ∧ ∀ p, H p = none → Q (.ref p) (upd H p (.lst vs)) := by
  unfold newL at q
  by_cases hl : ws.length ≤ sizeLine
  · rw [if_pos hl] at q
    refine ⟨by rw [← h.length]; exact hl, fun p hp => ?_⟩
    cases mm with
    | true =>
      rw [if_pos rfl] at q
      obtain ⟨e, r⟩ := rp.alloc hp h
      exact q _ (m ++ [p]) (.ref p) e r ⟨p, by rw [← rp.len]; simp, rfl⟩
    | false =>
      rw [if_neg Bool.false_ne_true] at q
      cases ha : allD ws with
      | none => rw [ha] at q; exact q.elim
      | some ds =>
        rw [ha] at q
        have nb : p ∉ O ++ m := fun z => by
          rcases List.mem_append.mp z with z | z
          · exact rp.ol p z hp
          · obtain ⟨o, h', _⟩ := rp.there z
            rw [hp] at h'; cases h'
        refine q _ m (.ref p) (Ext.fresh hp) (rp.fresh hp) ?_
        unfold relW WV DV
        exact ⟨p, vs, rfl, nb, upd_same, DVs.ext rp.mut (Ext.fresh hp) (fun _ z => .inl z) (fun _ z => List.mem_append_right _ z) ds vs (WVs.toD ha h)⟩
  · rw [if_neg hl] at q; exact q.elim
theorem newT_ok {ds : List D} {vs : List V} {Q : V → Hp → Prop} (rp : Rep K H O m st) (h : DVs K H (O ++ m) ds vs) (q : PostG K er Wx O (relW K O) (.ok (.d (.tup ds)) st) σ H m Q) :
    ∀ p, H p = none → Q (.ref p) (upd H p (.tup vs)) := fun p hp => by
  refine q _ m (.ref p) (Ext.fresh hp) (rp.fresh hp) ?_
  unfold relW WV DV
  exact ⟨p, vs, rfl, SqT.of upd_same, DVs.ext rp.mut (Ext.fresh hp) (fun _ z => .inl z) (fun _ z => List.mem_append_right _ z) ds vs h⟩
theorem items_ok {w : W} {v : V} {ws : List W} (rp : Rep K H O m st) (h : WV K H O m w v) (e : itemsL st w = some ws) : ∃ a vs, v = .ref a ∧ H a = some (.lst vs) ∧ WVs K H O m ws vs := by
  cases w with
  | d x =>
    cases x with
    | lst xs =>
      cases e
      unfold WV DV at h
      obtain ⟨a, vs, ev, _, q, hs⟩ := h
      exact ⟨a, vs, ev, q, hs.toW⟩
    | _ => cases e
  | ref i =>
    unfold itemsL at e
    cases hs : st[i]? with
    | none => simp only [hs] at e; cases e
    | some o =>
      cases o with
      | lst ws' =>
        simp only [hs] at e; cases e
        obtain ⟨a, vs, ev, _, q, hw⟩ := rp.at_ h hs
        exact ⟨a, vs, ev, q, hw⟩
      | dct _ => simp only [hs] at e; cases e
      | ins _ _ _ => simp only [hs] at e; cases e
end
end LL

set_option Elab.async false
set_option linter.all false
set_option maxRecDepth 100000
set_option maxHeartbeats 4000000
set_option autoImplicit false
/-! LDm: a text, a tuple times an int. -/
namespace LL
open PySem PySem.Spec PyProof.Rows L2
theorem tuple_mul1 (l : Addr) (items : Array Value) (n : Nat) (dd : Option Addr) (sl : Array (Option Value)) (x : Int) (u : Tok) (c0 : (decide (x < -(2 ^ 63)) || decide (x ≥ 2 ^ 63)) = false) (c1 : (items.isEmpty || x == 1) = true) :
    Meets (Builtin.«tuple.__mul__» ⟨[.ref l, .int x u], []⟩) (fun _ R s => s.heap.get? l = some { cls := .type "tuple", dict := dd, data := .seq items n, slots := sl } ∧
      R (.ok (.ret (Value.ref l))) s) :=
  .of_wp fun prog w A R s h => by
    obtain ⟨hp, g, d, tk, os⟩ := s
    obtain ⟨hl, h⟩ := h
    have f1 := AutoSeq1.idx_int
    wp_walk using wpAny_loadPart' hl
    repeat (first
      | (refine wpAny_ite_false (decide_eq_false (by rw [c0]; exact Bool.false_ne_true)) ?_; wp_walk using wpAny_loadPart' hl)
      | (refine wpAny_ite_true (decide_eq_true c1) ?_; wp_walk using wpAny_loadPart' hl))
    exact ⟨_, rfl, h⟩
def rRep1 (K : PySem.W.Frag) : R2 := fun x y H Q => ∃ l k xs, x = .ref l ∧ y = .int k ∧ SqT K H l xs ∧ (xs.isEmpty || k == 1) = true ∧ -1000 ≤ k ∧ k ≤ 1000 ∧ Q (.ref l) H
theorem op_rep1 {X : Cx} : OpR X (binaryOp .Mult) (rRep1 X.K) := by
  intro pins s σ H x y v u Q I rx ry h
  obtain ⟨l, k, xs, rfl, rfl, hT, h1, h2, h3, q⟩ := h
  cases rx
  obtain ⟨t, rfl⟩ := ry
  obtain ⟨its, r, ⟨⟨cls, dd, data, sl⟩, ho, hc, n, hd⟩, hs⟩ := I.tuple hT
  simp only at hc hd
  subst hc hd
  have hi : its.toArray.isEmpty = xs.isEmpty := by
    cases r <;> simp
  have c0 : (decide (k < -(2 ^ 63)) || decide (k ≥ 2 ^ 63)) = false := by
    rw [decide_eq_false (by omega), decide_eq_false (by omega)] <;> rfl
  exact wpAny_binaryOp_repeat_ref (T := "tuple") (U := "int") (by decide) ⟨_, ho, rfl⟩ (fun s' => typeIs_int s' k t) noFill_tuple_mul F.fills_int_mul F.slot_int_rmul repeat_tuple F.slot_int_index.lookup
    (call_meets F.slot_int_rmul (typeIs_int s k t) F.entry_int_rmul (F.args_int_rmul_2 _ _) (int_rmul_tuple k t l its.toArray n dd sl)
      ⟨ho, rfl, ⟨_, ho, rfl⟩, call_meets F.slot_tuple_mul ⟨_, ho, rfl⟩ F.entry_tuple_mul (F.args_tuple_mul_2 _ _) (tuple_mul1 l its.toArray n dd sl k t c0 (by rw [hi]; exact h1)) ⟨ho, ⟨.ref l, H, I.tok s.toks, rfl, q⟩⟩⟩)
def rStrMul : R2 := fun x y H Q => ∃ (z : Str) (k : Int), x = .str z ∧ y = .int k ∧ (0 < z.length ∧ z.length ≤ 200 ∧ -1000 ≤ k ∧ k ≤ 5000) ∧ Q (.str (mulStr z k)) H
theorem op_strMul {X : Cx} : OpR X (binaryOp .Mult) rStrMul := by
  intro pins s σ H x y v u Q I rx ry h
  obtain ⟨z, k, rfl, rfl, ⟨h0, h1, h2, h3⟩, q⟩ := h
  obtain ⟨t, rfl⟩ := rx
  obtain ⟨t', rfl⟩ := ry
  have hz : (z.length == 0) = false := by
    have : z.length ≠ 0 := by omega
    simpa using this
  refine P.mul_str (by rw [decide_eq_false (by omega), decide_eq_false (by omega)] <;> rfl) (fun a b => ?_) (fun a b => ?_) ?_
  · have hk : 2 ≤ k := by
      rw [hz, Bool.or_false] at b
      have : k ≠ 1 := by simpa using b
      omega
    have e : (1000 : Int) ≤ (2 ^ 63 - 1) / k := by
      refine Int.le_ediv_of_mul_le (by omega) ?_
      have : 1000 * k ≤ 1000 * 5000 := by omega
      omega
    omega
  · unfold Builtin.Str.tooLong
    rw [sizeLine_eq]
    have a1 : z.length * k.toNat ≤ 200 * 5000 := Nat.mul_le_mul h1 (by omega)
    exact decide_eq_false (by omega)
  · unfold mulStr at q
    by_cases c : k < 1
    · rw [if_pos c] at q
      rw [if_pos c]
      exact ⟨by decide, ⟨.str _, H, I.tok _, ⟨_, rfl⟩, q⟩⟩
    · rw [if_neg c] at q
      rw [if_neg c]
      by_cases c2 : (k == 1 || z.length == 0) = true
      · rw [if_pos c2]
        rw [if_pos c2] at q
        exact ⟨.str _, H, I.tok _, ⟨_, rfl⟩, q⟩
      · rw [if_neg c2]
        rw [if_neg c2] at q
        refine ⟨?_, ⟨.str _, H, I.tok _, ⟨_, rfl⟩, q⟩⟩
        have key : ∀ (n : Nat) (acc : Array Nat), (List.foldl (fun x1 x2 => x1 ++ x2) acc (List.replicate n z.cps)).size = acc.size + n * z.cps.size := by
          intro n
          induction n with
          | zero => intro acc; simp
          | succ n ih =>
            intro acc
            rw [List.replicate_succ, List.foldl_cons, ih, Array.size_append, Nat.succ_mul]
            omega
        show (List.foldl (fun x1 x2 => x1 ++ x2) #[] (List.replicate k.toNat z.cps)).size ≤ sizeLine
        rw [key, sizeLine_eq]
        have a1 : k.toNat * z.length ≤ 5000 * 200 := Nat.mul_le_mul (by omega) h1
        have a2 : z.length = z.cps.size := rfl
        rw [a2] at a1
        simp only [Array.size_empty, List.size_toArray, List.length_nil]
        omega
end LL

set_option Elab.async false
set_option linter.all false
set_option maxRecDepth 100000
set_option maxHeartbeats 4000000
set_option autoImplicit false
/-! LD: the operators, comparisons, subscripts, slices by values. -/
namespace LL
open PySem PySem.Spec PyProof.Rows L2
section
variable {K : PySem.W.Frag} {O m : List Addr} {H : Hp} {st : Sto}
mutual
theorem DV.dp {B : List Addr} : ∀ (x : D) (v : V), DV K H B x v → x.py.canLay0 = true → Dp K H v x.py
  | .non, v, h, _ => by rw [show v = .non from h]; exact .non
  | .bl b, v, h, _ => by rw [show v = .bl b from h]; exact .bl b
  | .int i, v, h, _ => by rw [show v = .int i from h]; exact .int i
  | .str s, v, h, _ => by rw [show v = .str s from h]; exact .str s
  | .tup xs, v, h, c => by
    unfold DV at h
    obtain ⟨a, vs, ev, q, hs⟩ := h
    rw [ev]
    exact .tup q (DVs.dp xs vs hs (by simpa [D.py, PyData.canLay0] using c))
  | .lst xs, v, h, c => by
    unfold DV at h
    obtain ⟨a, vs, ev, _, q, hs⟩ := h
    rw [ev]
    exact .lst (SqL.of q) (DVs.dp xs vs hs (by simpa [D.py, PyData.canLay0] using c))
  | .frz _, _, _, c => by simp [D.py, PyData.canLay0] at c
  | .dct _, _, _, c => by simp [D.py, PyData.canLay0] at c
  | .obj _ _ _, _, _, c => by simp [D.py, PyData.canLay0] at c
  | .exc _ _ _, _, _, c => by simp [D.py, PyData.canLay0] at c
theorem DVs.dp {B : List Addr} : ∀ (xs : List D) (vs : List V), DVs K H B xs vs → PyData.canLayAll0 (D.pys xs) = true → DpAll K H vs (D.pys xs)
  | [], vs, h, _ => by unfold DVs at h; rw [h]; exact .nil
  | x :: xs, vs, h, c => by
    unfold DVs at h
    obtain ⟨v, r, e, h1, h2⟩ := h
    have c' : x.py.canLay0 = true ∧ PyData.canLayAll0 (D.pys xs) = true := by simpa [D.pys, PyData.canLayAll0] using c
    rw [e]
    exact .cons (DV.dp x v h1 c'.1) (DVs.dp xs r h2 c'.2)
end
theorem frz_dp (rp : Rep K H O m st) : ∀ (k : Nat) (w : W) (v : V) (x : D), WV K H O m w v → frz k st w = some x → x.py.canLay0 = true → Dp K H v x.py := by
  intro k
  induction k with
  | zero =>
    intro w v x h e c
    cases w with
    | d y => cases e; exact DV.dp x v h c
    | ref i => cases e
  | succ k ih =>
    intro w v x h e c
    cases w with
    | d y => cases e; exact DV.dp x v h c
    | ref i =>
      unfold frz at e
      cases hs : st[i]? with
      | none => simp only [hs] at e; cases e
      | some o =>
        cases o with
        | dct ks =>
          simp only [hs] at e
          cases e2 : mapO (fun p : D × W => (frz k st p.2).map fun y => (p.1, y)) ks with
          | none => rw [e2] at e; cases e
          | some ys => rw [e2] at e; cases e; simp [D.py, PyData.canLay0] at c
        | ins cc ks ws =>
          simp only [hs] at e
          cases e2 : mapO (frz k st) ws with
          | none => rw [e2] at e; cases e
          | some ys => rw [e2] at e; cases e; simp [D.py, PyData.canLay0] at c
        | lst ws =>
          simp only [hs] at e
          cases e2 : mapO (frz k st) ws with
          | none => rw [e2] at e; cases e
          | some ys =>
            rw [e2] at e; cases e
            obtain ⟨a, vs, ev, _, q, hw⟩ := rp.at_ h hs
            rw [ev]
            refine .lst (SqL.of q) ?_
            have c' : PyData.canLayAll0 (D.pys ys) = true := by simpa [D.py, PyData.canLay0] using c
            clear c hs q
            induction ws generalizing ys vs with
            | nil => cases e2; rw [show vs = [] from hw]; exact .nil
            | cons w ws ih2 =>
              obtain ⟨u, r, e3, h1, h2⟩ := hw
              unfold mapO at e2
              cases e4 : frz k st w with
              | none => simp only [e4] at e2; cases e2
              | some y =>
                simp only [e4] at e2
                cases e5 : mapO (frz k st) ws with
                | none => rw [e5] at e2; cases e2
                | some zs =>
                  rw [e5] at e2; cases e2
                  have c2 : y.py.canLay0 = true ∧ PyData.canLayAll0 (D.pys zs) = true := by simpa [D.pys, PyData.canLayAll0] using c'
                  rw [e3]
                  exact .cons (ih w u y h1 e4 c2.1) (ih2 zs e5 r h2 c2.2)
theorem frz_dp8 (rp : Rep K H O m st) {w : W} {v : V} {x : D} (h : WV K H O m w v) (e : frz 8 st w = some x) (s : x.shp = true) : Dp K H v x.py := frz_dp rp 8 w v x h e (SeqAt.canLay_of_shaped s)
end
/-! ### OpR made weaker -/
theorem OpR.nev {X : Cx} {f : Value → Value → Sem Value} : OpR X f (fun _ _ _ _ => False) := fun _ _ _ _ _ _ _ _ _ _ _ _ h => h.elim
/-- in, not in over a tuple of data -/
def rInTD (K : PySem.W.Frag) : R2 := fun x y H Q => ∃ d ds, Dp K H x d ∧ Dp K H y (.tuple ds) ∧ SeqAt.shaped d = true ∧ SeqAt.shaped (.tuple ds) = true ∧ Q (.bl (ds.any fun z => PyData.eqv z d)) H
def rNotInTD (K : PySem.W.Frag) : R2 := fun x y H Q => ∃ d ds, Dp K H x d ∧ Dp K H y (.tuple ds) ∧ SeqAt.shaped d = true ∧ SeqAt.shaped (.tuple ds) = true ∧ Q (.bl (!ds.any fun z => PyData.eqv z d)) H
section
variable {X : Cx}
theorem op_inTD (hu : X.A.units + 65 < cLine) : OpR X (compareOp .In) (rInTD X.K) := by
  intro pins s σ H x y v u Q I rx ry h
  obtain ⟨d, ds, hd, he, sd, se, q⟩ := h
  obtain ⟨as, r1⟩ := Dp.reads I d x v hd rx
  obtain ⟨bs, r2⟩ := Dp.reads I (.tuple ds) y u he ry
  exact SeqAt.in_tuple_reads r2 r1 (SeqAt.canLay_of_shaped se) (SeqAt.canLay_of_shaped sd) (room_in_shaped sd hu) ⟨.bl _, H, I, rfl, q⟩
theorem op_notInTD (hu : X.A.units + 65 < cLine) : OpR X (compareOp .NotIn) (rNotInTD X.K) := by
  intro pins s σ H x y v u Q I rx ry h
  obtain ⟨d, ds, hd, he, sd, se, q⟩ := h
  obtain ⟨as, r1⟩ := Dp.reads I d x v hd rx
  obtain ⟨bs, r2⟩ := Dp.reads I (.tuple ds) y u he ry
  exact SeqAt.notIn_tuple_reads r2 r1 (SeqAt.canLay_of_shaped se) (SeqAt.canLay_of_shaped sd) (room_in_shaped sd hu) ⟨.bl _, H, I, rfl, q⟩
end
/-- what the evaluator makes of two values is served by the reading rr -/
def OpOk (K : PySem.W.Frag) (er : Er) (Wx : WX) (rr : R2) (f : W → W → Sto → R W) : Prop :=
  ∀ (O : List Addr) (σ : L2.St) (H : Hp) (m : List Addr) (st : Sto) (a b : W) (x y : V) (Q : VK), Rep K H O m st → WV K H O m a x → WV K H O m b y → PostG K er Wx O (relW K O) (f a b st) σ H m Q → rr x y H Q
section
variable {K : PySem.W.Frag} {er : Er} {Wx : WX} {O : List Addr}
/-- what an answer that makes nothing new comes to -/
theorem done_int {σ : L2.St} {H : Hp} {m : List Addr} {st : Sto} {Q : VK} {i : Int} (rp : Rep K H O m st) (h : PostG K er Wx O (relW K O) (.ok (.d (.int i)) st) σ H m Q) : Q (.int i) H := PostG.here h rp rfl
theorem done_str {σ : L2.St} {H : Hp} {m : List Addr} {st : Sto} {Q : VK} {i : Str} (rp : Rep K H O m st) (h : PostG K er Wx O (relW K O) (.ok (.d (.str i)) st) σ H m Q) : Q (.str i) H := PostG.here h rp rfl
theorem done_bl {σ : L2.St} {H : Hp} {m : List Addr} {st : Sto} {Q : VK} {i : Bool} (rp : Rep K H O m st) (h : PostG K er Wx O (relW K O) (.ok (.d (.bl i)) st) σ H m Q) : Q (.bl i) H := PostG.here h rp rfl
/-- the operators that are of ints alone -/
theorem binI_ok {op : Operator} {mm : Bool} {C : Int → Int → Prop} {g : Int → Int → Int} (hop : op ≠ .Add) (hm : op ≠ .Mult) (h : ∀ i j k, binI op i j = some k → C i j ∧ k = g i j) : OpOk K er Wx (rI C fun i j => .int (g i j)) (binW op mm) := by
  intro O σ H m st a b x y Q rp ha hb h1
  have int2 : ∀ i j, a = .d (.int i) → b = .d (.int j) → rI C (fun i j => V.int (g i j)) x y H Q := fun i j e1 e2 => by
    subst e1 e2
    rw [show x = .int i from ha, show y = .int j from hb]
    obtain ⟨w, ew, h1⟩ := PostG.ofO h1
    cases e : binI op i j with
    | none => rw [e] at ew; cases ew
    | some k =>
      rw [e] at ew; cases ew
      obtain ⟨c, rfl⟩ := h i j k e
      exact ⟨i, j, rfl, rfl, c, done_int rp h1⟩
  unfold binW at h1
  split at h1
  · exact int2 _ _ rfl rfl
  · rw [if_neg (fun z => hop z.1)] at h1; exact h1.elim
  · rw [if_neg (fun z => hop z.1)] at h1; exact h1.elim
  · rw [if_neg hm] at h1; exact h1.elim
  · rw [if_neg hm] at h1; exact h1.elim
  · rw [if_neg hop] at h1; exact h1.elim
def rMulA (K : PySem.W.Frag) : R2 := fun x y H Q => rI CMulW (fun i j => .int (i * j)) x y H Q ∨ (rStrMul x y H Q ∨ (rRep1 K x y H Q ∨ rRepT K x y H Q))
theorem DVs.rep {K : PySem.W.Frag} {H : Hp} {B : List Addr} {xs : List D} {vs : List V} (h : DVs K H B xs vs) : ∀ n : Nat, DVs K H B (List.replicate n xs).flatten (List.replicate n vs).flatten
  | 0 => by unfold DVs; rfl
  | n + 1 => by
    rw [List.replicate_succ, List.replicate_succ, List.flatten_cons, List.flatten_cons]
    exact h.append (DVs.rep h n)
theorem mul_ok {mm : Bool} : OpOk K er Wx (rMulA K) (binW .Mult mm) := by
  intro O σ H m st a b x y Q rp ha hb h1
  unfold binW at h1
  split at h1
  · rename_i i j
    rw [show x = .int i from ha, show y = .int j from hb]
    obtain ⟨w, ew, h1⟩ := PostG.ofO h1
    have e : binI .Mult i j = if i.natAbs.log2 + j.natAbs.log2 < 1000000 then some (i * j) else none := rfl
    rw [e] at ew
    by_cases c : i.natAbs.log2 + j.natAbs.log2 < 1000000
    · rw [if_pos c] at ew; cases ew
      exact .inl ⟨i, j, rfl, rfl, c, done_int rp h1⟩
    · rw [if_neg c] at ew; cases ew
  · rw [if_neg (fun z => nomatch z.1)] at h1; exact h1.elim
  · rw [if_neg (fun z => nomatch z.1)] at h1; exact h1.elim
  · rename_i z k
    rw [if_pos rfl] at h1
    unfold mulS at h1
    by_cases c : 0 < z.length ∧ z.length ≤ 200 ∧ -1000 ≤ k ∧ k ≤ 5000
    · rw [if_pos c] at h1
      exact .inr (.inl ⟨z, k, ha, hb, c, done_str rp h1⟩)
    · rw [if_neg c] at h1; exact h1.elim
  · rename_i xs k
    rw [if_pos rfl] at h1
    unfold mulT at h1
    have ha0 := ha
    unfold WV DV at ha
    obtain ⟨p, vs, e1, q1, s1⟩ := ha
    have hi : xs.isEmpty = vs.isEmpty := by
      have := s1.length
      cases xs <;> cases vs <;> first | rfl | (simp at this)
    by_cases c : (xs.isEmpty || k == 1) = true ∧ -1000 ≤ k ∧ k ≤ 1000
    · rw [if_pos c] at h1
      refine .inr (.inr (.inl ⟨p, k, vs, e1, hb, q1, by rw [← hi]; exact c.1, c.2.1, c.2.2, ?_⟩))
      rw [← e1]
      exact PostG.here h1 rp ha0
    · rw [if_neg c] at h1
      by_cases c2 : xs.isEmpty = false ∧ 2 ≤ k ∧ k ≤ 1000 ∧ xs.length ≤ 1000
      · rw [if_pos c2] at h1
        refine .inr (.inr (.inr ⟨p, k, vs, e1, hb, q1, fun z => ?_, c2.2.1, c2.2.2.1, by rw [← s1.length]; exact c2.2.2.2, newT_ok rp (s1.rep k.toNat) h1⟩))
        rw [z] at hi
        rw [hi] at c2
        exact absurd c2.1 (by simp)
      · rw [if_neg c2] at h1; exact h1.elim
  · rw [if_neg (fun z => nomatch z)] at h1; exact h1.elim
abbrev rAddS : R2 := fun x y H Q => ∃ i j, x = .str i ∧ y = .str j ∧ i.length + j.length ≤ sizeLine ∧ Q (.str (i ++ j)) H
def rAddA (K : PySem.W.Frag) : R2 := fun x y H Q => rI0 (fun i j => .int (i + j)) x y H Q ∨ (rAddS x y H Q ∨ (rCatA K x y H Q ∨ rCat x y H Q))
theorem add_ok {mm : Bool} : OpOk K er Wx (rAddA K) (binW .Add mm) := by
  intro O σ H m st a b x y Q rp ha hb h1
  unfold binW at h1
  split at h1
  · rename_i i j
    rw [show x = .int i from ha, show y = .int j from hb]
    exact .inl ⟨i, j, rfl, rfl, done_int rp h1⟩
  · rename_i i j
    by_cases c : Operator.Add = Operator.Add ∧ i.length + j.length ≤ sizeLine
    · rw [if_pos c] at h1
      rw [show x = .str i from ha, show y = .str j from hb]
      exact .inr (.inl ⟨i, j, rfl, rfl, c.2, done_str rp h1⟩)
    · rw [if_neg c] at h1; exact h1.elim
  · rename_i xs ys
    by_cases c : Operator.Add = Operator.Add ∧ xs.length + ys.length ≤ sizeLine
    · rw [if_pos c] at h1
      unfold WV DV at ha hb
      obtain ⟨p, vs, e1, q1, s1⟩ := ha
      obtain ⟨q, us, e2, q2, s2⟩ := hb
      refine .inr (.inr (.inl ⟨p, q, vs, us, e1, e2, q1, q2, by rw [← s1.length, ← s2.length]; exact c.2, fun z => ?_, fun _ z => ?_, fun _ _ => newT_ok rp (s1.append s2) h1⟩))
      · subst z
        refine PostG.here h1 rp ?_
        show DV K H (O ++ m) (.tup (xs ++ ys)) (.ref q)
        unfold DV
        exact ⟨q, us, rfl, q2, s1.append s2⟩
      · subst z
        refine PostG.here h1 rp ?_
        show DV K H (O ++ m) (.tup (xs ++ ys)) (.ref p)
        unfold DV
        refine ⟨p, vs, rfl, q1, ?_⟩
        have := s1.append s2
        rw [List.append_nil] at this
        exact this
    · rw [if_neg c] at h1; exact h1.elim
  · rw [if_neg (fun z => nomatch z)] at h1; exact h1.elim
  · rw [if_neg (fun z => nomatch z)] at h1; exact h1.elim
  · rw [if_pos rfl] at h1
    cases e1 : itemsL st a with
    | none => rw [e1] at h1; exact h1.elim
    | some xs =>
      cases e2 : itemsL st b with
      | none => rw [e1, e2] at h1; exact h1.elim
      | some ys =>
        rw [e1, e2] at h1
        obtain ⟨p, vs, ex, q1, s1⟩ := items_ok rp ha e1
        obtain ⟨q, us, ey, q2, s2⟩ := items_ok rp hb e2
        obtain ⟨hz, k⟩ := newL_ok rp (s1.append s2) h1
        exact .inr (.inr (.inr ⟨p, q, vs, us, ex, ey, q1, q2, by rw [← List.length_append]; exact hz, k⟩))
/-- each operator -/
theorem bin_ok (X : Cx) (op : Operator) (mm : Bool) : ∃ rr, OpR X (binaryOp op) rr ∧ OpOk X.K er Wx rr (binW op mm) := by
  have nev : ∀ op : Operator, op ≠ .Add → op ≠ .Mult → (∀ i j, binI op i j = none) → OpOk X.K er Wx (fun _ _ _ _ => False) (binW op mm) := by
    intro op hop hm hn O σ H m st a b x y Q rp ha hb h1
    unfold binW at h1
    split at h1
    · rw [hn] at h1; exact h1.elim
    · rw [if_neg (fun z => hop z.1)] at h1; exact h1.elim
    · rw [if_neg (fun z => hop z.1)] at h1; exact h1.elim
    · rw [if_neg hm] at h1; exact h1.elim
    · rw [if_neg hm] at h1; exact h1.elim
    · rw [if_neg hop] at h1; exact h1.elim
  cases op with
  | Add => exact ⟨_, OpR.or op_add (OpR.or op_add_str (OpR.or op_catA op_cat)), add_ok⟩
  | Sub => exact ⟨_, op_sub, fun O σ H m st a b x y Q rp ha hb h1 => by
      obtain ⟨i, j, e1, e2, _, q⟩ := binI_ok (op := .Sub) (C := fun _ _ => True) (g := fun i j => i - j) (fun z => nomatch z) (fun z => nomatch z) (fun i j k e => by cases e; exact ⟨trivial, rfl⟩) O σ H m st a b x y Q rp ha hb h1
      exact ⟨i, j, e1, e2, q⟩⟩
  | Mult => exact ⟨_, OpR.or op_mulW (OpR.or op_strMul (OpR.or op_rep1 op_repT)), mul_ok⟩
  | FloorDiv => exact ⟨_, op_fdivW, binI_ok (fun z => nomatch z) (fun z => nomatch z) (fun i j k e => by
      unfold binI at e
      dsimp only at e
      by_cases c : 0 < j ∧ j.natAbs.log2 < 9000
      · rw [if_pos c] at e; cases e; exact ⟨c, rfl⟩
      · rw [if_neg c] at e; cases e)⟩
  | Mod => exact ⟨_, op_mod, binI_ok (fun z => nomatch z) (fun z => nomatch z) (fun i j k e => by
      unfold binI at e
      dsimp only at e
      by_cases c : 0 < j
      · rw [if_pos c] at e; cases e; exact ⟨c, rfl⟩
      · rw [if_neg c] at e; cases e)⟩
  | Pow => exact ⟨_, op_pow, binI_ok (fun z => nomatch z) (fun z => nomatch z) (fun i j k e => by
      unfold binI at e
      dsimp only at e
      by_cases c : 0 ≤ j ∧ j ≤ 1000000 ∧ i.natAbs < 2 ^ 64
      · rw [if_pos c] at e; cases e; exact ⟨c, rfl⟩
      · rw [if_neg c] at e; cases e)⟩
  | MatMult => exact ⟨_, OpR.nev, nev _ (fun z => nomatch z) (fun z => nomatch z) fun _ _ => rfl⟩
  | Div => exact ⟨_, OpR.nev, nev _ (fun z => nomatch z) (fun z => nomatch z) fun _ _ => rfl⟩
  | LShift => exact ⟨_, OpR.nev, nev _ (fun z => nomatch z) (fun z => nomatch z) fun _ _ => rfl⟩
  | RShift => exact ⟨_, OpR.nev, nev _ (fun z => nomatch z) (fun z => nomatch z) fun _ _ => rfl⟩
  | BitOr => exact ⟨_, OpR.nev, nev _ (fun z => nomatch z) (fun z => nomatch z) fun _ _ => rfl⟩
  | BitXor => exact ⟨_, OpR.nev, nev _ (fun z => nomatch z) (fun z => nomatch z) fun _ _ => rfl⟩
  | BitAnd => exact ⟨_, OpR.nev, nev _ (fun z => nomatch z) (fun z => nomatch z) fun _ _ => rfl⟩
end
end LL

set_option Elab.async false
set_option linter.all false
set_option maxRecDepth 100000
set_option maxHeartbeats 4000000
set_option autoImplicit false
/-! LS: sorted over lists and tuples of data. -/
namespace LL
open PySem PySem.Spec PyProof.Rows L2
open PySem.W (EachIs AllAlike Sortable dataLe copyHeap copyHeap_at sortingHeap sortVals dataKind SortsAt)
section
variable {prog : Program} {w : World} {A : Around} {E : Value → Shared → Prop} {s : Shared}
theorem collect_tup {l : Addr} {vs : List Value} {Q : List Value → Shared → Prop} (hl : s.heap.IsTuple l vs.toArray)
    (h : Q vs { s with heap := (s.heap.push (seqObj "list" #[] 0)).update s.heap.objs.size (Obj.mapSeq (· ++ vs.toArray)) }) (hsz : vs.length ≤ sizeLine) :
    wpAny (model prog w) A (collect (.ref l)) Q E s := by
  obtain ⟨o, ho, hc, n, hd⟩ := id hl
  unfold collect
  refine wpAny_bind (wpAny_runValue (codeAny_builtin entry_proto_collect' ?_))
  show wpAny _ _ (do again (.builtin "list.__iadd__" ⟨[← newList [], .ref l], []⟩)) _ _ s
  refine wpAny_bind (wpAny_newList (wpAny_pure ⟨Code.quiet_builtin _ (by decide +kernel), codeAny_builtin entry_list_iadd' ?_⟩))
  show wpAny _ _ (Builtin.List.listExtendWith (.ref s.heap.objs.size) (.ref l) (.ref s.heap.objs.size)) _ _ { s with heap := s.heap.push (seqObj "list" #[] 0) }
  unfold Builtin.List.listExtendWith
  have ho' : (s.heap.push (seqObj "list" #[] 0)).get? l = some o := Heap.get?_push_of_some _ ho
  refine wpAny_bind (wpAny_typeOf (T := "tuple") ⟨o, ho', hc⟩ ?_)
  have ht : (Value.type "tuple" == Value.type "tuple") = true := by rfl
  rw [if_pos (by rw [ht]; simp)]
  refine wpAny_bind (listItems_at ho' hd ?_)
  refine wpAny_bind (listItems_at (xs := #[]) (n := 0) (Heap.get?_push_size _ rfl) rfl ?_)
  rw [if_neg (by simp)]
  refine wpAny_bind (listUpdate_at (xs := #[]) (n := 0) (Heap.get?_push_size _ rfl) rfl ?_ (Nat.zero_le _) (by show (#[] ++ vs.toArray).size ≤ sizeLine + 1; simp only [Array.size_append, List.size_toArray, List.length_nil]; omega))
  refine wpAny_pure ?_
  show wpAny (model prog w) A (do
      let o ← load s.heap.objs.size
      match o.data with
      | .seq xs _ => pure xs.toList
      | _ => unsupported "internal:collect") Q E { s with heap := (s.heap.push (seqObj "list" #[] 0)).update s.heap.objs.size (Obj.mapSeq (· ++ vs.toArray)) }
  refine wpAny_bind (wpAny_load (get?_update_seq (Heap.get?_push_size _ rfl) _) ?_)
  show wpAny _ _ (pure ((#[] : Array Value) ++ vs.toArray).toList) Q E _
  rw [show ((#[] : Array Value) ++ vs.toArray).toList = vs by simp]
  exact wpAny_pure h
theorem sorted_of_tup {l : Addr} {vs : List Value} {kw : List (Str × Value)} {Q : Value → Shared → Prop} (hl : s.heap.IsTuple l vs.toArray) (hL : vs.length ≤ sizeLine) (ha1 : argsOk "sorted" ⟨[.ref l], kw⟩) (ha2 : ∀ x, argsOk "list.sort" ⟨[.ref x], kw⟩)
    (body : ∀ E' : Value → Shared → Prop, wpAny (model prog w) A.in1.in1 (Builtin.«list.sort» ⟨[.ref (s.heap.objs.size + 1)], kw⟩) (fun f s' => f = .done (.ret .none) ∧ Q (.ref (s.heap.objs.size + 1)) s') E' { s with heap := copyHeap s.heap vs }) :
    wpAny (model prog w) A (call (.builtin "sorted") [.ref l] kw) Q E s := by
  refine PyProof.Rows.call_function_entry_kw kind_sorted plain_sorted entry_sorted ha1 ?_
  unfold Builtin.«sorted»
  refine wpAny_bind (m := checkCount "sorted" 1 1 _) (wpAny_pure ?_)
  refine wpAny_bind (collect_tup hl ?_ hL)
  refine wpAny_bind (wpAny_newList ?_ hL)
  have hsz : ((s.heap.push (seqObj "list" #[] 0)).update s.heap.objs.size (Obj.mapSeq (· ++ vs.toArray))).objs.size = s.heap.objs.size + 1 := by
    rw [Heap.size_update, size_push']
  show wpAny _ _ _ _ _ { s with heap := copyHeap s.heap vs }
  rw [hsz]
  refine wpAny_bind (wpAny_holding (wpAny_call_entry_kw slot_list_sort ⟨_, copyHeap_at s.heap vs, rfl⟩ entry_list_sort ?body (ha2 _)))
  case body =>
    show wpAny (model prog w) A.in1.in1 (Builtin.«list.sort» ⟨[.ref (s.heap.objs.size + 1)], kw⟩) _ _ _
    refine wpAny_mono (body _) (fun f s' hf => ?_) fun _ _ e => e
    obtain ⟨rfl, hq⟩ := hf
    exact ⟨_, rfl, wpAny_pure ⟨_, rfl, hq⟩⟩
theorem sorted_data_tup {β : Type} {vs : List Value} {bs : List β} {enc : β → PyData} {R : Value → β → Prop} {l : Addr} {Q : Value → Shared → Prop} (hl : s.heap.IsTuple l vs.toArray) (e : EachIs R vs bs) (er : EachIs (fun v b => ∃ as, Reads s.heap v (enc b) as) vs bs) (hal : AllAlike (bs.map enc)) (hk : Sortable (bs.map enc)) (hL : bs.length ≤ sizeLine)
    (hu : ∀ b, b ∈ bs → A.units + 2 + (enc b).depth < cLine) (h : ∀ out, out.length = bs.length → EachIs R out (bs.mergeSort (dataLe false enc)) → Q (.ref (s.heap.objs.size + 1)) { s with heap := sortedAll s.heap vs (List.toArray out) }) :
    wpAny (model prog w) A (call (.builtin "sorted") [.ref l]) Q E s := by
  have er' : EachIs (fun v b => ∃ as, Reads (sortingHeap (copyHeap s.heap vs) (s.heap.objs.size + 1) vs) v (enc b) as) vs bs := er.mono fun _ _ ⟨as, r⟩ => ⟨as, PyProof.Rows.Reads.keeps (fun _ _ => PySem.W.sorting_copy_old) r⟩
  have S := SortsAt.data (prog := prog) (w := w) (A := A.in1.in1) (s := { s with heap := sortingHeap (copyHeap s.heap vs) (s.heap.objs.size + 1) vs }) (PySem.W.each_map (R := fun v d => ∃ as, Reads (sortingHeap (copyHeap s.heap vs) (s.heap.objs.size + 1) vs) v d as) enc er') hal hk (PySem.W.bound_map hu)
  exact sorted_of_tup hl (by rw [e.length]; exact hL) (args_sorted1 _) (fun _ => args_list_sort _) fun _ => PySem.W.list_sort_vals (s := { s with heap := copyHeap s.heap vs }) (copyHeap_at s.heap vs) S (by rw [e.length]; exact hL)
    ⟨rfl, h _ (by rw [PySem.W.sortVals_length false rfl]; exact e.length) (PySem.W.sortVals_data false e er' hal)⟩
end
theorem alikeB_ok {ds : List D} (h : alikeB ds = true) : AllAlike (ds.map D.py) := by
  intro d hd d' hd'
  obtain ⟨a, ha, rfl⟩ := List.mem_map.mp hd
  obtain ⟨b, hb, rfl⟩ := List.mem_map.mp hd'
  exact List.all_eq_true.mp (List.all_eq_true.mp h a ha) b hb
theorem sortB_ok {ds : List D} (h : sortB ds = true) : Sortable (ds.map D.py) := by
  unfold sortB at h
  rcases Bool.or_eq_true_iff.mp h with h | h
  · refine .inl fun d hd => ?_
    obtain ⟨a, ha, rfl⟩ := List.mem_map.mp hd
    have q := List.all_eq_true.mp h a ha
    split at q
    · rename_i x r e; exact ⟨x, r, e⟩
    · cases q
  · refine .inr fun d hd => ?_
    obtain ⟨a, ha, rfl⟩ := List.mem_map.mp hd
    have q := List.all_eq_true.mp h a ha
    split at q
    · cases q
    · cases q
    · rename_i e1 e2; exact ⟨e1, e2⟩
section
variable {K : PySem.W.Frag} {H : Hp} {B : List Addr}
def EachD (K : PySem.W.Frag) (H : Hp) (B : List Addr) : List V → List D → Prop := EachIs fun v x => DV K H B x v
theorem DVs.each : ∀ {xs : List D} {vs : List V}, DVs K H B xs vs → EachD K H B vs xs
  | [], _, h => by unfold DVs at h; rw [h]; exact .nil
  | _ :: _, _, h => by
    unfold DVs at h
    obtain ⟨v, r, e, h1, h2⟩ := h
    rw [e]; exact .cons h1 (DVs.each h2)
theorem each_dvs : ∀ {xs : List D} {vs : List V}, EachD K H B vs xs → DVs K H B xs vs
  | [], _, h => by cases h; unfold DVs; rfl
  | _ :: _, _, h => by
    cases h with
    | cons h1 h2 => unfold DVs; exact ⟨_, _, rfl, h1, each_dvs h2⟩
theorem each_vals : ∀ {xs : List D} {vs : List V} {us : List Value}, EachD K H B vs xs → Vals vs us → EachIs (fun u x => ∃ v, RelV v u ∧ DV K H B x v) us xs
  | _, _, _, .nil, r => by cases r; exact .nil
  | _, _, _, .cons h1 h2, r => by
    cases r with
    | cons r1 r2 => exact .cons ⟨_, r1, h1⟩ (each_vals h2 r2)
theorem vals_each : ∀ {xs : List D} {us : List Value}, EachIs (fun u x => ∃ v, RelV v u ∧ DV K H B x v) us xs → ∃ vs, Vals vs us ∧ EachD K H B vs xs
  | _, _, .nil => ⟨[], .nil, .nil⟩
  | _, _, .cons ⟨v, r, d⟩ h => by
    obtain ⟨vs, h1, h2⟩ := vals_each h
    exact ⟨v :: vs, .cons r h1, .cons d h2⟩
end
def rSortD (K : PySem.W.Frag) : List V → Hp → VK → Prop := fun vs H Q => ∃ (a : Addr) (xs : List V) (ds : List D) (B : List Addr), vs = [V.ref a] ∧ (SqL K H a xs ∨ SqT K H a xs) ∧ DVs K H B ds xs ∧ (ds.all D.shp) = true ∧ alikeB ds = true ∧ sortB ds = true ∧ ds.length ≤ sizeLine ∧
  ∀ ys p, DVs K H B (sortD ds) ys → H p = none → Q (.ref p) (upd H p (.lst ys))
theorem cr_sortD {X : Cx} (hu : X.A.units + 66 < cLine) : CallR X (.builtin "sorted") (rSortD X.K) := by
  intro pins s σ H vs us Q I r h
  obtain ⟨a, xs, ds, B, rfl, hs, hd, h1, h2, h3, h4, q⟩ := h
  obtain rfl := Vals.ref1 r
  have hdep : ∀ b, b ∈ ds → X.A.units + 2 + b.py.depth < cLine := fun b hb => by
    have := SeqAt.depth_of_shaped (List.all_eq_true.mp h1 b hb)
    omega
  have er : ∀ {ds : List D} {xs : List V} {us : List Value}, DVs X.K H B ds xs → (ds.all D.shp) = true → Vals xs us → EachIs (fun v b => ∃ as, Reads s.heap v (D.py b) as) us ds := by
    intro ds
    induction ds with
    | nil =>
      intro xs us h _ rv
      unfold DVs at h
      subst h
      cases rv
      exact .nil
    | cons d ds ih =>
      intro xs us h hs rv
      unfold DVs at h
      obtain ⟨v, r, rfl, hv, hr⟩ := h
      cases rv with
      | cons r1 r2 =>
        rw [List.all_cons, Bool.and_eq_true] at hs
        exact .cons (Dp.reads I d.py v _ (DV.dp d v hv (SeqAt.canLay_of_shaped hs.1)) r1) (ih hr hs.2 r2)
  have fin : ∀ {its out : List Value}, out.length = ds.length → EachIs (fun u x => ∃ v, RelV v u ∧ DV X.K H B x v) out (ds.mergeSort (dataLe false D.py)) → EP X pins σ Q (.ref (s.heap.objs.size + 1)) { s with heap := sortedAll s.heap its (List.toArray out) } := by
    intro its out hlen ho
    obtain ⟨ys, rv, hy⟩ := vals_each ho
    obtain ⟨ep, he'⟩ := sortedAll_at s.heap its out.toArray
    refine ⟨.ref _, upd H (s.heap.objs.size + 1) (.lst ys), I.laid (t' := s.toks) (fun _ _ => sortedAll_old) (Nat.le_succ _) ⟨by rw [rv.length, hlen]; exact h4, out, ep, rv, he'⟩, rfl, q ys _ (each_dvs hy) (I.hok.fresh (Nat.le_succ _))⟩
  rcases hs with hs | hs
  · obtain ⟨its, rv, hl, _⟩ := I.list hs
    exact PySem.W.sorted_data (enc := D.py) (bs := ds) hl.isList (each_vals (DVs.each hd) rv) (er hd h1 rv) (alikeB_ok h2) (sortB_ok h3) h4 hdep fun out a b => fin a b
  · obtain ⟨its, rv, hl, _⟩ := I.tuple hs
    exact sorted_data_tup (enc := D.py) (bs := ds) hl (each_vals (DVs.each hd) rv) (er hd h1 rv) (alikeB_ok h2) (sortB_ok h3) h4 hdep fun out a b => fin a b
end LL

set_option Elab.async false
set_option linter.all false
set_option maxRecDepth 100000
set_option maxHeartbeats 4000000
set_option autoImplicit false
/-! LE: comparisons, subscripts, slices by values. -/
namespace LL
open PySem PySem.Spec PyProof.Rows L2
theorem sign_eq {x : Str} {c : Nat} (h : sign? x = some c) : x = ⟨#[c]⟩ := by
  obtain ⟨⟨l⟩⟩ := x
  unfold sign? at h
  match l, h with
  | [d], h => cases h; rfl
section
variable {K : PySem.W.Frag} {er : Er} {Wx : WX} {O : List Addr} {σ : L2.St} {H : Hp} {m : List Addr} {st : Sto}
theorem wv_not_non {w : W} {v : V} (h : WV K H O m w v) (n : w ≠ .d .non) : v ≠ .non := by
  intro z
  subst z
  cases w with
  | ref i => obtain ⟨a, _, e⟩ := h; cases e
  | d x =>
    cases x with
    | non => exact n rfl
    | bl b => cases (show V.non = .bl b from h)
    | int b => cases (show V.non = .int b from h)
    | str b => cases (show V.non = .str b from h)
    | tup xs => unfold WV DV at h; obtain ⟨a, vs, e, _⟩ := h; cases e
    | lst xs => unfold WV DV at h; obtain ⟨a, vs, e, _⟩ := h; cases e
    | frz xs => unfold WV DV at h; obtain ⟨a, vs, e, _⟩ := h; cases e
    | dct _ => exact (show False from h)
    | obj _ _ _ => unfold WV DV at h; obtain ⟨a, dx, vs, e, _⟩ := h; cases e
    | exc _ _ _ => unfold WV DV at h; obtain ⟨a, d, u, e, _⟩ := h; cases e
theorem isO_ok {a b : W} {x y : V} {k : Bool} (ha : WV K H O m a x) (hb : WV K H O m b y) (e : isO a b = some k) : (y = .non ∧ k = decide (x = .non)) ∨ ∃ p q : Bool, x = .bl p ∧ y = .bl q ∧ k = decide (p = q) := by
  unfold isO at e
  split at e
  · cases e
    exact .inl ⟨hb, by rw [show x = .non from ha]; rfl⟩
  · rename_i n
    cases e
    exact .inl ⟨hb, (decide_eq_false (wv_not_non ha fun z => n z)).symm⟩
  · cases e
    exact .inr ⟨_, _, ha, hb, rfl⟩
  · cases e
theorem inO_ok {a b : W} {x y : V} {k : Bool} (rp : Rep K H O m st) (ha : WV K H O m a x) (hb : WV K H O m b y) (e : inO st a b = some k) :
    (∃ (c : Nat) (z : Str), x = .str ⟨#[c]⟩ ∧ y = .str z ∧ k = decide (c ∈ z.cps.toList)) ∨
    (∃ d ds, Dp K H x d ∧ Dp K H y (.tuple ds) ∧ SeqAt.shaped d = true ∧ SeqAt.shaped (.tuple ds) = true ∧ k = ds.any fun z => PyData.eqv z d) ∨
    (∃ d ds, Dp K H x d ∧ Dp K H y (.list ds) ∧ SeqAt.shaped d = true ∧ SeqAt.shaped (.list ds) = true ∧ k = ds.any fun z => PyData.eqv z d) := by
  unfold inO at e
  split at e
  · rename_i i z
    cases es : sign? i with
    | none => rw [es] at e; cases e
    | some c =>
      rw [es] at e; cases e
      rw [show x = .str i from ha, show y = .str z from hb, sign_eq es]
      exact .inl ⟨c, z, rfl, rfl, rfl⟩
  · rename_i ys
    cases ef : frz 8 st a with
    | none => rw [ef] at e; cases e
    | some d =>
      simp only [ef] at e
      by_cases c : d.shp = true ∧ (D.tup ys).shp = true
      · rw [if_pos c] at e; cases e
        have q := DV.dp (.tup ys) y hb (SeqAt.canLay_of_shaped c.2)
        have c2 := c.2
        unfold D.shp at c2
        rw [D.py] at q c2
        exact .inr (.inl ⟨d.py, D.pys ys, frz_dp8 rp ha ef c.1, q, c.1, c2, rfl⟩)
      · rw [if_neg c] at e; cases e
  · split at e
    · rename_i d ys e1 e2
      by_cases c : d.shp = true ∧ (D.lst ys).shp = true
      · rw [if_pos c] at e; cases e
        have q := frz_dp8 rp hb e2 c.2
        have c2 := c.2
        unfold D.shp at c2
        rw [D.py] at q c2
        exact .inr (.inr ⟨d.py, D.pys ys, frz_dp8 rp ha e1 c.1, q, c.1, c2, rfl⟩)
      · rw [if_neg c] at e; cases e
    · cases e
theorem eqO_ok {a b : W} {x y : V} {k : Bool} (rp : Rep K H O m st) (ha : WV K H O m a x) (hb : WV K H O m b y) (e : eqO st a b = some k) :
    ∃ d f, Dp K H x d ∧ Dp K H y f ∧ SeqAt.shaped d = true ∧ SeqAt.shaped f = true ∧ k = PyData.eqv d f := by
  unfold eqO at e
  split at e
  · rename_i d f e1 e2
    by_cases c : d.shp = true ∧ f.shp = true
    · rw [if_pos c] at e; cases e
      exact ⟨d.py, f.py, frz_dp8 rp ha e1 c.1, frz_dp8 rp hb e2 c.2, c.1, c.2, rfl⟩
    · rw [if_neg c] at e; cases e
  · cases e
end
section
variable {er : Er} {Wx : WX} {O : List Addr}
theorem ord_ok {K : PySem.W.Frag} {op : CmpOp} {f : CmpOp → W → W → Sto → R W} (g : Int → Int → Bool) (gs : Str → Str → Bool)
    (h1 : ∀ i j, cmpI op i j = some (g i j)) (h2 : ∀ i j, cmpS op i j = some (gs i j))
    (hop : ∀ a b st, cmpW op a b st = ofO ((match a, b with | .d (.int i), .d (.int j) => cmpI op i j | .d (.str x), .d (.str y) => cmpS op x y | _, _ => none).map fun k => .d (.bl k)) st) :
    OpOk K er Wx (fun x y H Q => rI0 (fun i j => .bl (g i j)) x y H Q ∨ ∃ i j, x = .str i ∧ y = .str j ∧ Q (.bl (gs i j)) H) (cmpW op) := by
  intro O σ H m st a b x y Q rp ha hb h
  rw [hop] at h
  obtain ⟨w, ew, h⟩ := PostG.ofO h
  split at ew
  · rename_i i j
    rw [h1] at ew; cases ew
    exact .inl ⟨i, j, ha, hb, done_bl rp h⟩
  · rename_i i j
    rw [h2] at ew; cases ew
    exact .inr ⟨i, j, ha, hb, done_bl rp h⟩
  · cases ew
/-- each comparison -/
theorem cmp_ok (X : Cx) (hu : X.A.units + 65 < cLine) (op : CmpOp) : ∃ rr, OpR X (compareOp op) rr ∧ OpOk X.K er Wx rr (cmpW op) := by
  have ho : ∀ {K : PySem.W.Frag} {O : List Addr} {st : Sto} {o : Option Bool} {f : Bool → Bool} {σ H m Q}, PostG K er Wx O (relW K O) (ofO ((o.map f).map fun k => W.d (.bl k)) st) σ H m Q → ∃ k, o = some k ∧ PostG K er Wx O (relW K O) (.ok (.d (.bl (f k))) st) σ H m Q := by
    intro K O st o f σ H m Q h
    cases o with
    | none => exact h.elim
    | some k => exact ⟨k, rfl, h⟩
  have ho1 : ∀ {K : PySem.W.Frag} {O : List Addr} {st : Sto} {o : Option Bool} {σ H m Q}, PostG K er Wx O (relW K O) (ofO (o.map fun k => W.d (.bl k)) st) σ H m Q → ∃ k, o = some k ∧ PostG K er Wx O (relW K O) (.ok (.d (.bl k)) st) σ H m Q := by
    intro K O st o σ H m Q h
    cases o with
    | none => exact h.elim
    | some k => exact ⟨k, rfl, h⟩
  cases op with
  | Eq =>
    refine ⟨_, op_eqD (by omega), fun O σ H m st a b x y Q rp ha hb h => ?_⟩
    obtain ⟨k, e, h⟩ := ho1 h
    obtain ⟨d, f, q1, q2, s1, s2, rfl⟩ := eqO_ok rp ha hb e
    exact ⟨d, f, q1, q2, s1, s2, done_bl rp h⟩
  | NotEq =>
    refine ⟨_, op_neD (by omega), fun O σ H m st a b x y Q rp ha hb h => ?_⟩
    obtain ⟨k, e, h⟩ := ho h
    obtain ⟨d, f, q1, q2, s1, s2, rfl⟩ := eqO_ok rp ha hb e
    exact ⟨d, f, q1, q2, s1, s2, done_bl rp h⟩
  | In =>
    refine ⟨_, OpR.or op_in_sign (OpR.or (op_inTD hu) (op_inD hu)), fun O σ H m st a b x y Q rp ha hb h => ?_⟩
    obtain ⟨k, e, h⟩ := ho1 h
    rcases inO_ok rp ha hb e with ⟨c, z, e1, e2, rfl⟩ | ⟨d, ds, q1, q2, s1, s2, rfl⟩ | ⟨d, ds, q1, q2, s1, s2, rfl⟩
    · exact .inl ⟨c, z, e1, e2, done_bl rp h⟩
    · exact .inr (.inl ⟨d, ds, q1, q2, s1, s2, done_bl rp h⟩)
    · exact .inr (.inr ⟨d, ds, q1, q2, s1, s2, done_bl rp h⟩)
  | NotIn =>
    refine ⟨_, OpR.or op_notIn_sign (OpR.or (op_notInTD hu) (op_notInD hu)), fun O σ H m st a b x y Q rp ha hb h => ?_⟩
    obtain ⟨k, e, h⟩ := ho h
    rcases inO_ok rp ha hb e with ⟨c, z, e1, e2, rfl⟩ | ⟨d, ds, q1, q2, s1, s2, rfl⟩ | ⟨d, ds, q1, q2, s1, s2, rfl⟩
    · exact .inl ⟨c, z, e1, e2, done_bl rp h⟩
    · exact .inr (.inl ⟨d, ds, q1, q2, s1, s2, done_bl rp h⟩)
    · exact .inr (.inr ⟨d, ds, q1, q2, s1, s2, done_bl rp h⟩)
  | Is =>
    refine ⟨_, OpR.or op_isN op_isBl, fun O σ H m st a b x y Q rp ha hb h => ?_⟩
    obtain ⟨k, e, h⟩ := ho1 h
    rcases isO_ok ha hb e with ⟨e1, rfl⟩ | ⟨p, q, e1, e2, rfl⟩
    · exact .inl ⟨e1, done_bl rp h⟩
    · exact .inr ⟨p, q, e1, e2, done_bl rp h⟩
  | IsNot =>
    refine ⟨_, OpR.or op_notN op_notBl, fun O σ H m st a b x y Q rp ha hb h => ?_⟩
    obtain ⟨k, e, h⟩ := ho h
    rcases isO_ok ha hb e with ⟨e1, rfl⟩ | ⟨p, q, e1, e2, rfl⟩
    · exact .inl ⟨e1, done_bl rp h⟩
    · exact .inr ⟨p, q, e1, e2, done_bl rp h⟩
  | Lt => exact ⟨_, OpR.or op_lt op_lt_str, ord_ok (f := cmpW) (fun i j => decide (i < j)) (fun x y => decide (x.cps.toList < y.cps.toList)) (fun _ _ => rfl) (fun _ _ => rfl) fun _ _ _ => rfl⟩
  | LtE => exact ⟨_, OpR.or op_le op_le_str, ord_ok (f := cmpW) (fun i j => decide (i ≤ j)) (fun x y => !decide (y.cps.toList < x.cps.toList)) (fun _ _ => rfl) (fun _ _ => rfl) fun _ _ _ => rfl⟩
  | Gt => exact ⟨_, OpR.or op_gt op_gt_str, ord_ok (f := cmpW) (fun i j => decide (j < i)) (fun x y => decide (y.cps.toList < x.cps.toList)) (fun _ _ => rfl) (fun _ _ => rfl) fun _ _ _ => rfl⟩
  | GtE => exact ⟨_, OpR.or op_ge op_ge_str, ord_ok (f := cmpW) (fun i j => decide (j ≤ i)) (fun x y => !decide (x.cps.toList < y.cps.toList)) (fun _ _ => rfl) (fun _ _ => rfl) fun _ _ _ => rfl⟩
/-- whatever a comparison gives is a bool -/
theorem cmp_bool {op : CmpOp} {a b : W} {st st' : Sto} {w : W} (h : cmpW op a b st = .ok w st') : st' = st ∧ ∃ k, w = .d (.bl k) := by
  unfold cmpW at h
  cases e : cmpO op a b st with
  | none => rw [e] at h; cases h
  | some k => rw [e] at h; cases h; exact ⟨rfl, k, rfl⟩
theorem cmp_noexc {op : CmpOp} {a b : W} {st st' : Sto} {c : Nat} {p : D} : cmpW op a b st ≠ .exc c p st' := by
  intro h
  unfold cmpW at h
  cases e : cmpO op a b st with
  | none => rw [e] at h; cases h
  | some k => rw [e] at h; cases h
/-! ### subscripts -/
theorem atI_map {α β : Type} {xs : List α} {ys : List β} (hl : xs.length = ys.length) {k : Int} {x : α} (h : atI xs k = some x) : ∃ j : Nat, ixN xs.length k = some j ∧ xs[j]? = some x ∧ atI ys k = ys[j]? := by
  unfold atI at h ⊢
  cases e : ixN xs.length k with
  | none => rw [e] at h; cases h
  | some j => rw [e] at h; exact ⟨j, rfl, h, by rw [← hl, e]; rfl⟩
theorem ix_ok (X : Cx) : ∃ rr, IxR X rr ∧ OpOk X.K er Wx rr ixW := by
  refine ⟨_, ix_seq, fun O σ H m st a b x y Q rp ha hb h => ?_⟩
  unfold ixW at h
  split at h
  · rename_i k
    have ey : y = .int k := hb
    split at h
    · rename_i xs
      unfold WV DV at ha
      obtain ⟨p, vs, e1, q1, s1⟩ := ha
      obtain ⟨w, ew, h⟩ := PostG.ofO h
      cases e2 : atI xs k with
      | none => rw [e2] at ew; cases ew
      | some d =>
        rw [e2] at ew; cases ew
        obtain ⟨j, _, e4, e5⟩ := atI_map s1.length e2
        obtain ⟨v, e6, d6⟩ := s1.get e4
        exact .inr (.inl ⟨p, vs, k, v, e1, ey, q1, by rw [e5, e6], PostG.here h rp d6⟩)
    · rename_i xs
      unfold WV DV at ha
      obtain ⟨p, vs, e1, _, q1, s1⟩ := ha
      obtain ⟨w, ew, h⟩ := PostG.ofO h
      cases e2 : atI xs k with
      | none => rw [e2] at ew; cases ew
      | some d =>
        rw [e2] at ew; cases ew
        obtain ⟨j, _, e4, e5⟩ := atI_map s1.length e2
        obtain ⟨v, e6, d6⟩ := s1.get e4
        exact .inl ⟨p, vs, k, v, e1, ey, SqL.of q1, by rw [e5, e6], PostG.here h rp d6⟩
    · rename_i xs
      unfold WV DV at ha
      obtain ⟨p, vs, e1, q1, s1⟩ := ha
      obtain ⟨w, ew, h⟩ := PostG.ofO h
      cases e2 : atI xs k with
      | none => rw [e2] at ew; cases ew
      | some d =>
        rw [e2] at ew; cases ew
        obtain ⟨j, _, e4, e5⟩ := atI_map s1.length e2
        obtain ⟨v, e6, d6⟩ := s1.get e4
        exact .inl ⟨p, vs, k, v, e1, ey, q1.sq, by rw [e5, e6], PostG.here h rp d6⟩
    · rename_i s
      by_cases c : s.length ≤ sizeLine
      · rw [if_pos c] at h
        obtain ⟨w, ew, h⟩ := PostG.ofO h
        cases e2 : atI s.cps.toList k with
        | none => rw [e2] at ew; cases ew
        | some d =>
          rw [e2] at ew; cases ew
          exact .inr (.inr ⟨s, k, d, ha, ey, c, e2, done_str rp h⟩)
      · rw [if_neg c] at h; exact h.elim
    · rename_i r
      split at h
      · rename_i ws es
        obtain ⟨p, vs, e1, _, q1, s1⟩ := rp.at_ ha es
        obtain ⟨w, ew, h⟩ := PostG.ofO h
        obtain ⟨j, _, e4, e5⟩ := atI_map s1.length ew
        obtain ⟨v, e6, d6⟩ := s1.get e4
        exact .inl ⟨p, vs, k, v, e1, ey, SqL.of q1, by rw [e5, e6], PostG.here h rp d6⟩
      · exact h.elim
    · exact h.elim
  · exact h.elim
theorem cutL_V (vs : List V) (lo hi : Option Int) : cutL vs lo hi = cutV vs lo hi := rfl
theorem WVs.cut {K : PySem.W.Frag} {H : Hp} {m : List Addr} {ws : List W} {vs : List V} (h : WVs K H O m ws vs) (lo hi : Option Int) : WVs K H O m (cutL ws lo hi) (cutV vs lo hi) := by
  rw [← cutL_V]
  unfold cutL
  rw [h.length]
  exact (h.drop _).take _
theorem DVs.cut {K : PySem.W.Frag} {H : Hp} {B : List Addr} {ws : List D} {vs : List V} (h : DVs K H B ws vs) (lo hi : Option Int) : DVs K H B (cutL ws lo hi) (cutV vs lo hi) := by
  rw [← cutL_V]
  unfold cutL
  rw [h.length]
  exact (h.drop _).take _
theorem cut_whole {α : Type} {xs : List α} {lo hi : Option Int} (h : HT.sIx xs.length 0 lo = 0 ∧ HT.sIx xs.length xs.length hi = xs.length) : cutL xs lo hi = xs := by
  unfold cutL
  rw [h.1, h.2]
  simp
def SlOk (K : PySem.W.Frag) (er : Er) (Wx : WX) (rr : V → Option Int → Option Int → Hp → VK → Prop) (f : W → Option Int → Option Int → Sto → R W) : Prop :=
  ∀ (O : List Addr) (σ : L2.St) (H : Hp) (m : List Addr) (st : Sto) (a : W) (lo hi : Option Int) (x : V) (Q : VK), Rep K H O m st → WV K H O m a x → PostG K er Wx O (relW K O) (f a lo hi st) σ H m Q → rr x lo hi H Q
theorem sl_ok (X : Cx) (mm : Bool) : ∃ rr, SlR X rr ∧ SlOk X.K er Wx rr (slW mm) := by
  refine ⟨_, SlR.or sl_tupA (SlR.or sl_str sl_list), fun O σ H m st a lo hi x Q rp ha h => ?_⟩
  unfold slW at h
  split at h
  · rename_i xs
    unfold WV DV at ha
    obtain ⟨p, vs, e1, q1, s1⟩ := ha
    refine .inl ⟨p, vs, e1, q1, fun z => ?_, fun _ => newT_ok rp (s1.cut lo hi) h⟩
    refine PostG.here h rp ?_
    rw [← s1.length] at z
    show DV X.K H (O ++ m) (.tup (cutL xs lo hi)) (.ref p)
    rw [cut_whole z]
    unfold DV
    exact ⟨p, vs, rfl, q1, s1⟩
  · rename_i s
    by_cases c : s.length ≤ sizeLine
    · rw [if_pos c] at h
      exact .inr (.inl ⟨s, ha, c, done_str rp h⟩)
    · rw [if_neg c] at h; exact h.elim
  · cases e1 : itemsL st a with
    | none => rw [e1] at h; exact h.elim
    | some ws =>
      rw [e1] at h
      obtain ⟨p, vs, ex, q1, s1⟩ := items_ok rp ha e1
      obtain ⟨hz, k⟩ := newL_ok rp (s1.cut lo hi) h
      exact .inr (.inr ⟨p, vs, ex, SqL.of q1, k⟩)
end
end LL

set_option Elab.async false
set_option linter.all false
set_option maxRecDepth 100000
set_option maxHeartbeats 4000000
set_option autoImplicit false
/-! LF: built-in functions, methods by values. -/
namespace LL
open PySem PySem.Spec PyProof.Rows L2
/-- name, what it is behind the boot -/
def biN : Bi → Str
  | .len => "len" | .abs => "abs" | .int => "int" | .str => "str" | .ord => "ord" | .tup => "tuple" | .lst => "list" | .gcd => "gcd" | .all => "all" | .any => "any" | .sum => "sum" | .max2 => "max" | .min2 => "min" | .sorted => "sorted"
def biU : Bi → Value
  | .len => .builtin "len" | .abs => .builtin "abs" | .int => .type "int" | .str => .type "str" | .ord => .builtin "ord" | .tup => .type "tuple" | .lst => .type "list" | .gcd => .builtin "math.gcd" | .all => .builtin "all" | .any => .builtin "any" | .sum => .builtin "sum" | .max2 => .builtin "max" | .min2 => .builtin "min" | .sorted => .builtin "sorted"
def CbOk (K : PySem.W.Frag) (er : Er) (Wx : WX) (r : List V → Hp → VK → Prop) (f : List W → Sto → R W) : Prop :=
  ∀ (O : List Addr) (σ : L2.St) (H : Hp) (m : List Addr) (st : Sto) (ws : List W) (vs : List V) (Q : VK), Rep K H O m st → WVs K H O m ws vs → PostG K er Wx O (relW K O) (f ws st) σ H m Q → r vs H Q
section
variable {er : Er} {Wx : WX} {O : List Addr}
theorem WVs.one {K : PySem.W.Frag} {H : Hp} {m : List Addr} {w : W} {vs : List V} (h : WVs K H O m [w] vs) : ∃ v, vs = [v] ∧ WV K H O m w v := by
  obtain ⟨v, r, e, h1, h2⟩ := h
  rw [show r = [] from h2] at e
  exact ⟨v, e, h1⟩
theorem WVs.two {K : PySem.W.Frag} {H : Hp} {m : List Addr} {w w' : W} {vs : List V} (h : WVs K H O m [w, w'] vs) : ∃ v v', vs = [v, v'] ∧ WV K H O m w v ∧ WV K H O m w' v' := by
  obtain ⟨v, r, e, h1, h2⟩ := h
  obtain ⟨v', e2, h3⟩ := WVs.one h2
  exact ⟨v, v', by rw [e, e2], h1, h3⟩
theorem len_ok {K : PySem.W.Frag} {H : Hp} {m : List Addr} {st : Sto} {w : W} {v : V} {n : Nat} (rp : Rep K H O m st) (h : WV K H O m w v) (e : lenO st w = some n) : LenV K v H n := by
  unfold lenO at e
  split at e
  · rename_i xs
    cases e
    unfold WV DV at h
    obtain ⟨a, vs, ev, q, hs⟩ := h
    rw [ev]
    exact .inr ⟨vs, q, hs.length⟩
  · rename_i xs
    cases e
    unfold WV DV at h
    obtain ⟨a, vs, ev, _, q, hs⟩ := h
    rw [ev]
    exact .inl ⟨vs, SqL.of q, hs.length⟩
  · rename_i xs
    cases e
    unfold WV DV at h
    obtain ⟨a, vs, ev, q, hs⟩ := h
    rw [ev]
    exact .inl ⟨vs, q.sq, hs.length⟩
  · rename_i s
    by_cases c : s.length ≤ sizeLine
    · rw [if_pos c] at e; cases e
      rw [show v = .str s from h]
      exact ⟨c, rfl⟩
    · rw [if_neg c] at e; cases e
  · split at e
    · rename_i es
      cases e
      obtain ⟨a, vs, ev, _, q, hs⟩ := rp.at_ h es
      rw [ev]
      exact .inl ⟨vs, SqL.of q, hs.length⟩
    · cases e
  · cases e
theorem bls_ok {K : PySem.W.Frag} {H : Hp} {B : List Addr} : ∀ {xs : List D} {vs : List V} {l : List Bool}, blsO xs = some l → DVs K H B xs vs → vs = l.map V.bl
  | [], _, _, e, h => by cases e; unfold DVs at h; exact h
  | .bl b :: xs, _, l, e, h => by
    unfold blsO at e
    cases e2 : blsO xs with
    | none => rw [e2] at e; cases e
    | some r =>
      rw [e2] at e; cases e
      unfold DVs at h
      obtain ⟨v, u, ev, h1, h2⟩ := h
      rw [ev, show v = .bl b from h1, bls_ok e2 h2]
      rfl
  | .non :: _, _, _, e, _ => by cases e
  | .int _ :: _, _, _, e, _ => by cases e
  | .str _ :: _, _, _, e, _ => by cases e
  | .tup _ :: _, _, _, e, _ => by cases e
  | .lst _ :: _, _, _, e, _ => by cases e
  | .frz _ :: _, _, _, e, _ => by cases e
  | .dct _ :: _, _, _, e, _ => by cases e
  | .obj _ _ _ :: _, _, _, e, _ => by cases e
  | .exc _ _ _ :: _, _, _, e, _ => by cases e
theorem ints_ok {K : PySem.W.Frag} {H : Hp} {B : List Addr} : ∀ {xs : List D} {vs : List V} {l : List Int}, intsO xs = some l → DVs K H B xs vs → vs = l.map V.int
  | [], _, _, e, h => by cases e; unfold DVs at h; exact h
  | .int b :: xs, _, l, e, h => by
    unfold intsO at e
    cases e2 : intsO xs with
    | none => rw [e2] at e; cases e
    | some r =>
      rw [e2] at e; cases e
      unfold DVs at h
      obtain ⟨v, u, ev, h1, h2⟩ := h
      rw [ev, show v = .int b from h1, ints_ok e2 h2]
      rfl
  | .non :: _, _, _, e, _ => by cases e
  | .bl _ :: _, _, _, e, _ => by cases e
  | .str _ :: _, _, _, e, _ => by cases e
  | .tup _ :: _, _, _, e, _ => by cases e
  | .lst _ :: _, _, _, e, _ => by cases e
  | .frz _ :: _, _, _, e, _ => by cases e
  | .dct _ :: _, _, _, e, _ => by cases e
  | .obj _ _ _ :: _, _, _, e, _ => by cases e
  | .exc _ _ _ :: _, _, _, e, _ => by cases e
theorem arg1_ok {K : PySem.W.Frag} {σ : L2.St} {H : Hp} {m : List Addr} {st : Sto} {ws : List W} {vs : List V} {Q : VK} {f : W → R W} (hv : WVs K H O m ws vs) (h : PostG K er Wx O (relW K O) (arg1 ws f) σ H m Q) :
    ∃ a v, vs = [v] ∧ WV K H O m a v ∧ PostG K er Wx O (relW K O) (f a) σ H m Q := by
  unfold arg1 at h
  split at h
  · obtain ⟨v, e, h1⟩ := hv.one
    exact ⟨_, v, e, h1, h⟩
  · exact h.elim
theorem arg2_ok {K : PySem.W.Frag} {σ : L2.St} {H : Hp} {m : List Addr} {st : Sto} {ws : List W} {vs : List V} {Q : VK} {f : W → W → R W} (hv : WVs K H O m ws vs) (h : PostG K er Wx O (relW K O) (arg2 ws f) σ H m Q) :
    ∃ a b v u, vs = [v, u] ∧ WV K H O m a v ∧ WV K H O m b u ∧ PostG K er Wx O (relW K O) (f a b) σ H m Q := by
  unfold arg2 at h
  split at h
  · obtain ⟨v, u, e, h1, h2⟩ := hv.two
    exact ⟨_, _, v, u, e, h1, h2, h⟩
  · exact h.elim
theorem int2_ok {K : PySem.W.Frag} {σ : L2.St} {H : Hp} {m : List Addr} {st : Sto} {Q : VK} {f : Int → Int → Int} {a b : W} {v u : V} (rp : Rep K H O m st) (h1 : WV K H O m a v) (h2 : WV K H O m b u) (h : PostG K er Wx O (relW K O) (int2 st f a b) σ H m Q) :
    ∃ i j, v = .int i ∧ u = .int j ∧ Q (.int (f i j)) H := by
  unfold int2 at h
  split at h
  · exact ⟨_, _, h1, h2, done_int rp h⟩
  · exact h.elim
/-- each built-in function -/
theorem seqL_ok {K : PySem.W.Frag} {H : Hp} {m : List Addr} {st : Sto} {w : W} {v : V} {ws : List W} (rp : Rep K H O m st) (h : WV K H O m w v) (e : seqL st w = some ws) : ∃ a vs, v = .ref a ∧ (SqL K H a vs ∨ SqT K H a vs) ∧ WVs K H O m ws vs := by
  unfold seqL at e
  split at e
  · cases e
    unfold WV DV at h
    obtain ⟨p, vs, ev, q, hs⟩ := h
    exact ⟨p, vs, ev, .inr q, hs.toW⟩
  · obtain ⟨p, vs, ev, q, hs⟩ := items_ok rp h e
    exact ⟨p, vs, ev, .inl (SqL.of q), hs⟩
theorem bi_ok (X : Cx) (hc : X.calm = true) (hu : X.A.units + 66 < cLine) (b : Bi) (mm : Bool) : ∃ r, CallR X (biU b) r ∧ CbOk X.K er Wx r (biW b mm) := by
  cases b with
  | len =>
    refine ⟨_, call_len, fun O σ H m st ws vs Q rp hv h => ?_⟩
    obtain ⟨a, v, rfl, h1, h⟩ := arg1_ok (st := st) hv h
    obtain ⟨w, ew, h⟩ := PostG.ofO h
    cases e : lenO st a with
    | none => rw [e] at ew; cases ew
    | some n => rw [e] at ew; cases ew; exact ⟨v, n, rfl, len_ok rp h1 e, done_int rp h⟩
  | abs =>
    refine ⟨_, call_abs, fun O σ H m st ws vs Q rp hv h => ?_⟩
    obtain ⟨a, v, rfl, h1, h⟩ := arg1_ok (st := st) hv h
    unfold bAbs at h
    split at h
    · exact ⟨_, by rw [show v = _ from h1], done_int rp h⟩
    · exact h.elim
  | int =>
    refine ⟨_, CallR.or call_int1 call_int_str, fun O σ H m st ws vs Q rp hv h => ?_⟩
    obtain ⟨a, v, rfl, h1, h⟩ := arg1_ok (st := st) hv h
    unfold bInt at h
    split at h
    · exact .inl (.inl ⟨_, by rw [show v = _ from h1], done_int rp h⟩)
    · exact .inl (.inr ⟨_, by rw [show v = _ from h1], done_int rp h⟩)
    · split at h
      · rename_i x _ n e
        by_cases c : x.length ≤ 640
        · rw [if_pos c] at h
          exact .inr ⟨x, n, by rw [show v = .str x from h1], e, c, done_int rp h⟩
        · rw [if_neg c] at h; exact h.elim
      · exact h.elim
    · exact h.elim
  | str =>
    refine ⟨_, CallR.or call_str_int SkE.call_str_str, fun O σ H m st ws vs Q rp hv h => ?_⟩
    obtain ⟨a, v, rfl, h1, h⟩ := arg1_ok (st := st) hv h
    unfold bStr at h
    split at h
    · rename_i i
      by_cases c : i.natAbs.log2 < 1920
      · rw [if_pos c] at h
        exact .inl ⟨i, by rw [show v = .int i from h1], c, done_str rp h⟩
      · rw [if_neg c] at h; exact h.elim
    · exact .inr ⟨_, by rw [show v = _ from h1], done_str rp h⟩
    · exact h.elim
  | ord =>
    refine ⟨_, call_ord, fun O σ H m st ws vs Q rp hv h => ?_⟩
    obtain ⟨a, v, rfl, h1, h⟩ := arg1_ok (st := st) hv h
    unfold bOrd at h
    split at h
    · rename_i x
      obtain ⟨w, ew, h⟩ := PostG.ofO h
      cases e : sign? x with
      | none => rw [e] at ew; cases ew
      | some c =>
        rw [e] at ew; cases ew
        have ex := sign_eq e
        subst ex
        exact ⟨_, by rw [show v = _ from h1], rfl, done_int rp h⟩
    · exact h.elim
  | tup =>
    refine ⟨_, call_tuple_of, fun O σ H m st ws vs Q rp hv h => ?_⟩
    obtain ⟨a, v, rfl, h1, h⟩ := arg1_ok (st := st) hv h
    unfold bTup at h
    split at h
    · rename_i xs
      have h1' : WV X.K H O m (.d (.tup xs)) v := h1
      unfold WV DV at h1
      obtain ⟨p, us, ev, q, hs⟩ := h1
      exact ⟨p, us, by rw [ev], .inr ⟨q, by rw [← ev]; exact PostG.here h rp h1'⟩⟩
    · split at h
      · rename_i us e
        split at h
        · rename_i ds e2
          obtain ⟨p, us, ev, q, hs⟩ := items_ok rp h1 e
          exact ⟨p, us, by rw [ev], .inl ⟨SqL.of q, newT_ok rp (WVs.toD e2 hs) h⟩⟩
        · exact h.elim
      · exact h.elim
  | lst =>
    refine ⟨_, call_list_of, fun O σ H m st ws vs Q rp hv h => ?_⟩
    obtain ⟨a, v, rfl, h1, h⟩ := arg1_ok (st := st) hv h
    unfold bLst at h
    split at h
    · rename_i xs
      unfold WV DV at h1
      obtain ⟨p, us, ev, q, hs⟩ := h1
      exact ⟨p, us, by rw [ev], .inr q, (newL_ok rp hs.toW h).2⟩
    · split at h
      · rename_i us e
        obtain ⟨p, us, ev, q, hs⟩ := items_ok rp h1 e
        exact ⟨p, us, by rw [ev], .inl (SqL.of q), (newL_ok rp hs h).2⟩
      · exact h.elim
  | gcd =>
    refine ⟨_, cr_gcd, fun O σ H m st ws vs Q rp hv h => ?_⟩
    obtain ⟨a, b, v, u, rfl, h1, h2, h⟩ := arg2_ok (st := st) hv h
    obtain ⟨i, j, rfl, rfl, q⟩ := int2_ok rp h1 h2 h
    exact ⟨i, j, rfl, q⟩
  | all =>
    refine ⟨_, cr_all hc, fun O σ H m st ws vs Q rp hv h => ?_⟩
    obtain ⟨a, v, rfl, h1, h⟩ := arg1_ok (st := st) hv h
    unfold bAll at h
    split at h
    · rename_i xs
      unfold WV DV at h1
      obtain ⟨p, us, ev, _, q, hs⟩ := h1
      obtain ⟨w, ew, h⟩ := PostG.ofO h
      cases e : blsO xs with
      | none => rw [e] at ew; cases ew
      | some l =>
        rw [e] at ew; cases ew
        exact ⟨p, l, by rw [ev], by rw [← bls_ok e hs]; exact SqL.of q, done_bl rp h⟩
    · exact h.elim
  | any =>
    refine ⟨_, cr_any hc, fun O σ H m st ws vs Q rp hv h => ?_⟩
    obtain ⟨a, v, rfl, h1, h⟩ := arg1_ok (st := st) hv h
    unfold bAny at h
    split at h
    · rename_i xs
      unfold WV DV at h1
      obtain ⟨p, us, ev, _, q, hs⟩ := h1
      obtain ⟨w, ew, h⟩ := PostG.ofO h
      cases e : blsO xs with
      | none => rw [e] at ew; cases ew
      | some l =>
        rw [e] at ew; cases ew
        exact ⟨p, l, by rw [ev], by rw [← bls_ok e hs]; exact SqL.of q, done_bl rp h⟩
    · exact h.elim
  | sum =>
    refine ⟨_, cr_sum hc, fun O σ H m st ws vs Q rp hv h => ?_⟩
    obtain ⟨a, v, rfl, h1, h⟩ := arg1_ok (st := st) hv h
    unfold bSum at h
    split at h
    · rename_i xs
      unfold WV DV at h1
      obtain ⟨p, us, ev, _, q, hs⟩ := h1
      obtain ⟨w, ew, h⟩ := PostG.ofO h
      cases e : intsO xs with
      | none => rw [e] at ew; cases ew
      | some l =>
        rw [e] at ew; cases ew
        exact ⟨p, l, by rw [ev], by rw [← ints_ok e hs]; exact SqL.of q, done_int rp h⟩
    · exact h.elim
  | max2 =>
    refine ⟨_, call_max2 hc, fun O σ H m st ws vs Q rp hv h => ?_⟩
    obtain ⟨a, b, v, u, rfl, h1, h2, h⟩ := arg2_ok (st := st) hv h
    obtain ⟨i, j, rfl, rfl, q⟩ := int2_ok rp h1 h2 h
    exact ⟨i, j, rfl, q⟩
  | min2 =>
    refine ⟨_, call_min2 hc, fun O σ H m st ws vs Q rp hv h => ?_⟩
    obtain ⟨a, b, v, u, rfl, h1, h2, h⟩ := arg2_ok (st := st) hv h
    obtain ⟨i, j, rfl, rfl, q⟩ := int2_ok rp h1 h2 h
    exact ⟨i, j, rfl, q⟩
  | sorted =>
    refine ⟨_, cr_sortD hu, fun O σ H m st ws vs Q rp hv h => ?_⟩
    obtain ⟨a, v, rfl, h1, h⟩ := arg1_ok (st := st) hv h
    unfold bSorted at h
    cases e1 : seqL st a with
    | none => rw [e1] at h; exact h.elim
    | some us =>
      rw [e1] at h
      dsimp only at h
      cases e2 : allD us with
      | none => rw [e2] at h; exact h.elim
      | some ds =>
        rw [e2] at h
        dsimp only at h
        by_cases c : ds.all D.shp = true ∧ alikeB ds = true ∧ sortB ds = true ∧ ds.length ≤ sizeLine
        · rw [if_pos c] at h
          obtain ⟨p, xs, ev, q, hs⟩ := seqL_ok rp h1 e1
          refine ⟨p, xs, ds, O ++ m, by rw [ev], q, WVs.toD e2 hs, c.1, c.2.1, c.2.2.1, c.2.2.2, fun ys r hy hr => ?_⟩
          exact (newL_ok rp (DVs.toW hy) h).2 r hr
        · rw [if_neg c] at h; exact h.elim
/-! ### methods -/
def meN : Me → Str
  | .append => "append" | .insert => "insert" | .pop => "pop" | .extend => "extend" | .index => "index" | .split => "split" | .join => "join"
def MeOk (K : PySem.W.Frag) (er : Er) (Wx : WX) (T : String) (r : V → List V → Hp → VK → Prop) (f : W → List W → Sto → R W) : Prop :=
  ∀ (O : List Addr) (σ : L2.St) (H : Hp) (m : List Addr) (st : Sto) (o : W) (ws : List W) (x : V) (vs : List V) (Q : VK), Rep K H O m st → WV K H O m o x → WVs K H O m ws vs → PostG K er Wx O (relW K O) (f o ws st) σ H m Q → r x vs H Q
theorem lstAt_ok {K : PySem.W.Frag} {σ : L2.St} {H : Hp} {m : List Addr} {st : Sto} {o : W} {x : V} {Q : VK} {f : Nat → List W → R W} (rp : Rep K H O m st) (ho : WV K H O m o x) (h : PostG K er Wx O (relW K O) (lstAt st o f) σ H m Q) :
    ∃ i xs a vs, x = .ref a ∧ m[i]? = some a ∧ H a = some (.lst vs) ∧ WVs K H O m xs vs ∧ PostG K er Wx O (relW K O) (f i xs) σ H m Q := by
  unfold lstAt at h
  split at h
  · rename_i i
    split at h
    · rename_i xs e
      obtain ⟨a, vs, ev, hm, q, hs⟩ := rp.at_ ho e
      exact ⟨i, xs, a, vs, ev, hm, q, hs, h⟩
    · exact h.elim
  · exact h.elim
theorem one_wvs {K : PySem.W.Frag} {H : Hp} {m : List Addr} {w : W} {v : V} (h : WV K H O m w v) : WVs K H O m [w] [v] := ⟨v, [], rfl, h, rfl⟩
theorem wr_ok {K : PySem.W.Frag} {σ : L2.St} {H : Hp} {m : List Addr} {st : Sto} {i : Nat} {a : Addr} {ws : List W} {vs : List V} {w : W} {v : V} {Q : VK} (rp : Rep K H O m st) (hi : m[i]? = some a) (hw : WVs K H O m ws vs)
    (hv : WV K H O m w v) (h : PostG K er Wx O (relW K O) (.ok w (setL st i ws)) σ H m Q) : Q v (upd H a (.lst vs)) := by
  obtain ⟨e, r⟩ := rp.write (o := .lst ws) hi hw
  exact h _ m v e r (WV.ext rp.mut e hv)
theorem WVs.last {K : PySem.W.Frag} {H : Hp} {m : List Addr} {xs : List W} {vs : List V} {w : W} (h : WVs K H O m xs vs) (e : xs.getLast? = some w) : ∃ v, vs[vs.length - 1]? = some v ∧ WV K H O m w v := by
  rw [List.getLast?_eq_getElem?] at e
  obtain ⟨v, h1, h2⟩ := h.get e
  exact ⟨v, by rw [← h.length]; exact h1, h2⟩
theorem WVs.init {K : PySem.W.Frag} {H : Hp} {m : List Addr} {xs : List W} {vs : List V} (h : WVs K H O m xs vs) : WVs K H O m xs.dropLast vs.dropLast := by
  rw [List.dropLast_eq_take, List.dropLast_eq_take, h.length]
  exact h.take _
theorem append_ok {K : PySem.W.Frag} {mm : Bool} : MeOk K er Wx "list" rAppend (meW .append mm) := by
  intro O σ H m st o ws x vs Q rp ho hv h
  obtain ⟨i, xs, a, us, ex, hm, q, hs, h⟩ := lstAt_ok rp ho h
  obtain ⟨w, v, rfl, h1, h⟩ := arg1_ok (st := st) hv h
  by_cases c : xs.length < sizeLine
  · rw [if_pos c] at h
    exact ⟨a, us, v, ex, rfl, q, by rw [← hs.length]; exact c, wr_ok (v := .non) rp hm (hs.append (one_wvs h1)) (w := .d .non) rfl h⟩
  · rw [if_neg c] at h; exact h.elim
theorem pop_ok {K : PySem.W.Frag} {mm : Bool} : MeOk K er Wx "list" rPop (meW .pop mm) := by
  intro O σ H m st o ws x vs Q rp ho hv h
  obtain ⟨i, xs, a, us, ex, hm, q, hs, h2⟩ := lstAt_ok rp ho h
  clear h
  split at h2
  · rename_i w e
    obtain ⟨v, e1, h1⟩ := hs.last e
    exact ⟨a, us, v, ex, hv, q, e1, wr_ok rp hm hs.init h1 h2⟩
  · exact h2.elim
theorem insert_ok {K : PySem.W.Frag} {mm : Bool} : MeOk K er Wx "list" (fun x vs H Q => ∃ (l : Addr) (xs : List V) (i : Int) (y : V), x = .ref l ∧ vs = [.int i, y] ∧ H l = some (.lst xs) ∧ xs.length < sizeLine ∧ 0 ≤ i ∧ i < 2 ^ 63 ∧
    Q .non (upd H l (.lst (xs.take i.toNat ++ [y] ++ xs.drop i.toNat)))) (meW .insert mm) := by
  intro O σ H m st o ws x vs Q rp ho hv h
  obtain ⟨i, xs, a, us, ex, hm, q, hs, h⟩ := lstAt_ok rp ho h
  obtain ⟨k, w, u, v, rfl, h1, h2, h⟩ := arg2_ok (st := st) hv h
  unfold mIns at h
  split at h
  · rename_i k
    by_cases c : xs.length < sizeLine ∧ 0 ≤ k ∧ k < 2 ^ 63
    · rw [if_pos c] at h
      refine ⟨a, us, k, v, ex, by rw [show u = .int k from h1], q, by rw [← hs.length]; exact c.1, c.2.1, c.2.2, wr_ok (v := .non) (w := .d .non) rp hm ?_ rfl h⟩
      unfold insL
      have e : xs.take k.toNat ++ w :: xs.drop k.toNat = xs.take k.toNat ++ [w] ++ xs.drop k.toNat := by simp
      rw [e]
      exact ((hs.take _).append (one_wvs h2)).append (hs.drop _)
    · rw [if_neg c] at h; exact h.elim
  · exact h.elim
theorem strs_ok {K : PySem.W.Frag} {H : Hp} {m : List Addr} : ∀ ys : List Str, WVs K H O m (ys.map fun z => .d (.str z)) (ys.map V.str)
  | [] => rfl
  | y :: ys => ⟨_, _, rfl, rfl, strs_ok ys⟩
theorem split_ok {K : PySem.W.Frag} {σ : L2.St} {H : Hp} {m : List Addr} {st : Sto} {mm : Bool} {o w : W} {x y : V} {Q : VK} (rp : Rep K H O m st) (ho : WV K H O m o x) (hw : WV K H O m w y) (h : PostG K er Wx O (relW K O) (mSplit mm st o w) σ H m Q) :
    ∃ a b, x = .str a ∧ y = .str b ∧ (b.length == 0) = false ∧ a.length + 2 ≤ sizeLine ∧ rNewStrs (Txt.split a b) H Q := by
  unfold mSplit at h
  split at h
  · rename_i a b
    by_cases c : (b.length == 0) = false ∧ a.length + 2 ≤ sizeLine
    · rw [if_pos c] at h
      exact ⟨a, b, ho, hw, c.1, c.2, (newL_ok rp (strs_ok _) h).2⟩
    · rw [if_neg c] at h; exact h.elim
  · exact h.elim
theorem extend_ok {K : PySem.W.Frag} {mm : Bool} : MeOk K er Wx "list" rExtend (meW .extend mm) := by
  intro O σ H m st o ws x vs Q rp ho hv h
  obtain ⟨i, xs, a, us, ex, hm, q, hs, h⟩ := lstAt_ok rp ho h
  obtain ⟨w, v, rfl, h1, h⟩ := arg1_ok (st := st) hv h
  unfold mExt at h
  cases e : itemsL st w with
  | none => rw [e] at h; exact h.elim
  | some ys =>
    rw [e] at h
    obtain ⟨b, zs, ev, qb, hy⟩ := items_ok rp h1 e
    dsimp only at h
    by_cases c : xs.length + ys.length ≤ sizeLine
    · rw [if_pos c] at h
      exact ⟨a, b, us, zs, ex, by rw [ev], q, qb, by rw [← hs.length, ← hy.length]; exact c, wr_ok (v := .non) rp hm (hs.append hy) (w := .d .non) rfl h⟩
    · rw [if_neg c] at h; exact h.elim
theorem idxO_ok {d : PyData} : ∀ {zs : List PyData} {j : Nat}, idxO d zs = some j → ∃ z, zs[j]? = some z ∧ PyData.eqv z d = true ∧ ∀ (m : Nat) (z' : PyData), m < j → zs[m]? = some z' → PyData.eqv z' d = false
  | [], _, h => by cases h
  | z :: zs, j, h => by
    unfold idxO at h
    by_cases c : PyData.eqv z d = true
    · rw [if_pos c] at h
      cases h
      exact ⟨z, rfl, c, fun m z' hm => by omega⟩
    · rw [if_neg c] at h
      cases e : idxO d zs with
      | none => rw [e] at h; cases h
      | some i =>
        rw [e] at h; cases h
        obtain ⟨y, h1, h2, h3⟩ := idxO_ok e
        refine ⟨y, by simpa using h1, h2, fun m z' hm hz => ?_⟩
        cases m with
        | zero => simp at hz; subst hz; simpa using c
        | succ m => exact h3 m z' (by have hm : m + 1 < i + 1 := hm; omega) (by simpa using hz)
theorem index_ok {K : PySem.W.Frag} {mm : Bool} : MeOk K er Wx "list" (rIndexD K) (meW .index mm) := by
  intro O σ H m st o ws x vs Q rp ho hv h
  obtain ⟨w, v, rfl, h1, h⟩ := arg1_ok (st := st) hv h
  unfold mIdx at h
  split at h
  · rename_i ds y e1 e2
    by_cases c : (D.lst ds).shp = true ∧ y.shp = true
    · rw [if_pos c] at h
      obtain ⟨u, eu, h⟩ := PostG.ofO h
      cases e : idxO y.py (D.pys ds) with
      | none => rw [e] at eu; cases eu
      | some j =>
        rw [e] at eu; cases eu
        obtain ⟨z, z1, z2, z3⟩ := idxO_ok e
        have d1 := frz_dp8 rp ho e1 c.1
        have d2 := frz_dp8 rp h1 e2 c.2
        have hl : Dp K H x (.list (D.pys ds)) := d1
        have hx : ∃ a, x = .ref a := by
          obtain ⟨k, hk⟩ : ∃ k : Nat, k = 8 := ⟨8, rfl⟩
          have dv : ∃ a, x = .ref a := by
            cases o with
            | d q =>
              cases e1
              unfold WV DV at ho
              obtain ⟨a, vs, ev, _⟩ := ho
              exact ⟨a, ev⟩
            | ref i => obtain ⟨a, _, ev⟩ := ho; exact ⟨a, ev⟩
          exact dv
        obtain ⟨a, rfl⟩ := hx
        exact ⟨a, v, y.py, D.pys ds, j, z, rfl, rfl, hl, d2, c.1, c.2, z1, z2, z3, done_int rp h⟩
    · rw [if_neg c] at h; exact h.elim
  · exact h.elim
theorem strsO_ok {K : PySem.W.Frag} {H : Hp} {m : List Addr} : ∀ {ws : List W} {vs : List V} {ys : List Str}, strsO ws = some ys → WVs K H O m ws vs → vs = ys.map V.str
  | [], _, _, e, h => by cases e; exact h
  | .d (.str y) :: r, vs, ys, e, ⟨v, r', e1, h1, h2⟩ => by
    unfold strsO at e
    cases e2 : strsO r with
    | none => rw [e2] at e; cases e
    | some zs =>
      rw [e2] at e; cases e
      rw [e1, strsO_ok e2 h2, show v = .str y from h1]
      rfl
  | .ref _ :: _, _, _, e, _ => by cases e
  | .d .non :: _, _, _, e, _ => by cases e
  | .d (.bl _) :: _, _, _, e, _ => by cases e
  | .d (.int _) :: _, _, _, e, _ => by cases e
  | .d (.tup _) :: _, _, _, e, _ => by cases e
  | .d (.lst _) :: _, _, _, e, _ => by cases e
  | .d (.frz _) :: _, _, _, e, _ => by cases e
  | .d (.dct _) :: _, _, _, e, _ => by cases e
  | .d (.obj _ _ _) :: _, _, _, e, _ => by cases e
  | .d (.exc _ _ _) :: _, _, _, e, _ => by cases e
theorem join_ok {K : PySem.W.Frag} {σ : L2.St} {H : Hp} {m : List Addr} {st : Sto} {o w : W} {x y : V} {Q : VK} (rp : Rep K H O m st) (ho : WV K H O m o x) (hw : WV K H O m w y) (h : PostG K er Wx O (relW K O) (mJoin st o w) σ H m Q) :
    ∃ a p, ∃ ys : List Str, x = .str a ∧ y = .ref p ∧ (SqL K H p (ys.map V.str) ∨ SqT K H p (ys.map V.str)) ∧ (ys.map (·.length)).sum + ys.length * a.length ≤ 16777216 ∧ Q (.str (Txt.join a ys)) H := by
  unfold mJoin at h
  split at h
  · rename_i a
    split at h
    · rename_i ws e1
      split at h
      · rename_i ys e2
        by_cases c : (ys.map (·.length)).sum + ys.length * a.length ≤ 16777216
        · rw [if_pos c] at h
          unfold seqL at e1
          split at e1
          · rename_i xs
            cases e1
            unfold WV DV at hw
            obtain ⟨p, vs, ev, q, hs⟩ := hw
            have e3 := strsO_ok e2 (DVs.toW hs)
            exact ⟨a, p, ys, ho, ev, .inr (by rw [← e3]; exact q), c, done_str rp h⟩
          · obtain ⟨p, vs, ev, q, hs⟩ := items_ok rp hw e1
            have e3 := strsO_ok e2 hs
            exact ⟨a, p, ys, ho, ev, .inl (by rw [← e3]; exact SqL.of q), c, done_str rp h⟩
        · rw [if_neg c] at h; exact h.elim
      · exact h.elim
    · exact h.elim
  · exact h.elim
end
end LL

set_option Elab.async false
set_option linter.all false
set_option maxRecDepth 100000
set_option maxHeartbeats 4000000
set_option autoImplicit false
/-! LG: readings in a row; calls of defs; what a loop walks; comprehensions. -/
namespace LL
open PySem PySem.Spec PyProof.Rows L2
section
variable {K : PySem.W.Frag} {er : Er} {Wx : WX} {O : List Addr} {σ : L2.St} {H H1 : Hp} {m m1 : List Addr} {st st1 : Sto} {env : Ev}
theorem seqG {α β γ δ : Type} {rel : Hp → List Addr → α → β → Prop} {rel' : Hp → List Addr → γ → δ → Prop} {r : R α} {f : α → Sto → R γ} {Q : δ → Hp → Prop} (rp : Rep K H O m st) (en : EnvOk K H O m env σ) (h : PostG K er Wx O rel' (r.bind f) σ H m Q) :
    PostG K er Wx O rel r σ H m (fun b H1 => ∃ m1 st1 a, Ext H m H1 m1 ∧ Rep K H1 O m1 st1 ∧ EnvOk K H1 O m1 env σ ∧ rel H1 m1 a b ∧ PostG K er Wx O rel' (f a st1) σ H1 m1 Q) :=
  (PostG.bind (rel := rel) h).imp fun b H1 ⟨m1, st1, a, e, r1, rl, q⟩ => ⟨m1, st1, a, e, r1, en.ext rp.mut e, rl, q⟩
theorem tE_mk {r : Ev → Sto → R W} {Q : VK} (rp : Rep K H O m st) (en : EnvOk K H O m env σ) (h : PostG K er Wx O (relW K O) (r env st) σ H m Q) : tE K er Wx r σ H Q := ⟨O, m, st, env, rp, en, h⟩
/-- one expression, then f -/
theorem tE_un {ra : Ev → Sto → R W} {f : W → Ev → Sto → R W} {Q : VK} (h : tE K er Wx (fun env st => (ra env st).bind fun x st => f x env st) σ H Q) :
    tE K er Wx ra σ H fun x H1 => ∃ O m st env a, Rep K H1 O m st ∧ EnvOk K H1 O m env σ ∧ WV K H1 O m a x ∧ PostG K er Wx O (relW K O) (f a env st) σ H1 m Q := by
  obtain ⟨O, m, st, env, rp, en, h⟩ := h
  exact tE_mk rp en ((seqG (rel := relW K O) rp en h).imp fun x H1 ⟨m1, st1, a, e, r1, e1, rl, q⟩ => ⟨O, m1, st1, env, a, r1, e1, rl, q⟩)
theorem tE_bin {ra rb : Ev → Sto → R W} {f : W → W → Sto → R W} {Q : VK} (h : tE K er Wx (fun env st => (ra env st).bind fun x st => (rb env st).bind fun y st => f x y st) σ H Q) :
    tE K er Wx ra σ H fun x H1 => tE K er Wx rb σ H1 fun y H2 => ∃ O m st a b, Rep K H2 O m st ∧ WV K H2 O m a x ∧ WV K H2 O m b y ∧ PostG K er Wx O (relW K O) (f a b st) σ H2 m Q := by
  obtain ⟨O, m, st, env, rp, en, h⟩ := h
  refine tE_mk rp en ((seqG (rel := relW K O) rp en h).imp fun x H1 ⟨m1, st1, a, e, r1, e1, rl, q⟩ => ?_)
  exact tE_mk r1 e1 ((seqG (rel := relW K O) r1 e1 q).imp fun y H2 ⟨m2, st2, b, e2, r2, _, rl2, q2⟩ => ⟨O, m2, st2, a, b, r2, WV.ext r1.mut e2 rl, rl2, q2⟩)
theorem tE_args {ra : Ev → Sto → R (List W)} {f : List W → Sto → R W} {Q : VK} (h : tE K er Wx (fun env st => (ra env st).bind fun x st => f x st) σ H Q) :
    tA K er Wx ra σ H fun vs H1 => ∃ O m st ws, Rep K H1 O m st ∧ WVs K H1 O m ws vs ∧ PostG K er Wx O (relW K O) (f ws st) σ H1 m Q := by
  obtain ⟨O, m, st, env, rp, en, h⟩ := h
  exact ⟨O, m, st, env, rp, en, (seqG (rel := relWs K O) rp en h).imp fun x H1 ⟨m1, st1, a, e, r1, _, rl, q⟩ => ⟨O, m1, st1, a, r1, rl, q⟩⟩
theorem tE_meth {ra : Ev → Sto → R W} {rb : Ev → Sto → R (List W)} {f : W → List W → Sto → R W} {Q : VK} (h : tE K er Wx (fun env st => (ra env st).bind fun x st => (rb env st).bind fun y st => f x y st) σ H Q) :
    tE K er Wx ra σ H fun x H1 => tA K er Wx rb σ H1 fun vs H2 => ∃ O m st a ws, Rep K H2 O m st ∧ WV K H2 O m a x ∧ WVs K H2 O m ws vs ∧ PostG K er Wx O (relW K O) (f a ws st) σ H2 m Q := by
  obtain ⟨O, m, st, env, rp, en, h⟩ := h
  refine tE_mk rp en ((seqG (rel := relW K O) rp en h).imp fun x H1 ⟨m1, st1, a, e, r1, e1, rl, q⟩ => ?_)
  exact ⟨O, m1, st1, env, r1, e1, (seqG (rel := relWs K O) r1 e1 q).imp fun y H2 ⟨m2, st2, b, e2, r2, _, rl2, q2⟩ => ⟨O, m2, st2, a, b, r2, WV.ext r1.mut e2 rl, rl2, q2⟩⟩
end
theorem PE.imp {X : Cx} {e : Expr} {t t' : TE} (h : PE X e t) (i : ∀ σ H Q, t' σ H Q → t σ H Q) : PE X e t' := ⟨fun pins s σ H Q I q => h.run pins s σ H Q I (i σ H Q q)⟩
theorem PT.imp {X : Cx} {e : Expr} {t t' : TT} (h : PT X e t) (i : ∀ σ H Q, t' σ H Q → t σ H Q) : PT X e t' := ⟨fun pins s σ H Q I q => h.run pins s σ H Q I (i σ H Q q)⟩
theorem PW.imp {X : Cx} {e : Expr} {t t' : TT} (h : PW X e t) (i : ∀ σ H Q, t' σ H Q → t σ H Q) : PW X e t' := ⟨fun wh pins s σ H Q I q => h.run wh pins s σ H Q I (i σ H Q q)⟩
theorem PA.imp {X : Cx} {e : List Expr} {t t' : TA} (h : PA X e t) (i : ∀ σ H Q, t' σ H Q → t σ H Q) : PA X e t' := ⟨fun pos pins s σ H Q I q => h.run pos pins s σ H Q I (i σ H Q q)⟩
theorem PO.imp {X : Cx} {e : Option Expr} {t t' : TO} (h : PO X e t) (i : ∀ σ H Q, t' σ H Q → t σ H Q) : PO X e t' := ⟨fun pins s σ H Q I q => h.run pins s σ H Q I (i σ H Q q)⟩
theorem PI.imp {X : Cx} {tg e : Expr} {t t' : TI} (h : PI X tg e t) (i : ∀ σ H Q, t' σ H Q → t σ H Q) : PI X tg e t' := ⟨fun pins s σ H Q I q => h.run pins s σ H Q I (i σ H Q q)⟩
theorem PI.or {X : Cx} {tg e : Expr} {t t' : TI} (h : PI X tg e t) (h' : PI X tg e t') : PI X tg e (fun σ H R => t σ H R ∨ t' σ H R) := ⟨fun pins s σ H Q I q => q.elim (h.run pins s σ H Q I) (h'.run pins s σ H Q I)⟩
theorem PE.or {X : Cx} {e : Expr} {t t' : TE} (h : PE X e t) (h' : PE X e t') : PE X e (fun σ H R => t σ H R ∨ t' σ H R) := ⟨fun pins s σ H Q I q => q.elim (h.run pins s σ H Q I) (h'.run pins s σ H Q I)⟩

/-! ### taken out of a store -/
section
variable {K : PySem.W.Frag} {O m : List Addr} {H : Hp} {st : Sto}
theorem mapO_dvs {f : W → Option D} (h : ∀ w v x, f w = some x → WV K H O m w v → DV K H O x v) : ∀ {ws : List W} {xs : List D} {vs : List V}, mapO f ws = some xs → WVs K H O m ws vs → DVs K H O xs vs
  | [], _, _, e, h1 => by cases e; unfold DVs; exact h1
  | w :: ws, xs, vs, e, ⟨v, r, e1, h1, h2⟩ => by
    unfold mapO at e
    cases e2 : f w with
    | none => simp only [e2] at e; cases e
    | some y =>
      simp only [e2] at e
      cases e3 : mapO f ws with
      | none => rw [e3] at e; cases e
      | some ys =>
        rw [e3] at e; cases e
        unfold DVs
        exact ⟨v, r, e1, h w v y e2 h1, mapO_dvs h e3 h2⟩
theorem frz_dv (rp : Rep K H O m st) : ∀ (k : Nat) (w : W) (v : V) (x : D), frz k st w = some x → WV K H O m w v → DV K H O x v := by
  intro k
  induction k with
  | zero =>
    intro w v x e h
    cases w with
    | d y => cases e; exact DV.weak (fun b hb => List.mem_append_left _ hb) h
    | ref i => cases e
  | succ k ih =>
    intro w v x e h
    cases w with
    | d y => cases e; exact DV.weak (fun b hb => List.mem_append_left _ hb) h
    | ref i =>
      have h0 := h
      obtain ⟨a, h1, h2⟩ := h
      unfold frz at e
      cases hs : st[i]? with
      | none => simp only [hs] at e; cases e
      | some o =>
        have ob := rp.ob i a o h1 hs
        cases o with
        | dct ks => exact ob.elim
        | ins cc ks ws =>
          simp only [hs] at e
          cases e2 : mapO (frz k st) ws with
          | none => rw [e2] at e; cases e
          | some ys =>
            rw [e2] at e; cases e
            obtain ⟨dx, vs, q, hl, hw⟩ := ob
            unfold DV
            exact ⟨a, dx, vs, h2, rp.dj a (List.mem_of_getElem? h1), q, hl, mapO_dvs (fun w v x e h => ih w v x e h) e2 hw⟩
        | lst ws =>
          simp only [hs] at e
          cases e2 : mapO (frz k st) ws with
          | none => rw [e2] at e; cases e
          | some ys =>
            rw [e2] at e; cases e
            obtain ⟨vs, q, hw⟩ := ob
            unfold DV
            exact ⟨a, vs, h2, rp.dj a (List.mem_of_getElem? h1), q, mapO_dvs (fun w v x e h => ih w v x e h) e2 hw⟩
theorem frzL_dv (rp : Rep K H O m st) {w : W} {v : V} {ds : List D} (e : frzL st w = some ds) (h : WV K H O m w v) : ∃ a vs, v = .ref a ∧ a ∈ m ∧ H a = some (.lst vs) ∧ DVs K H (O ++ m) ds vs := by
  unfold frzL at e
  split at e
  · rename_i i
    split at e
    · rename_i ws es
      obtain ⟨a, vs, ev, hm, q, hw⟩ := rp.at_ h es
      exact ⟨a, vs, ev, List.mem_of_getElem? hm, q, WVs.toD e hw⟩
    · cases e
  · cases e
end
/-! ### calls of defs -/
/-- what the def of number f promises, run by C -/
def spC (K : PySem.W.Frag) (er : Er) (C : Cal) (f : Nat) : Sp := fun vs H Q E => ∃ O m st ws, Rep K H O m st ∧ WVs K H O m ws vs ∧ PostG K er (fun cls d _ H' => E cls d H') O (relW K O) (C f ws st) [] H m Q
section
variable {K : PySem.W.Frag} {er : Er} {Wx : WX} {C : Cal} {O : List Addr} {σ : L2.St} {H : Hp} {m : List Addr} {st : Sto}
/-- a call in a store of its own: where one stands, where one comes back -/
theorem rep_own (rp : Rep K H O m st) : Rep K H (O ++ m) [] [] :=
  ⟨rfl, List.nodup_nil, (fun _ h => nomatch h), fun a ha => by
    rcases List.mem_append.mp ha with ha | ha
    · exact rp.ol a ha
    · obtain ⟨o, h, _⟩ := rp.there ha
      rw [h]; exact (fun z => nomatch z), fun i a o h => by simp at h⟩
theorem ext_own {H' : Hp} {m' : List Addr} (e : Ext H [] H' m') : Ext H m H' m := ⟨⟨[], by simp, fun _ h => nomatch h⟩, fun a o _ q => e.keep a o (by simp) q⟩
theorem rep_back (rp : Rep K H O m st) {H' : Hp} {m' : List Addr} (e : Ext H [] H' m') : Rep K H' O m st :=
  rp.upto (ext_own e) fun a ha => by
    obtain ⟨o, h, _⟩ := rp.there ha
    rw [h, e.keep a o (by simp) h]
theorem call_ok {f : Nat} {md : Md} {ws : List W} {vs : List V} {Q : VK} (rp : Rep K H O m st) (hv : WVs K H O m ws vs) (h : PostG K er Wx O (relW K O) (callW C f md ws st) σ H m Q) : spC K er C f vs H Q (WE Wx σ) := by
  have own : ∀ ds, allD ws = some ds → WVs K H (O ++ m) [] ws vs := fun ds e => by
    rw [allD_eq e]
    have q := WVs.toD e hv
    exact DVs.toW (m := []) (by rw [List.append_nil]; exact q)
  cases md with
  | sh =>
    refine ⟨O, m, st, ws, rp, hv, ?_⟩
    unfold callW at h
    cases r : C f ws st with
    | ok w st' => rw [r] at h; exact h
    | exc c p st' => rw [r] at h; exact h
    | bad => rw [r] at h; exact h
  | pure =>
    unfold callW at h
    dsimp only at h
    cases ha : allD ws with
    | none => rw [ha] at h; exact h.elim
    | some ds =>
      rw [ha] at h
      dsimp only at h
      refine ⟨O ++ m, [], [], ws, rep_own rp, own ds ha, ?_⟩
      cases r : C f ws [] with
      | ok w st' =>
        rw [r] at h
        dsimp only at h
        obtain ⟨w', ew, h⟩ := PostG.ofO h
        cases e : frz 8 st' w with
        | none => rw [e] at ew; cases ew
        | some d =>
          rw [e] at ew; cases ew
          intro H' m' v e1 r1 h1
          exact h H' m v (ext_own e1) (rep_back rp e1) (frz_dv r1 8 w v d e h1)
      | exc c p st' =>
        rw [r] at h
        intro H' m' dd fs v e1 r1 h1 h2 h3
        exact h H' m dd fs v (ext_own e1) (rep_back rp e1) (DV.weak (fun b hb => List.mem_append_left _ hb) h1) h2 h3
      | bad => rw [r] at h; exact h
  | new =>
    unfold callW at h
    dsimp only at h
    cases ha : allD ws with
    | none => rw [ha] at h; exact h.elim
    | some ds =>
      rw [ha] at h
      dsimp only at h
      refine ⟨O ++ m, [], [], ws, rep_own rp, own ds ha, ?_⟩
      cases r : C f ws [] with
      | ok w st' =>
        rw [r] at h
        dsimp only at h
        cases e : frzL st' w with
        | none => rw [e] at h; exact h.elim
        | some ds =>
          rw [e] at h
          intro H' m' v e1 r1 h1
          obtain ⟨a, us, ev, am, q, hw⟩ := frzL_dv r1 e h1
          have na : a ∉ O ++ m := r1.dj a am
          have fresh : H a = none := by
            obtain ⟨ms, e2, e3⟩ := e1.more
            rw [List.nil_append] at e2
            rw [e2] at am
            exact e3 a am
          have rb := rep_back rp e1
          have e4 : Ext H m H' (m ++ [a]) := ⟨⟨[a], rfl, fun b hb => by rw [List.mem_singleton.mp hb]; exact fresh⟩, fun b o _ q => e1.keep b o (by simp) q⟩
          have rr : Rep K H' O (m ++ [a]) (st ++ [.lst (ds.map .d)]) := by
            -- the store ahead of the call, then the new list
            have nm : ∀ b ∈ m, b ≠ a := fun b hb z => na (by rw [← z]; exact List.mem_append_right _ hb)
            refine ⟨by rw [List.length_append, List.length_append, rp.len]; rfl, ?_, fun b hb => ?_, rb.ol, fun i b o g1 g2 => ?_⟩
            · rw [List.nodup_append]
              refine ⟨rp.nd, by simp, fun b hb c hc => ?_⟩
              rw [List.mem_singleton.mp hc]
              exact nm b hb
            · rcases List.mem_append.mp hb with hb | hb
              · exact rp.dj b hb
              · rw [List.mem_singleton.mp hb]
                exact fun z => na (List.mem_append_left _ z)
            · by_cases hi : i < m.length
              · rw [List.getElem?_append_left hi] at g1
                rw [List.getElem?_append_left (by rw [← rp.len]; exact hi)] at g2
                have g3 : H' b = H b := by
                  obtain ⟨o', h, _⟩ := rp.there (List.mem_of_getElem? g1)
                  rw [h, e1.keep b o' (by simp) h]
                exact ObV.ext rp.mut e4 g3 (rp.ob i b o g1 g2)
              · have hi' : i = m.length := by
                  have := (List.getElem?_eq_some_iff.mp g1).1
                  rw [List.length_append] at this
                  simp at this
                  omega
                subst hi'
                rw [List.getElem?_append_right (Nat.le_refl _)] at g1
                rw [rp.len, List.getElem?_append_right (Nat.le_refl _)] at g2
                simp at g1 g2
                subst g1 g2
                refine ⟨us, q, DVs.toW (DVs.weak (fun b hb => ?_) hw)⟩
                rcases List.mem_append.mp hb with hb | hb
                · exact List.mem_append_left _ (List.mem_append_left _ hb)
                · rcases List.mem_append.mp hb with hb | hb
                  · exact List.mem_append_left _ (List.mem_append_right _ hb)
                  · rw [List.mem_singleton.mp hb]
                    exact List.mem_append_right _ am
          exact h H' (m ++ [a]) v e4 rr ⟨a, by rw [← rp.len]; simp, ev⟩
      | exc c p st' =>
        rw [r] at h
        intro H' m' dd fs v e1 r1 h1 h2 h3
        exact h H' m dd fs v (ext_own e1) (rep_back rp e1) (DV.weak (fun b hb => List.mem_append_left _ hb) h1) h2 h3
      | bad => rw [r] at h; exact h
end
end LL

set_option Elab.async false
set_option linter.all false
set_option maxRecDepth 100000
set_option maxHeartbeats 4000000
set_option autoImplicit false
/-! LH: what a loop walks; comprehensions. -/
namespace LL
open PySem PySem.Spec PyProof.Rows L2
/-- a later state, with more that is shut -/
structure Later (H : Hp) (O m : List Addr) (H' : Hp) (O' m' : List Addr) : Prop where
  keep : ∀ a o, a ∉ m → H a = some o → H' a = some o
  blk : ∀ b ∈ O' ++ m', b ∈ O ++ m ∨ H b = none
  pre : ∃ ms, m' = m ++ ms
section
variable {K : PySem.W.Frag} {H H' : Hp} {O m O' m' : List Addr} {st : Sto}
theorem Ext.blk (e : Ext H m H' m') : ∀ b ∈ O ++ m', b ∈ O ++ m ∨ H b = none := fun b z => by
  obtain ⟨ms, e1, f1⟩ := e.more
  rw [e1] at z
  rcases List.mem_append.mp z with z | z
  · exact .inl (List.mem_append_left _ z)
  · rcases List.mem_append.mp z with z | z
    · exact .inl (List.mem_append_right _ z)
    · exact .inr (f1 b z)
theorem Ext.later (e : Ext H m H' m') : Later H O m H' O m' := ⟨e.keep, e.blk, let ⟨ms, e1, _⟩ := e.more; ⟨ms, e1⟩⟩
theorem WV.later (r : ∀ b ∈ m, ∃ o, H b = some o ∧ Mut (some o)) (l : Later H O m H' O' m') : ∀ {w : W} {v : V}, WV K H O m w v → WV K H' O' m' w v
  | .d x, v, h => DV.map (keep_fix r l.keep) (keep_lst l.keep l.blk fun b z => List.mem_append_right _ z) x v h
  | .ref i, v, ⟨a, h1, h2⟩ => by
    obtain ⟨ms, e1⟩ := l.pre
    exact ⟨a, by rw [e1, List.getElem?_append_left (List.getElem?_eq_some_iff.mp h1).1]; exact h1, h2⟩
theorem WVs.later (r : ∀ b ∈ m, ∃ o, H b = some o ∧ Mut (some o)) (l : Later H O m H' O' m') : ∀ {ws : List W} {vs : List V}, WVs K H O m ws vs → WVs K H' O' m' ws vs
  | [], _, h => h
  | _ :: _, _, ⟨v, r', ev, h1, h2⟩ => ⟨v, r', ev, WV.later r l h1, WVs.later r l h2⟩
end
/-- the iterator J gives the items ws -/
def WkAt (K : PySem.W.Frag) (J : It) (H : Hp) (O m : List Addr) (ws : List W) : Prop :=
  ∀ i, (i < ws.length → J.go i H ∧ ∀ x H', J.yld i H x H' → H' = H ∧ ∃ w, ws[i]? = some w ∧ WV K H O m w x) ∧ (ws.length ≤ i → J.stop i H)
section
variable (K : PySem.W.Frag) (er : Er) (Wx : WX)
def PostI (O : List Addr) (r : R (List W ⊕ Nat)) (σ : L2.St) (H : Hp) (m : List Addr) (R : It → Hp → Prop) : Prop := match r with
  | .ok (.inl ws) st' => ∀ H1 m1 J, Ext H m H1 m1 → Rep K H1 O m1 st' → (∀ H2 O2 m2, Later H1 O m1 H2 O2 m2 → WkAt K J H2 O2 m2 ws) → R J H1
  | .ok (.inr i) st' => ∀ H1 m1 a, Ext H m H1 m1 → Rep K H1 O m1 st' → m1[i]? = some a → R (Itl K a) H1
  | .exc c p st' => ∀ H' m' dd fs v, Ext H m H' m' → Rep K H' O m' st' → DV K H' (O ++ m') p v → H' dd = some (.xd fs) → fs.lookup (er.an c) = some v → Wx (.ref (er.ca c)) (some dd) σ H'
  | .bad => False
def tI (r : Ev → Sto → R (List W ⊕ Nat)) : TI := fun σ H R => ∃ O m st env, Rep K H O m st ∧ EnvOk K H O m env σ ∧ PostI K er Wx O (r env st) σ H m R
end
section
variable {K : PySem.W.Frag} {er : Er} {Wx : WX} {O : List Addr} {σ : L2.St} {H H1 : Hp} {m m1 : List Addr} {st st1 : Sto} {env : Ev}
theorem PostI.fwd {r : R (List W ⊕ Nat)} {R : It → Hp → Prop} (h : PostI K er Wx O r σ H m R) (e : Ext H m H1 m1) (rp : Rep K H1 O m1 st1) : PostI K er Wx O r σ H1 m1 R := by
  cases r with
  | ok a st' =>
    cases a with
    | inl ws => exact fun H' m' J e' rp' k => h H' m' J (e.trans e' rp) rp' k
    | inr i => exact fun H' m' a e' rp' k => h H' m' a (e.trans e' rp) rp' k
  | exc c p st' => exact fun H' m' dd fs v e' rp' d x l => h H' m' dd fs v (e.trans e' rp) rp' d x l
  | bad => exact h
theorem seqI {α β : Type} {rel : Hp → List Addr → α → β → Prop} {r : R α} {f : α → Sto → R (List W ⊕ Nat)} {R : It → Hp → Prop} (rp : Rep K H O m st) (en : EnvOk K H O m env σ) (h : PostI K er Wx O (r.bind f) σ H m R) :
    PostG K er Wx O rel r σ H m (fun b H1 => ∃ m1 st1 a, Ext H m H1 m1 ∧ Rep K H1 O m1 st1 ∧ EnvOk K H1 O m1 env σ ∧ rel H1 m1 a b ∧ PostI K er Wx O (f a st1) σ H1 m1 R) := by
  cases r with
  | ok a st' => exact fun H' m' b e rp' rl => ⟨m', st', a, e, rp', en.ext rp.mut e, rl, PostI.fwd h e rp'⟩
  | exc c p st' => exact h
  | bad => exact h
theorem wk_lst {a : Addr} {vs : List V} {ws : List W} (na : a ∉ m) (q : H a = some (.lst vs)) (rp : Rep K H O m st) (h : WVs K H O m ws vs) : ∀ H2 O2 m2, Later H O m H2 O2 m2 → WkAt K (Itl K a) H2 O2 m2 ws := fun H2 O2 m2 l i => by
  have q2 : H2 a = some (.lst vs) := l.keep a _ na q
  have h2 := WVs.later rp.mut l h
  refine ⟨fun hi => ?_, fun hi => ⟨vs, SqL.of q2, by rw [← h2.length]; exact hi⟩⟩
  obtain ⟨v, e1, d1⟩ := h2.get (List.getElem?_eq_getElem hi)
  exact ⟨⟨vs, v, SqL.of q2, e1⟩, fun x H' y => ⟨y.1, ws[i], List.getElem?_eq_getElem hi, by
    have e2 := y.2 vs (SqL.of q2)
    rw [e1] at e2; cases e2; exact d1⟩⟩
theorem wk_frz {a : Addr} {vs : List V} {ws : List W} (q : FzL K H a vs) (rp : Rep K H O m st) (h : WVs K H O m ws vs) : ∀ H2 O2 m2, Later H O m H2 O2 m2 → WkAt K (Itl K a) H2 O2 m2 ws := fun H2 O2 m2 l i => by
  have q2 : FzL K H2 a vs := by
    rcases q with ⟨o, q⟩ | q
    · exact .inl ⟨o, keep_fix rp.mut l.keep a _ q fun z => z⟩
    · exact .inr q
  have h2 := WVs.later rp.mut l h
  refine ⟨fun hi => ?_, fun hi => ⟨vs, q2.sq, by rw [← h2.length]; exact hi⟩⟩
  obtain ⟨v, e1, d1⟩ := h2.get (List.getElem?_eq_getElem hi)
  exact ⟨⟨vs, v, q2.sq, e1⟩, fun x H' y => ⟨y.1, ws[i], List.getElem?_eq_getElem hi, by
    have e2 := y.2 vs q2.sq
    rw [e1] at e2; cases e2; exact d1⟩⟩
theorem wk_tup {a : Addr} {vs : List V} {ws : List W} (q : SqT K H a vs) (rp : Rep K H O m st) (h : WVs K H O m ws vs) : ∀ H2 O2 m2, Later H O m H2 O2 m2 → WkAt K (Itt K a) H2 O2 m2 ws := fun H2 O2 m2 l i => by
  have q2 : SqT K H2 a vs := by
    rcases q with (q | ⟨o, q⟩) | q
    · exact .inl (.inl (keep_fix rp.mut l.keep a _ q fun z => z))
    · exact .inl (.inr ⟨o, keep_fix rp.mut l.keep a _ q fun z => z⟩)
    · exact .inr q
  have h2 := WVs.later rp.mut l h
  refine ⟨fun hi => ?_, fun hi => ⟨vs, q2, by rw [← h2.length]; exact hi⟩⟩
  obtain ⟨v, e1, d1⟩ := h2.get (List.getElem?_eq_getElem hi)
  exact ⟨⟨vs, v, q2, e1⟩, fun x H' y => ⟨y.1, ws[i], List.getElem?_eq_getElem hi, by
    have e2 := y.2 vs q2
    rw [e1] at e2; cases e2; exact d1⟩⟩
theorem wk_str (s : Str) : ∀ H2 O2 m2, WkAt K (Its s) H2 O2 m2 (strL s) := fun H2 O2 m2 i => by
  have hl : (strL s).length = s.cps.size := by unfold strL; simp
  refine ⟨fun hi => ?_, fun hi => by rw [hl] at hi; exact hi⟩
  have hi' := hi
  rw [hl] at hi'
  refine ⟨hi', fun x H' y => ⟨y.1, ?_⟩⟩
  obtain ⟨c, e1, e2⟩ := y.2
  refine ⟨.d (.str ⟨#[c]⟩), ?_, e2⟩
  unfold strL
  rw [List.getElem?_map, Array.getElem?_toList, e1]
  rfl
theorem wk_rng (lo hi : Int) : ∀ H2 O2 m2, WkAt K (Itr lo (hi - lo).toNat) H2 O2 m2 (rngL lo hi) := fun H2 O2 m2 i => by
  have hl : (rngL lo hi).length = (hi - lo).toNat := by unfold rngL; simp
  refine ⟨fun hi => ?_, fun hi => by rw [hl] at hi; exact hi⟩
  have hi' := hi
  rw [hl] at hi'
  refine ⟨hi', fun x H' y => ⟨y.1, .d (.int (lo + (i : Int))), ?_, y.2⟩⟩
  unfold rngL
  rw [List.getElem?_map, List.getElem?_range hi']
  rfl
end
/-- any value that is walked -/
theorem pi_any {X : Cx} {er : Er} {Wx : WX} {tg e : Expr} {r : Ev → Sto → R W} (he : PE X e (tE X.K er Wx r)) : PI X tg e (tI X.K er Wx fun env st => (r env st).bind fun w st => iterW w st) := by
  refine PI.imp (PI.or (pi_list he) (PI.or (pi_tup he) (pi_str he))) fun σ H R h => ?_
  obtain ⟨O, m, st, env, rp, en, h⟩ := h
  have h : PostI X.K er Wx O ((r env st).bind fun w st => iterW w st) σ H m R := h
  cases hr : r env st with
  | bad => rw [hr] at h; exact h.elim
  | exc c p st' =>
    rw [hr] at h
    exact .inl ⟨O, m, st, env, rp, en, by rw [hr]; exact h⟩
  | ok w st' =>
    rw [hr] at h
    have go : ∀ {Q : VK}, (∀ H1 m1 v, Ext H m H1 m1 → Rep X.K H1 O m1 st' → WV X.K H1 O m1 w v → Q v H1) → tE X.K er Wx r σ H Q := fun {Q} k => ⟨O, m, st, env, rp, en, by rw [hr]; exact k⟩
    have h : PostI X.K er Wx O (iterW w st') σ H m R := h
    cases w with
    | d x =>
      cases x with
      | tup xs =>
        refine .inr (.inl (go fun H1 m1 v e r1 hv => ?_))
        unfold WV DV at hv
        obtain ⟨a, vs, ev, q, hs⟩ := hv
        exact ⟨a, ev, ⟨vs, q⟩, h H1 m1 _ e r1 (wk_tup q r1 hs.toW)⟩
      | lst xs =>
        refine .inl (go fun H1 m1 v e r1 hv => ?_)
        unfold WV DV at hv
        obtain ⟨a, vs, ev, nb, q, hs⟩ := hv
        exact ⟨a, ev, ⟨vs, SqL.of q⟩, h H1 m1 _ e r1 (wk_lst (fun z => nb (List.mem_append_right _ z)) q r1 hs.toW)⟩
      | frz xs =>
        refine .inl (go fun H1 m1 v e r1 hv => ?_)
        unfold WV DV at hv
        obtain ⟨a, vs, ev, q, hs⟩ := hv
        exact ⟨a, ev, ⟨vs, q.sq⟩, h H1 m1 _ e r1 (wk_frz q r1 hs.toW)⟩
      | str s =>
        refine .inr (.inr (go fun H1 m1 v e r1 hv => ?_))
        exact ⟨s, hv, h H1 m1 _ e r1 fun H2 O2 m2 _ => wk_str s H2 O2 m2⟩
      | non => exact h.elim
      | bl _ => exact h.elim
      | int _ => exact h.elim
      | dct _ => exact h.elim
      | obj _ _ _ => exact h.elim
      | exc _ _ _ => exact h.elim
    | ref i =>
      cases hs : st'[i]? with
      | none => simp only [iterW, hs] at h; exact h.elim
      | some o =>
        cases o with
        | dct _ => simp only [iterW, hs] at h; exact h.elim
        | ins _ _ _ => simp only [iterW, hs] at h; exact h.elim
        | lst ws =>
          simp only [iterW, hs] at h
          refine .inl (go fun H1 m1 v e r1 hv => ?_)
          obtain ⟨a, vs, ev, hm, q, hw⟩ := r1.at_ hv hs
          exact ⟨a, ev, ⟨vs, SqL.of q⟩, h H1 m1 a e r1 hm⟩
/-! ### comprehensions -/
def gPat (K : PySem.W.Frag) : Pa → TG
  | .v i => gName i
  | .t is => gTup K is.length (gNs is)
where gNs : List Nat → TGs
  | [] => gNil
  | i :: is => gCons (gName i) (gNs is)
def paSl : Pa → List Nat
  | .v i => [i]
  | .t is => is
section
variable {K : PySem.W.Frag} {er : Er} {Wx : WX} {O : List Addr} {σ : L2.St} {H : Hp} {m : List Addr} {st : Sto} {env : Ev}
theorem EnvOk.set {w : W} {v : V} (e : EnvOk K H O m env σ) (i : Nat) (h : WV K H O m w v) : EnvOk K H O m (setV env i w) (σ.set i (some v)) := by
  refine ⟨by unfold setV; rw [List.length_set, List.length_set]; exact e.len, fun j u q => ?_⟩
  unfold setV at q
  by_cases hj : i = j
  · subst hj
    by_cases hl : i < env.length
    · rw [List.getElem?_set_self hl] at q
      cases q
      exact ⟨v, by rw [List.getElem?_set_self (by rw [e.len]; exact hl)], h⟩
    · rw [List.getElem?_eq_none (by simpa using hl)] at q; cases q
  · rw [List.getElem?_set_ne hj] at q
    obtain ⟨v', q1, q2⟩ := e.at_ j u q
    exact ⟨v', by rw [List.getElem?_set_ne hj]; exact q1, q2⟩
theorem EnvOk.wipe (e : EnvOk K H O m env σ) : ∀ vs : List Nat, EnvOk K H O m (wipeE env vs) (L2.wipe σ vs)
  | [] => e
  | v :: vs => by
    have ih := EnvOk.wipe e vs
    refine ⟨by unfold wipeE L2.wipe; rw [List.length_set, List.length_set]; exact ih.len, fun j u q => ?_⟩
    unfold wipeE at q
    by_cases hj : v = j
    · subst hj
      by_cases hl : v < (wipeE env vs).length
      · rw [List.getElem?_set_self hl] at q; cases q
      · rw [List.getElem?_eq_none (by simpa using hl)] at q; cases q
    · rw [List.getElem?_set_ne hj] at q
      obtain ⟨v', q1, q2⟩ := ih.at_ j u q
      exact ⟨v', by unfold L2.wipe; rw [List.getElem?_set_ne hj]; exact q1, q2⟩
theorem wipe_set {i : Nat} {v : Option V} : ∀ {vs : List Nat} {σ : L2.St}, i ∈ vs → L2.wipe (σ.set i v) vs = L2.wipe σ vs
  | [], _, h => by simp at h
  | u :: vs, σ, h => by
    by_cases hu : i ∈ vs
    · unfold L2.wipe; rw [wipe_set hu]
    · have e : i = u := by
        rcases List.mem_cons.mp h with h | h
        · exact h
        · exact absurd h hu
      subst e
      have aux : ∀ vs : List Nat, i ∉ vs → L2.wipe (σ.set i v) vs = (L2.wipe σ vs).set i v := by
        intro vs
        induction vs with
        | nil => intro _; rfl
        | cons z zs ih =>
          intro hz
          have h1 : i ≠ z := fun e => hz (by rw [e]; exact List.mem_cons_self)
          unfold L2.wipe
          rw [ih (fun q => hz (List.mem_cons_of_mem _ q)), List.set_comm _ _ h1]
      unfold L2.wipe
      rw [aux vs hu, List.set_set]
/-- a pattern's slots -/
theorem setVs_ok : ∀ {is : List Nat} {xs : List D} {vs : List V} {env env' : Ev} {σ : L2.St} {R : L2.St → Hp → Prop}, setVs env is xs = some env' → EnvOk K H O m env σ → DVs K H (O ++ m) xs vs →
    (∀ σ', EnvOk K H O m env' σ' → (∀ ws : List Nat, (∀ i ∈ is, i ∈ ws) → L2.wipe σ' ws = L2.wipe σ ws) → R σ' H) → gPat.gNs is vs σ H R
  | [], [], vs, env, env', σ, R, h, e, d, k => by
    cases h
    unfold DVs at d
    exact ⟨d, k σ e fun _ _ => rfl⟩
  | i :: is, x :: xs, vs, env, env', σ, R, h, e, d, k => by
    unfold setVs at h
    unfold DVs at d
    obtain ⟨v, r, ev, d1, d2⟩ := d
    refine ⟨v, r, ev, ?_⟩
    show gPat.gNs is r (σ.set i (some v)) H R
    refine setVs_ok h (e.set i (w := .d x) d1) d2 fun σ' e' k' => k σ' e' fun ws hw => ?_
    rw [k' ws fun j hj => hw j (List.mem_cons_of_mem _ hj), wipe_set (hw i List.mem_cons_self)]
  | [], _ :: _, _, _, _, _, _, h, _, _, _ => by cases h
  | _ :: _, [], _, _, _, _, _, h, _, _, _ => by cases h
theorem setVs_len : ∀ {is : List Nat} {xs : List D} {env env' : Ev}, setVs env is xs = some env' → is.length = xs.length
  | [], [], _, _, _ => rfl
  | i :: is, x :: xs, env, env', h => by unfold setVs at h; rw [List.length_cons, List.length_cons, setVs_len h]
  | [], _ :: _, _, _, h => by cases h
  | _ :: _, [], _, _, h => by cases h
theorem pat_ok {p : Pa} {w : W} {v : V} {env' : Ev} {R : L2.St → Hp → Prop} (h : patV env p w = some env') (e : EnvOk K H O m env σ) (hv : WV K H O m w v)
    (k : ∀ σ', EnvOk K H O m env' σ' → (∀ ws : List Nat, (∀ i ∈ paSl p, i ∈ ws) → L2.wipe σ' ws = L2.wipe σ ws) → R σ' H) : gPat K p v σ H R := by
  cases p with
  | v i =>
    cases h
    exact k _ (e.set i hv) fun ws hw => wipe_set (hw i List.mem_cons_self)
  | t is =>
    unfold patV at h
    split at h
    · rename_i hh; cases hh
    · rename_i is' xs h1
      cases h1
      unfold WV DV at hv
      obtain ⟨a, vs, ev, q, hs⟩ := hv
      exact ⟨a, vs, ev, q, by rw [← hs.length, setVs_len h], setVs_ok h e hs k⟩
    · cases h
/-! ### the list that a comprehension makes, put away -/
theorem DV.del {p : Addr} {us : List V} {B B' : List Addr} (hp : H p = some (.lst us)) (hb : p ∈ B) (hB : ∀ b ∈ B', b ∈ B) {x : D} {v : V} (h : DV K H B x v) : DV K (L2.del H p) B' x v := by
  refine DV.map (fun a o q n => ?_) (fun a vs nb q => ⟨fun z => nb (hB a z), ?_⟩) x v h
  · rw [L2.del_ne (fun z => by rw [z, hp] at q; cases q; exact n trivial)]; exact q
  · rw [L2.del_ne (fun z => nb (by rw [z]; exact hb))]; exact q
theorem WV.del {p : Addr} {us : List V} (hp : H p = some (.lst us)) {w : W} {v : V} (h : WV K H (O ++ [p]) m w v) : WV K (L2.del H p) O m w v := by
  cases w with
  | ref i => exact h
  | d x =>
    refine DV.del hp (List.mem_append_left _ (List.mem_append_right _ (List.mem_singleton.mpr rfl))) (fun b hb => ?_) h
    rcases List.mem_append.mp hb with hb | hb
    · exact List.mem_append_left _ (List.mem_append_left _ hb)
    · exact List.mem_append_right _ hb
theorem WVs.del {p : Addr} {us : List V} (hp : H p = some (.lst us)) : ∀ {ws : List W} {vs : List V}, WVs K H (O ++ [p]) m ws vs → WVs K (L2.del H p) O m ws vs
  | [], _, h => h
  | _ :: _, _, ⟨v, r, e, h1, h2⟩ => ⟨v, r, e, WV.del hp h1, WVs.del hp h2⟩
theorem Rep.del {p : Addr} {us : List V} (hp : H p = some (.lst us)) (no : p ∉ O) (r : Rep K H (O ++ [p]) m st) : Rep K (L2.del H p) O m st := by
  have nm : ∀ a ∈ m, a ≠ p := fun a ha z => r.dj a ha (by rw [z]; exact List.mem_append_right _ (List.mem_singleton.mpr rfl))
  refine ⟨r.len, r.nd, fun a ha z => r.dj a ha (List.mem_append_left _ z), fun a ha => ?_, fun i a o h1 h2 => ?_⟩
  · rw [L2.del_ne (fun z => no (by rw [← z]; exact ha))]
    exact r.ol a (List.mem_append_left _ ha)
  · have q := r.ob i a o h1 h2
    cases o with
    | lst ws =>
      obtain ⟨vs, q1, q2⟩ := q
      exact ⟨vs, by rw [L2.del_ne (nm a (List.mem_of_getElem? h1))]; exact q1, WVs.del hp q2⟩
    | dct _ => exact q
    | ins c ks ws =>
      obtain ⟨dx, vs, q1, hl, q2⟩ := q
      exact ⟨dx, vs, by rw [L2.del_ne (nm a (List.mem_of_getElem? h1))]; exact q1, hl, WVs.del hp q2⟩
theorem Rep.shut {p : Addr} {us : List V} (hp : H p = none) (r : Rep K H O m st) : Rep K (upd H p (.lst us)) (O ++ [p]) m st := by
  have l : Later H O m (upd H p (.lst us)) (O ++ [p]) m := ⟨fun a o _ q => by rw [upd_ne (ne_of_none q hp)]; exact q, fun b hb => by
    rcases List.mem_append.mp hb with hb | hb
    · rcases List.mem_append.mp hb with hb | hb
      · exact .inl (List.mem_append_left _ hb)
      · rw [List.mem_singleton.mp hb]; exact .inr hp
    · exact .inl (List.mem_append_right _ hb), ⟨[], by simp⟩⟩
  have np : ∀ a ∈ m, a ≠ p := fun a ha z => by
    obtain ⟨o, h, _⟩ := r.there ha
    rw [z, hp] at h; cases h
  refine ⟨r.len, r.nd, fun a ha z => ?_, fun a ha => ?_, fun i a o h1 h2 => ?_⟩
  · rcases List.mem_append.mp z with z | z
    · exact r.dj a ha z
    · exact np a ha (List.mem_singleton.mp z)
  · rcases List.mem_append.mp ha with ha | ha
    · rw [upd_ne (fun z => r.ol a ha (by rw [z]; exact hp))]
      exact r.ol a ha
    · rw [List.mem_singleton.mp ha, upd_same]
      exact (fun z => nomatch z)
  · have q := r.ob i a o h1 h2
    cases o with
    | lst ws =>
      obtain ⟨vs, q1, q2⟩ := q
      exact ⟨vs, by rw [upd_ne (np a (List.mem_of_getElem? h1))]; exact q1, WVs.later r.mut l q2⟩
    | dct _ => exact q
    | ins c ks ws =>
      obtain ⟨dx, vs, q1, hl, q2⟩ := q
      exact ⟨dx, vs, by rw [upd_ne (np a (List.mem_of_getElem? h1))]; exact q1, hl, WVs.later r.mut l q2⟩
end
/-- what a turn's reckoning promises: an element, or none -/
def PostB (K : PySem.W.Frag) (O : List Addr) (r : R (Option W)) (H : Hp) (m : List Addr) (N1 : V → Hp → Prop) (N0 : Hp → Prop) : Prop := match r with
  | .ok (some w) st' => ∀ H' m' y, Ext H m H' m' → Rep K H' O m' st' → WV K H' O m' w y → N1 y H'
  | .ok none st' => ∀ H' m', Ext H m H' m' → Rep K H' O m' st' → N0 H'
  | _ => False
/-- test and element by their readings -/
def BodyOk (K : PySem.W.Frag) (tt : TT) (te : TE) (body : Ev → Sto → R (Option W)) : Prop :=
  ∀ (σ : L2.St) (H : Hp) (O m : List Addr) (st : Sto) (env : Ev) (N1 : V → Hp → Prop) (N0 : Hp → Prop), Rep K H O m st → EnvOk K H O m env σ → PostB K O (body env st) H m N1 N0 →
    tt σ H fun b H3 => if b = true then te σ H3 N1 else N0 H3
abbrev WF : WX := fun _ _ _ _ => False
/-- one turn's state: the list so far at p, all else as the evaluator has it -/
def CompSt (K : PySem.W.Frag) (H1 : Hp) (O m1 : List Addr) (p : Addr) (H : Hp) (go : List W → Sto → Hp → List Addr → Prop) : Prop :=
  ∃ G m st acc accV, H = upd G p (.lst accV) ∧ G p = none ∧ Ext H1 m1 G m ∧ Rep K G O m st ∧ WVs K G O m acc accV ∧ go acc st G m
section
variable {K : PySem.W.Frag} {er : Er} {Wx : WX} {O : List Addr} {σ : L2.St} {H1 : Hp} {m1 : List Addr} {st1 : Sto} {env : Ev}
theorem wipe_wipe (σ : L2.St) (vs : List Nat) : L2.wipe (L2.wipe σ vs) vs = L2.wipe σ vs := by
  have key : ∀ (us : List Nat), (∀ i ∈ us, i ∈ vs) → L2.wipe (L2.wipe σ us) vs = L2.wipe σ vs := by
    intro us
    induction us with
    | nil => intro _; rfl
    | cons u us ih =>
      intro h
      show L2.wipe ((L2.wipe σ us).set u none) vs = _
      rw [wipe_set (h u List.mem_cons_self), ih fun i hi => h i (List.mem_cons_of_mem _ hi)]
  exact key vs fun _ h => h
/-- one turn of a comprehension -/
theorem comp_turn {tt : TT} {te : TE} {body : Ev → Sto → R (Option W)} (hb : BodyOk K tt te body) {p : Pa} {own : List Nat} (hp : ∀ i ∈ paSl p, i ∈ own) (rp1 : Rep K H1 O m1 st1) (en : EnvOk K H1 O m1 env σ) {D : Addr} (hD : H1 D = none)
    {H G : Hp} {m : List Addr} {st : Sto} {acc : List W} {accV : List V} {env' : Ev} {x : V} {w : W} {next : List W → Sto → Hp → List Addr → Prop}
    (eH : H = upd G D (.lst accV)) (gD : G D = none) (eG : Ext H1 m1 G m) (rG : Rep K G O m st) (hacc : WVs K G O m acc accV) (hw : WV K H (O ++ [D]) m w x) (hpat : patV (wipeE env own) p w = some env')
    (hstep : match body env' st with
      | .ok (some y) st' => acc.length < sizeLine ∧ ∀ G' m', Ext G m G' m' → Rep K G' O m' st' → next (acc ++ [y]) st' G' m'
      | .ok none st' => ∀ G' m', Ext G m G' m' → Rep K G' O m' st' → next acc st' G' m'
      | _ => False) :
    gPat K p x (L2.wipe σ own) H fun σ2 H2 => L2.wipe σ2 own = L2.wipe σ own ∧ tt σ2 H2 fun b H3 =>
      if b = true then te σ2 H3 fun y H4 => ∃ acc, H4 D = some (.lst acc) ∧ acc.length < sizeLine ∧ CompSt K H1 O m1 D (upd H4 D (.lst (acc ++ [y]))) next else CompSt K H1 O m1 D H3 next := by
  have rH : Rep K H (O ++ [D]) m st := by rw [eH]; exact Rep.shut gD rG
  have lat : Later H1 O m1 H (O ++ [D]) m := by
    refine ⟨fun a o na q => ?_, fun b hb => ?_, let ⟨ms, e1, _⟩ := eG.more; ⟨ms, e1⟩⟩
    · rw [eH, upd_ne (ne_of_none (eG.keep a o na q) gD)]
      exact eG.keep a o na q
    · rcases List.mem_append.mp hb with hb | hb
      · rcases List.mem_append.mp hb with hb | hb
        · exact .inl (List.mem_append_left _ hb)
        · rw [List.mem_singleton.mp hb]; exact .inr hD
      · exact eG.blk (O := O) b (List.mem_append_right _ hb)
  have enH : EnvOk K H (O ++ [D]) m env σ := ⟨en.len, fun i w q => let ⟨v, h1, h2⟩ := en.at_ i w q; ⟨v, h1, WV.later rp1.mut lat h2⟩⟩
  have nD : D ∉ O := fun z => rp1.ol D z hD
  refine pat_ok hpat (enH.wipe own) hw fun σ2 e2 k2 => ⟨by rw [k2 own hp]; exact wipe_wipe σ own, hb σ2 H (O ++ [D]) m st env' _ _ rH e2 ?_⟩
  have back : ∀ {H4 : Hp} {m4 : List Addr} {st4 : Sto}, Ext H m H4 m4 → Rep K H4 (O ++ [D]) m4 st4 → H4 D = some (.lst accV) ∧ Ext G m (L2.del H4 D) m4 ∧ Rep K (L2.del H4 D) O m4 st4 := by
    intro H4 m4 st4 e r
    have nDm : D ∉ m := fun z => by
      obtain ⟨o, h, _⟩ := rG.there z
      rw [gD] at h; cases h
    have h4 : H4 D = some (.lst accV) := e.keep D _ nDm (by rw [eH, upd_same])
    refine ⟨h4, ⟨?_, fun a o na q => ?_⟩, Rep.del h4 nD r⟩
    · obtain ⟨ms, e1, f1⟩ := e.more
      refine ⟨ms, e1, fun a ha => ?_⟩
      have q := f1 a ha
      rw [eH] at q
      by_cases hz : a = D
      · rw [hz]; exact gD
      · rw [upd_ne hz] at q; exact q
    · have nz : a ≠ D := ne_of_none q gD
      rw [L2.del_ne nz]
      exact e.keep a o na (by rw [eH, upd_ne nz]; exact q)
  cases hbd : body env' st with
  | bad => rw [hbd] at hstep; exact hstep.elim
  | exc c q s' => rw [hbd] at hstep; exact hstep.elim
  | ok o st' =>
    rw [hbd] at hstep
    cases o with
    | some y =>
      intro H4 m4 yv e r hy
      obtain ⟨h4, e5, r5⟩ := back e r
      refine ⟨accV, h4, by rw [← hacc.length]; exact hstep.1, L2.del H4 D, m4, st', acc ++ [y], accV ++ [yv], ?_, L2.del_same, eG.trans e5 rG, r5, (WVs.ext rG.mut e5 hacc).append (one_wvs (WV.del h4 hy)), hstep.2 _ _ e5 r5⟩
      funext b
      by_cases hz : b = D
      · rw [hz, upd_same, upd_same]
      · rw [upd_ne hz, upd_ne hz, L2.del_ne hz]
    | none =>
      intro H4 m4 e r
      obtain ⟨h4, e5, r5⟩ := back e r
      refine ⟨L2.del H4 D, m4, st', acc, accV, ?_, L2.del_same, eG.trans e5 rG, r5, WVs.ext rG.mut e5 hacc, hstep _ _ e5 r5⟩
      funext b
      by_cases hz : b = D
      · rw [hz, upd_same, h4]
      · rw [upd_ne hz, L2.del_ne hz]
/-- a comprehension, as the evaluator has it -/
def compW (ri : Ev → Sto → R (List W ⊕ Nat)) (body : Ev → Sto → R (Option W)) (p : Pa) (own : List Nat) (mm : Bool) : Ev → Sto → R W := fun env st => (ri env st).bind fun its st => (match its with
  | .inl ws => compR (fun w st => match patV (wipeE env own) p w with
      | some env' => body env' st
      | none => .bad) ws [] st
  | .inr i => compRef (fun w st => match patV (wipeE env own) p w with
      | some env' => body env' st
      | none => .bad) i ((lenO st (.ref i)).getD 0) 0 [] st).bind fun ws st => newL mm ws st
theorem comp_ok {tt : TT} {te : TE} {ri : Ev → Sto → R (List W ⊕ Nat)} {body : Ev → Sto → R (Option W)} (hb : BodyOk K tt te body) {p : Pa} {own : List Nat} {mm : Bool} (hp : ∀ i ∈ paSl p, i ∈ own) {H : Hp} {Q : VK}
    (h : tE K er Wx (compW ri body p own mm) σ H Q) : tLc (tI K er Wx ri) (gPat K p) tt te own σ H Q := by
  obtain ⟨O, m, st, env, rp, en, h⟩ := h
  refine ⟨O, m, st, env, rp, en, ?_⟩
  unfold compW at h
  cases hr : ri env st with
  | bad => simp only [hr] at h; exact h.elim
  | exc c q s' => simp only [hr] at h; exact h
  | ok its st1 =>
    simp only [hr, R.bind_ok] at h
    cases its with
    | inl ws =>
      intro H1 m1 J e1 r1 wk D hD
      have en1 := en.ext rp.mut e1
      have h1 := PostG.fwd h e1 r1
      clear h
      refine ⟨fun i mt H => mt = ws.length - i ∧ i ≤ ws.length ∧ CompSt K H1 O m1 D H fun acc st G m => PostG K er Wx O (relW K O) ((compR (fun w st => match patV (wipeE env own) p w with
          | some env' => body env' st
          | none => .bad) (ws.drop i) acc st).bind fun ws st => newL mm ws st) σ G m Q, ⟨ws.length, by simp, Nat.zero_le _, H1, m1, st1, [], [], rfl, hD, Ext.refl, r1, rfl, h1⟩, ?_⟩
      rintro i mt H ⟨rfl, hi, hs⟩
      obtain ⟨G, m2, st2, acc, accV, eH, gD, eG, rG, hacc, hgo⟩ := id hs
      have lat : Later H1 O m1 H (O ++ [D]) m2 := by
        refine ⟨fun a o na q => ?_, fun b hb => ?_, let ⟨ms, e1, _⟩ := eG.more; ⟨ms, e1⟩⟩
        · rw [eH, upd_ne (ne_of_none (eG.keep a o na q) gD)]
          exact eG.keep a o na q
        · rcases List.mem_append.mp hb with hb | hb
          · rcases List.mem_append.mp hb with hb | hb
            · exact .inl (List.mem_append_left _ hb)
            · rw [List.mem_singleton.mp hb]; exact .inr hD
          · exact eG.blk (O := O) b (List.mem_append_right _ hb)
      have wki := wk H (O ++ [D]) m2 lat i
      by_cases hlt : i < ws.length
      · obtain ⟨hgo', hy⟩ := wki.1 hlt
        refine .inr ⟨hgo', fun H' => CompSt K H1 O m1 D H' fun acc st G m => PostG K er Wx O (relW K O) ((compR (fun w st => match patV (wipeE env own) p w with
          | some env' => body env' st
          | none => .bad) (ws.drop (i + 1)) acc st).bind fun ws st => newL mm ws st) σ G m Q, fun H' q => ⟨ws.length - (i + 1), by omega, rfl, hlt, q⟩, fun x H' y => ?_⟩
        obtain ⟨rfl, w, hw, hx⟩ := hy x H' y
        have ed : ws.drop i = w :: ws.drop (i + 1) := by
          rw [List.drop_eq_getElem_cons hlt]
          rw [List.getElem?_eq_getElem hlt] at hw
          cases hw; rfl
        have go := hgo
        rw [ed] at go
        unfold compR at go
        cases hpat : patV (wipeE env own) p w with
        | none => simp only [hpat] at go; exact go.elim
        | some env' =>
          simp only [hpat] at go
          refine comp_turn hb hp r1 en1 hD eH gD eG rG hacc hx hpat ?_
          cases hbd : body env' st2 with
          | bad => rw [hbd] at go; exact go.elim
          | exc c q s' => rw [hbd] at go; exact go.elim
          | ok o st' =>
            rw [hbd] at go
            cases o with
            | some y =>
              dsimp only at go
              by_cases hz : acc.length < sizeLine
              · rw [if_pos hz] at go
                exact ⟨hz, fun G' m' e r => PostG.fwd go e r⟩
              · rw [if_neg hz] at go; exact go.elim
            | none => exact fun G' m' e r => PostG.fwd go e r
      · have e : i = ws.length := by omega
        subst e
        refine .inl ⟨wki.2 (Nat.le_refl _), ?_⟩
        rw [List.drop_length] at hgo
        have q := (newL_ok rG hacc hgo).2 D gD
        rw [eH]; exact q
    | inr ix =>
      intro H1 m1 a e1 r1 ha D hD
      have en1 := en.ext rp.mut e1
      have h1 := PostG.fwd h e1 r1
      clear h
      dsimp only at h1
      generalize hn0 : (lenO st1 (W.ref ix)).getD 0 = n0 at h1
      refine ⟨fun i mt H => mt = n0 - i ∧ i ≤ n0 ∧ CompSt K H1 O m1 D H fun acc st G m => PostG K er Wx O (relW K O) ((compRef (fun w st => match patV (wipeE env own) p w with
          | some env' => body env' st
          | none => .bad) ix (n0 - i) i acc st).bind fun ws st => newL mm ws st) σ G m Q, ⟨n0, by simp, Nat.zero_le _, H1, m1, st1, [], [], rfl, hD, Ext.refl, r1, rfl, h1⟩, ?_⟩
      have naD : a ≠ D := fun z => by
        obtain ⟨o, h, _⟩ := r1.there (List.mem_of_getElem? ha)
        rw [z, hD] at h; cases h
      -- the list at a, at any turn
      have lst : ∀ {G : Hp} {m2 : List Addr} {st2 : Sto} {acc : List W} {i : Nat}, Ext H1 m1 G m2 → Rep K G O m2 st2 → PostG K er Wx O (relW K O) ((compRef (fun w st => match patV (wipeE env own) p w with
          | some env' => body env' st
          | none => .bad) ix (n0 - i) i acc st2).bind fun ws st => newL mm ws st) σ G m2 Q → i ≤ n0 → ∃ ws vs, st2[ix]? = some (.lst ws) ∧ ws.length = n0 ∧ G a = some (.lst vs) ∧ WVs K G O m2 ws vs := by
        intro G m2 st2 acc i eG rG hgo hi
        have hm2 : m2[ix]? = some a := by
          obtain ⟨ms, e, _⟩ := eG.more
          rw [e, List.getElem?_append_left (List.getElem?_eq_some_iff.mp ha).1]; exact ha
        unfold compRef at hgo
        cases hs : st2[ix]? with
        | none => simp only [hs] at hgo; exact hgo.elim
        | some o =>
          have ob := rG.ob ix a o hm2 hs
          cases o with
          | dct _ => exact ob.elim
          | ins _ _ _ => simp only [hs] at hgo; exact hgo.elim
          | lst ws =>
            simp only [hs] at hgo
            by_cases hl : ws.length = i + (n0 - i)
            · obtain ⟨vs, q1, q2⟩ := ob
              exact ⟨ws, vs, rfl, by omega, q1, q2⟩
            · rw [if_neg hl] at hgo; exact hgo.elim
      rintro i mt H ⟨rfl, hi, hs⟩
      obtain ⟨G, m2, st2, acc, accV, eH, gD, eG, rG, hacc, hgo⟩ := id hs
      obtain ⟨ws, vs, hst, hlen, ga, hwv⟩ := lst eG rG hgo hi
      have hHa : H a = some (.lst vs) := by rw [eH, upd_ne naD]; exact ga
      by_cases hlt : i < n0
      · have hiv : i < vs.length := by rw [← hwv.length, hlen]; exact hlt
        refine .inr ⟨⟨vs, vs[i], SqL.of hHa, List.getElem?_eq_getElem hiv⟩, fun H' => CompSt K H1 O m1 D H' fun acc st G m => PostG K er Wx O (relW K O) ((compRef (fun w st => match patV (wipeE env own) p w with
          | some env' => body env' st
          | none => .bad) ix (n0 - (i + 1)) (i + 1) acc st).bind fun ws st => newL mm ws st) σ G m Q, fun H' q => ⟨n0 - (i + 1), by omega, rfl, hlt, q⟩, fun x H' y => ?_⟩
        obtain ⟨rfl, hy⟩ := y
        have hxv := hy vs (SqL.of hHa)
        have hiw : i < ws.length := by rw [hlen]; exact hlt
        have lat : Later G O m2 H' (O ++ [D]) m2 := by
          refine ⟨fun a o na q => ?_, fun b hb => ?_, ⟨[], by simp⟩⟩
          · rw [eH, upd_ne (ne_of_none q gD)]; exact q
          · rcases List.mem_append.mp hb with hb | hb
            · rcases List.mem_append.mp hb with hb | hb
              · exact .inl (List.mem_append_left _ hb)
              · rw [List.mem_singleton.mp hb]; exact .inr gD
            · exact .inl (List.mem_append_right _ hb)
        have hx : WV K H' (O ++ [D]) m2 ws[i] x := by
          obtain ⟨v0, hv0, d0⟩ := hwv.get (List.getElem?_eq_getElem hiw)
          rw [hxv] at hv0; cases hv0
          exact WV.later rG.mut lat d0
        have en2 : n0 - i = (n0 - (i + 1)) + 1 := by omega
        have go := hgo
        rw [en2] at go
        unfold compRef at go
        simp only [hst] at go
        rw [if_pos (by omega)] at go
        simp only [List.getElem?_eq_getElem hiw] at go
        cases hpat : patV (wipeE env own) p ws[i] with
        | none => simp only [hpat] at go; exact go.elim
        | some env' =>
          simp only [hpat] at go
          refine comp_turn hb hp r1 en1 hD eH gD eG rG hacc hx hpat ?_
          cases hbd : body env' st2 with
          | bad => rw [hbd] at go; exact go.elim
          | exc c q s' => rw [hbd] at go; exact go.elim
          | ok o st' =>
            rw [hbd] at go
            cases o with
            | some y =>
              dsimp only at go
              by_cases hz : acc.length < sizeLine
              · rw [if_pos hz] at go
                exact ⟨hz, fun G' m' e r => PostG.fwd go e r⟩
              · rw [if_neg hz] at go; exact go.elim
            | none => exact fun G' m' e r => PostG.fwd go e r
      · have e : i = n0 := by omega
        subst e
        refine .inl ⟨⟨vs, SqL.of hHa, by rw [← hwv.length, hlen]; exact Nat.le_refl _⟩, ?_⟩
        unfold compRef at hgo
        simp only [hst, Nat.sub_self] at hgo
        rw [if_pos (by omega)] at hgo
        have q := (newL_ok rG hacc hgo).2 D gD
        rw [eH]; exact q
end
end LL

set_option Elab.async false
set_option linter.all false
set_option maxRecDepth 100000
set_option maxHeartbeats 4000000
set_option autoImplicit false
/-! LI: the look that holds a text's expression against a core expression; expressions keep what the evaluator says. -/
namespace LL
open PySem PySem.Spec PyProof.Rows L2
/-- the text's names of defs, constants, error classes -/
structure Nam where
  fn : Nat → Str
  cn : Nat → Str
  er : Nat → Str
  /-- which built-in functions the text's names may be used for -/
  bi : Bi → Bool
  /-- whether there are own error classes; which of them are made; which catch only errors that keep what they are made with under one name -/
  ex : Bool
  mkr : Nat → Bool
  lf : Nat → Bool
  /-- the name under which an error class keeps what it is made with -/
  an : Nat → Str
  /-- the class whose __init__ the def is -/
  cl : Nat → Option Str
  /-- error classes that isinstance asks of -/
  ky : Str → Bool
def lookIs (sc : Scope) (x : Str) (k : NameKind) : Bool := decide (sc.names.lookup x = some k)
def visB (sc : Scope) (x : Str) : Bool := lookIs sc x .local || lookIs sc x .cell || lookIs sc x .free
def glB (sc : Scope) (x : Str) : Bool := lookIs sc x .globalImplicit
def okName (x : Str) : Bool := !(x == ("__debug__" : Str)) && !(x == ("__classdict__" : Str))
def noStar : Expr → Bool
  | .Starred _ _ => false
  | _ => true
def noSet : Expr → Bool
  | .Set _ _ _ => false
  | _ => true
def noSlice : Expr → Bool
  | .Slice _ _ _ _ => false
  | _ => true
def tyN : Ty → Str
  | .int => "int" | .bool => "bool" | .str => "str" | .tup => "tuple" | .lst => "list" | .own _ => ""
def tyS : Ty → String
  | .int => "int" | .bool => "bool" | .str => "str" | .tup => "tuple" | .lst => "list" | .own _ => ""
def tyB : Ty → Bool
  | .own _ => false
  | _ => true
def noSuper : Expr → Bool
  | .Call (.Name x _) [] [] _ => x != ("super" : Str)
  | _ => true
def meAr : Me → Nat
  | .pop => 0 | .insert => 2 | _ => 1
def litIs : CE → Str → Bool
  | .lit (.str t), s => decide (t = s)
  | _, _ => false
def isBO : Expr → Bool
  | .BoolOp _ _ _ => true
  | _ => false
/-- a target of a loop, an assignment: the names of these slots, each a local -/
def nmB (cl : Bool) (N : List Str) (sc : Scope) (i : Nat) (e : Expr) : Bool := match e with
  | .Name x _ => decide (N[i]? = some x) && (lookIs sc x .local || (cl && lookIs sc x .cell))
  | _ => false
def nmsB (cl : Bool) (N : List Str) (sc : Scope) : List Nat → List Expr → Bool
  | [], [] => true
  | i :: is, e :: es => nmB cl N sc i e && nmsB cl N sc is es
  | _, _ => false
def paB (cl : Bool) (N : List Str) (sc : Scope) : Pa → Expr → Bool
  | .v i, e => nmB cl N sc i e
  | .t is, .Tuple es _ _ => nmsB cl N sc is es
  | .t _, _ => false
def ownP (N : List Str) (own : List Nat) : List (Str × Nat) := own.map fun i => (N.getD i "", i)
section
variable (nm : Nam) (N : List Str)
mutual
def chkE : CE → Scope → Expr → Bool
  | .var i, sc, e => (match e with
    | .Name x _ => decide (N[i]? = some x) && visB sc x && okName x
    | _ => false)
  | .gc k, sc, e => (match e with
    | .Name x _ => decide (x = nm.cn k) && glB sc x && okName x
    | _ => false)
  | .lit c, _, e => (match e with
    | .Constant d _ _ => decide (d = c)
    | _ => false)
  | .tup es, sc, e => (match e with
    | .Tuple fs _ _ => chkEs es sc fs
    | _ => false)
  | .lst _ es, sc, e => (match e with
    | .List fs _ => chkEs es sc fs
    | _ => false)
  | .bin op _ a b, sc, e => (match e with
    | .BinOp x o y _ => decide (o = op) && chkE a sc x && chkE b sc y
    | _ => false)
  | .neg a, sc, e => (match e with
    | .UnaryOp .USub x _ => chkE a sc x
    | _ => false)
  | .bnot a, sc, e => (match e with
    | .UnaryOp .Not x _ => chkE a sc x
    | _ => false)
  | .conj a b, sc, e => (match e with
    | .BoolOp .And [x, y] _ => chkE a sc x && chkE b sc y
    | .BoolOp .And (x :: y :: z :: r) pos => chkE a sc x && chkE b sc (.BoolOp .And (y :: z :: r) pos)
    | _ => false)
  | .disj a b, sc, e => (match e with
    | .BoolOp .Or [x, y] _ => chkE a sc x && chkE b sc y
    | .BoolOp .Or (x :: y :: z :: r) pos => chkE a sc x && chkE b sc (.BoolOp .Or (y :: z :: r) pos)
    | _ => false)
  | .cmp op a b, sc, e => (match e with
    | .Compare x [o] [y] _ => decide (o = op) && noSet y && chkE a sc x && chkE b sc y
    | _ => false)
  | .chain op op' a b c, sc, e => (match e with
    | .Compare x [o, o'] [y, z] _ => decide (o = op) && decide (o' = op') && noSet z && chkE a sc x && chkE b sc y && chkE c sc z
    | _ => false)
  | .ifx c a b, sc, e => (match e with
    | .IfExp t x y _ => chkE c sc t && chkE a sc x && chkE b sc y
    | _ => false)
  | .ix a i, sc, e => (match e with
    | .Subscript x y _ => noSlice y && chkE a sc x && chkE i sc y
    | _ => false)
  | .sl _ a lo hi, sc, e => (match e with
    | .Subscript x (.Slice l h none _) _ => chkE a sc x && chkO lo sc l && chkO hi sc h
    | _ => false)
  | .call f _ es, sc, e => (match e with
    | .Call (.Name x _) (y :: ys) [] _ => decide (x = nm.fn f) && glB sc x && okName x && chkEs es sc (y :: ys) && (nm.cl f).isNone
    | _ => false)
  | .bi b _ es, sc, e => (match e with
    | .Call (.Name x _) (y :: ys) [] _ => decide (x = biN b) && nm.bi b && glB sc x && chkEs es sc (y :: ys)
    | _ => false)
  | .isi t a, sc, e => (match e with
    | .Call (.Name f _) [x, .Name c _] [] _ => decide (f = ("isinstance" : Str)) && glB sc f && decide (c = tyN t) && tyB t && glB sc c && noStar x && chkE a sc x
    | _ => false)
  | .meth m _ o es, sc, e => (match e with
    | .Call (.Attribute x n ap) ys [] cp => decide (n = meN m) && decide (ap.endLine = cp.line) && chkE o sc x && chkEs es sc ys && decide (ys.length = meAr m) && noSuper x
    | _ => false)
  | .comp _ elt p it own, sc, e => (match e with
    | .ListComp el [⟨tg, iter, [], 0⟩] scope _ => chkI it sc iter && blkC N sc scope (ownP N own) && paB false N (relS scope sc) p tg && (paSl p).all (own.contains ·) && chkE elt (relS scope sc) el && noSet iter
    | _ => false)
  | .compIf _ elt p it c own, sc, e => (match e with
    | .ListComp el [⟨tg, iter, [t], 0⟩] scope _ => chkI it sc iter && blkC N sc scope (ownP N own) && paB false N (relS scope sc) p tg && (paSl p).all (own.contains ·) && chkE elt (relS scope sc) el && chkE c (relS scope sc) t && noSet iter
    | _ => false)
  | .fstr es, sc, e => (match e with
    | .JoinedStr (x :: y :: r) _ => chkFs es sc (x :: y :: r)
    | _ => false)
  | .tix es a, sc, e => (match e with
    | .Call (.Attribute (.Tuple ys _ _) n ap) [y] [] cp => decide (n = ("index" : Str)) && decide (ap.endLine = cp.line) && noStar y && chkEs es sc ys && chkE a sc y
    | _ => false)
  | .un, _, _ => true
  | .mke c x f a, sc, e => (match e with
    | .Call (.Name y _) [z] [] _ => nm.ex && nm.mkr c && decide (y = nm.er c) && decide (x = nm.er c) && decide (f = nm.an c) && glB sc y && okName y && noStar z && chkE a sc z
    | _ => false)
  | .att f a, sc, e => (match e with
    | .Attribute z n _ => decide (n = f) && noSuper z && chkE a sc z
    | _ => false)
  | .isx y a, sc, e => (match e with
    | .Call (.Name g _) [z, .Name c _] [] _ => decide (g = ("isinstance" : Str)) && glB sc g && decide (c = y) && nm.ky y && glB sc c && okName c && noStar z && chkE a sc z
    | _ => false)
  | .new f x es, sc, e => (match e with
    | .Call (.Name y _) (z :: zs) [] _ => decide (nm.cl f = some x) && decide (y = x) && glB sc y && okName y && chkEs es sc (z :: zs)
    | _ => false)
  | .stt a, sc, e => (match e with
    | .Call (.Name x _) [y] [] _ => decide (x = ("str" : Str)) && nm.bi .str && glB sc x && noStar y && chkE a sc y
    | _ => false)
def chkEs : CEs → Scope → List Expr → Bool
  | .nil, _, es => (match es with
    | [] => true
    | _ => false)
  | .cons c cs, sc, es => (match es with
    | e :: es => noStar e && chkE c sc e && chkEs cs sc es
    | [] => false)
def chkFs : CEs → Scope → List Expr → Bool
  | .nil, _, es => (match es with
    | [] => true
    | _ => false)
  | .cons c cs, sc, es => (match es with
    | .FormattedValue e (-1) none _ :: es => chkE c sc e && chkFs cs sc es
    | .Constant (.str s) j p :: es => litIs c s && chkFs cs sc es
    | _ => false)
def chkO : CO → Scope → Option Expr → Bool
  | .no, _, o => (match o with
    | none => true
    | _ => false)
  | .yes c, sc, o => (match o with
    | some e => chkE c sc e
    | none => false)
def chkI : CI → Scope → Expr → Bool
  | .e c, sc, e => chkE c sc e
  | .rng1 a, sc, e => (match e with
    | .Call (.Name f _) [x] [] _ => decide (f = ("range" : Str)) && glB sc f && noStar x && chkE a sc x
    | _ => false)
  | .rng2 a b, sc, e => (match e with
    | .Call (.Name f _) [x, y] [] _ => decide (f = ("range" : Str)) && glB sc f && noStar x && noStar y && chkE a sc x && chkE b sc y
    | _ => false)
end
end
end LL

set_option Elab.async false
set_option linter.all false
set_option maxRecDepth 100000
set_option maxHeartbeats 4000000
set_option autoImplicit false
/-! LXa: own error classes, what is wanted of one. -/
namespace LL
open PySem PySem.Spec PyProof.Rows L2
/-- what __init__(self, v): self.f = v promises -/
def spI (K : PySem.W.Frag) (f : Str) : Sp := fun vs H Q _ => ∃ (a C : Addr) (v : V), vs = [.ref a, v] ∧ OexC K C ∧ PySem.W.findIn K (.ref C) f = some none ∧ H a = some (exo a C none) ∧
  ∀ dx, H dx = none → dx ≠ a → Q .non (upd (upd H dx (exd dx [(f, v)])) a (exo a C (some dx)))
/-- an error class: its name x, its attribute f -/
structure ExF (P : Program) (w : World) (K : PySem.W.Frag) (mg : Str → Option Value) (base : Heap) (C : Addr) (x f : Str) : Prop where
  gl : mg x = some (.ref C)
  ox : OexC K C
  no : PySem.W.findIn K (.ref C) f = some none
  xf : XfC K C
  ini : ∃ fI fd y z, PySem.W.findIn K (.ref C) "__init__" = some (some (.ref fI)) ∧ PySem.W.typeIn K (.ref fI) = some (.type "function") ∧ FnOk P w K mg base (L2.CX P w) 1 fI fd [y, z] (spI K f) ∧ Binds K fd [y, z] []
end LL

set_option Elab.async false
set_option linter.all false
set_option maxRecDepth 100000
set_option maxHeartbeats 4000000
set_option autoImplicit false
/-! LJ: each kind of expression keeps what the evaluator says. -/
namespace LL
open PySem PySem.Spec PyProof.Rows L2
/-- where the def of number f stands: a global's, or the __init__ of a class -/
def AtF (nm : Nam) (K : PySem.W.Frag) (mg : Str → Option Value) (f : Nat) (fa : Addr) : Prop := match nm.cl f with
  | none => mg (nm.fn f) = some (.ref fa)
  | some x => mg x = some (.ref (He.ga K x)) ∧ Mk K (He.ga K x) fa
/-- own errors as values -/
structure LkX (nm : Nam) (T : Tab) (er : Er) (K : PySem.W.Frag) (mg : Str → Option Value) : Prop where
  ean : ∀ c, er.an c = nm.an c
  ega : ∀ c, er.ca c = He.ga K (nm.er c)
  xat : ∀ c f, T.xa c f = true → XfC K (He.ga K c) ∧ PySem.W.findIn K (.ref (He.ga K c)) f = some none
  xcl : ∀ y, nm.ky y = true → mg y = some (.ref (He.ga K y)) ∨ (y = ("ValueError" : Str) ∧ mg y = none)
  xis : ∀ c y b, T.isa c y = some b → ExcC K (He.ga K c) ∧ ((mg y = some (.ref (He.ga K y)) ∧ PySem.W.kitOne K (.ref (He.ga K c)) (.ref (He.ga K y)) = some b) ∨
    (y = ("ValueError" : Str) ∧ mg y = none ∧ PySem.W.kitOne K (.ref (He.ga K c)) (.type "ValueError") = some b))
  ekt : nm.ex = true → ∀ c h, nm.lf h = true → ExcC K (er.ca c) ∧ PySem.W.kitOne K (.ref (er.ca c)) (.ref (er.ca h)) = some (T.sub c h)
/-- what the head and the defs give -/
structure Lk (nm : Nam) (T : Tab) (er : Er) (k : Nat) (C : Cal) (P : Program) (w : World) (K : PySem.W.Frag) (mg : Str → Option Value) (base : Heap) : Prop where
  con : ∀ j x, T.cn j = some x → ∃ u v, mg (nm.cn j) = some u ∧ RelV v u ∧ ∀ H B, DV K H B x v
  blt : ∀ b, nm.bi b = true → b ≠ .gcd → mg (biN b) = none
  gcd : nm.bi .gcd = true → mg "gcd" = some (.builtin "math.gcd")
  isi : mg "isinstance" = none
  rng : mg "range" = none
  tys : ∀ t, tyB t = true → mg (tyN t) = none
  fns : ∀ f fd, T.fn f = some fd → ∃ fa fdat ps, AtF nm K mg f fa ∧ PySem.W.keepIn K (.ref fa) = true ∧ FnOk P w K mg base (L2.CX P w) (k + 2) fa fdat ps (spC K er C f) ∧ Binds K fdat ps []
  egl : nm.ex = true → ∀ c, mg (nm.er c) = some (.ref (er.ca c))
  exm : nm.ex = true → ∀ c h, PySem.W.exmOne K (.ref (er.ca c)) (.ref (er.ca h)) = some (T.sub c h)
  emk : nm.ex = true → ∀ c, nm.mkr c = true → ExF P w K mg base (er.ca c) (nm.er c) (er.an c)
  elf : nm.ex = true → ∀ c h, T.sub c h = true → nm.lf h = true → XfC K (er.ca c) ∧ PySem.W.findIn K (.ref (er.ca c)) (er.an h) = some none ∧ er.an c = er.an h
  xs : LkX nm T er K mg
structure Gd (nm : Nam) (T : Tab) (er : Er) (k : Nat) (C : Cal) (X : Cx) : Prop where
  calm : X.calm = true
  nd : X.N.Nodup
  room : Room (k + 3) X.A
  lk : Lk nm T er k C X.prog X.w X.K X.mg X.base
  grd : T.grd = true → X.A.guards = some []
section
variable {nm : Nam} {T : Tab} {er : Er} {k : Nat} {C : Cal} {X : Cx} {Wx : WX}
/-- expression, test, test of an and | or -/
structure PX (X : Cx) (er : Er) (Wx : WX) (e : Expr) (r : Ev → Sto → R W) : Prop where
  pe : PE X e (tE X.K er Wx r)
  pt : PT X e (tT X.K er Wx fun env st => (r env st).tst)
  pw : isBO e = true → PW X e (tT X.K er Wx fun env st => (r env st).tst)
theorem okN {x : Str} (h : okName x = true) : (x == ("__debug__" : Str)) = false ∧ (x == ("__classdict__" : Str)) = false := by
  unfold okName at h
  simpa using h
theorem is_of {sc : Scope} {x : Str} {q : NameKind} (h : lookIs sc x q = true) : sc.names.lookup x = some q := of_decide_eq_true h
theorem vis_of {sc : Scope} {x : Str} (h : visB sc x = true) : Vis sc x := by
  unfold visB at h
  simp only [Bool.or_eq_true] at h
  rcases h with (h | h) | h
  · exact .inl (is_of h)
  · exact .inr (.inl (is_of h))
  · exact .inr (.inr (is_of h))
/-- a test by its value -/
theorem pt_of {e : Expr} {r : Ev → Sto → R W} (h : PE X e (tE X.K er Wx r)) (he : ∀ whole, isTrue e X.env whole = (do let v ← whole; standAt e.pos; holding [v] (truthy v))) : PT X e (tT X.K er Wx fun env st => (r env st).tst) := by
  refine PT.imp (pt_truth h he) fun σ H Q q => ?_
  obtain ⟨O, m, st, env, rp, en, q⟩ := q
  refine tE_mk rp en ((seqG (rel := relW X.K O) rp en q).imp fun x H1 ⟨m1, st1, a, e1, r1, _, rl, q1⟩ => ?_)
  obtain ⟨b, eb, q1⟩ := PostG.ofO q1
  exact ⟨b, truth_ok r1 rl eb, PostG.here q1 r1 rfl⟩
theorem px_of {e : Expr} {r : Ev → Sto → R W} (h : PE X e (tE X.K er Wx r)) (he : ∀ whole, isTrue e X.env whole = (do let v ← whole; standAt e.pos; holding [v] (truthy v))) (hb : isBO e = false) : PX X er Wx e r := ⟨h, pt_of h he, fun z => by rw [hb] at z; cases z⟩
theorem env_get {K : PySem.W.Frag} {O m : List Addr} {H : Hp} {env : Ev} {σ : L2.St} (en : EnvOk K H O m env σ) {i : Nat} {w : W} (h : env[i]? = some (some w)) : ∃ v, σ[i]? = some (some v) ∧ WV K H O m w v := en.at_ i w h
theorem l_var {i : Nat} {x : Str} {pos : Pos} (h1 : X.N[i]? = some x) (h2 : visB X.env.scope x = true) (h3 : okName x = true) : PX X er Wx (.Name x pos) (ev T C (.var i)) := by
  refine px_of (PE.imp (pe_var h1 (vis_of h2) (okN h3).1 (okN h3).2) fun σ H Q q => ?_) (fun _ => rfl) rfl
  obtain ⟨O, m, st, env, rp, en, q⟩ := q
  unfold ev at q
  split at q
  · rename_i w e
    obtain ⟨v, hv, d⟩ := en.at_ i w e
    exact ⟨v, hv, PostG.here q rp d⟩
  · exact q.elim
theorem l_gc {j : Nat} {x : Str} {pos : Pos} (g : Gd nm T er k C X) (h1 : x = nm.cn j) (h2 : glB X.env.scope x = true) (h3 : okName x = true) : PX X er Wx (.Name x pos) (ev T C (.gc j)) := by
  have hp : PE X (.Name x pos) (tE X.K er Wx (ev T C (.gc j))) := by
    cases hc : T.cn j with
    | none =>
      refine ⟨fun pins s σ H Q I q => ?_⟩
      obtain ⟨O, m, st, env, rp, en, q⟩ := q
      unfold ev at q
      rw [hc] at q
      exact q.elim
    | some d =>
      obtain ⟨u, v, hm, r, hd⟩ := g.lk.con j d hc
      refine PE.imp (pe_glob (v := v) (show X.env.kindOf x = some .globalImplicit from is_of h2) (by rw [h1]; exact hm) r (okN h3).1) fun σ H Q q => ?_
      obtain ⟨O, m, st, env, rp, en, q⟩ := q
      unfold ev at q
      rw [hc] at q
      exact PostG.here (y := v) q rp (hd H (O ++ m))
  exact px_of hp (fun _ => rfl) rfl
theorem l_lit {c : Const} {j : Nat} {pos : Pos} : PX X er Wx (.Constant c j pos) (ev T C (.lit c)) := by
  have nev : litW c = none → PE X (.Constant c j pos) (tE X.K er Wx (ev T C (.lit c))) := fun e => ⟨fun pins s σ H Q I q => by
    obtain ⟨O, m, st, env, rp, en, q⟩ := q
    unfold ev at q
    rw [e] at q
    exact q.elim⟩
  have yes : ∀ (w : W) (v : V), litW c = some w → (∀ H O m, WV X.K H O m w v) → PE X (.Constant c j pos) (tC v) → PE X (.Constant c j pos) (tE X.K er Wx (ev T C (.lit c))) := fun w v e hv h => PE.imp h fun σ H Q q => by
    obtain ⟨O, m, st, env, rp, en, q⟩ := q
    unfold ev at q
    rw [e] at q
    exact PostG.here (y := v) q rp (hv H O m)
  refine px_of ?_ (fun _ => rfl) rfl
  cases c with
  | none => exact yes _ .non rfl (fun _ _ _ => rfl) pe_non
  | bool b => exact yes _ (.bl b) rfl (fun _ _ _ => rfl) pe_bl
  | int i => exact yes _ (.int i) rfl (fun _ _ _ => rfl) pe_int
  | str s => exact yes _ (.str s) rfl (fun _ _ _ => rfl) pe_str
  | float _ => exact nev rfl
  | complex _ _ => exact nev rfl
  | bytes _ => exact nev rfl
  | ellipsis => exact nev rfl
variable {a b c e e' : Expr} {ra rb rc : Ev → Sto → R W} {pos : Pos}
theorem l_tup {es : List Expr} {q : Nat} {rs : Ev → Sto → R (List W)} (h : PA X es (tA X.K er Wx rs)) : PX X er Wx (.Tuple es q pos) (fun env st => (rs env st).bind fun ws st => (match allD ws with
    | some ds => if ds.length ≤ sizeLine then .ok (.d (.tup ds)) st else .bad
    | none => .bad)) := by
  refine px_of (PE.imp (pe_tup h) fun σ H Q q => ?_) (fun _ => rfl) rfl
  obtain ⟨O, m, st, env, rp, en, q⟩ := tE_args (f := fun ws st => (match allD ws with
    | some ds => if ds.length ≤ sizeLine then .ok (.d (.tup ds)) st else .bad
    | none => .bad)) q
  refine ⟨O, m, st, env, rp, en, q.imp fun vs H1 ⟨O1, m1, st1, ws, r1, hv, q1⟩ => ?_⟩
  cases ha : allD ws with
  | none => rw [ha] at q1; exact q1.elim
  | some ds =>
    rw [ha] at q1
    dsimp only at q1
    by_cases hl : ds.length ≤ sizeLine
    · rw [if_pos hl] at q1
      have d := WVs.toD ha hv
      exact ⟨by rw [← d.length]; exact hl, newT_ok r1 d q1⟩
    · rw [if_neg hl] at q1; exact q1.elim
theorem l_lst {es : List Expr} {mm : Bool} {rs : Ev → Sto → R (List W)} (h : PA X es (tA X.K er Wx rs)) : PX X er Wx (.List es pos) (fun env st => (rs env st).bind fun ws st => newL mm ws st) := by
  refine px_of (PE.imp (pe_lst h) fun σ H Q q => ?_) (fun _ => rfl) rfl
  obtain ⟨O, m, st, env, rp, en, q⟩ := tE_args (f := fun ws st => newL mm ws st) q
  exact ⟨O, m, st, env, rp, en, q.imp fun vs H1 ⟨O1, m1, st1, ws, r1, hv, q1⟩ => newL_ok r1 hv q1⟩
theorem l_bin {op : Operator} {mm : Bool} (ha : PX X er Wx a ra) (hb : PX X er Wx b rb) : PX X er Wx (.BinOp a op b pos) (fun env st => (ra env st).bind fun x st => (rb env st).bind fun y st => binW op mm x y st) := by
  obtain ⟨rr, ho, hk⟩ := bin_ok (er := er) (Wx := Wx) X op mm
  refine px_of (PE.imp (pe_op ho ha.pe hb.pe) fun σ H Q q => ?_) (fun _ => rfl) rfl
  obtain ⟨O, m, st, env, rp, en, q⟩ := tE_bin (f := fun x y st => binW op mm x y st) q
  refine tE_mk rp en (q.imp fun x H1 q1 => ?_)
  obtain ⟨O, m, st, env, rp, en, q1⟩ := q1
  exact tE_mk rp en (q1.imp fun y H2 ⟨O2, m2, st2, a, b, r2, h1, h2, q2⟩ => hk O2 σ H2 m2 st2 a b x y Q r2 h1 h2 q2)
theorem l_neg (ha : PX X er Wx a ra) : PX X er Wx (.UnaryOp .USub a pos) (fun env st => (ra env st).bind fun x st => (match x with
    | .d (.int i) => .ok (.d (.int (-i))) st
    | _ => .bad)) := by
  refine px_of (PE.imp (pe_un un_neg ha.pe) fun σ H Q q => ?_) (fun _ => rfl) rfl
  obtain ⟨O, m, st, env, rp, en, q⟩ := tE_un (f := fun x _ st => (match x with
    | .d (.int i) => .ok (.d (.int (-i))) st
    | _ => .bad)) q
  refine tE_mk rp en (q.imp fun x H1 ⟨O1, m1, st1, env1, a, r1, e1, rl, q1⟩ => ?_)
  split at q1
  · exact ⟨_, rl, done_int r1 q1⟩
  · exact q1.elim
theorem l_bnot (ha : PX X er Wx a ra) : PX X er Wx (.UnaryOp .Not a pos) (fun env st => (ra env st).tst.bind fun k st => .ok (.d (.bl (!k))) st) := by
  refine ⟨PE.imp (pe_notT ha.pe) fun σ H Q q => ?_, PT.imp (pt_not ha.pt) fun σ H Q q => ?_, fun z => nomatch z⟩
  · obtain ⟨O, m, st, env, rp, en, q⟩ := q
    have q : PostG X.K er Wx O (relW X.K O) ((ra env st).bind fun x st => (ofO (truth st x) st).bind fun k st => .ok (.d (.bl (!k))) st) σ H m Q := by
      cases hr : ra env st with
      | bad => simp only [hr] at q; exact q
      | exc c p s' => simp only [hr] at q; exact q
      | ok w s' => simp only [hr] at q; exact q
    refine tE_mk rp en ((seqG (rel := relW X.K O) rp en q).imp fun x H1 ⟨m1, st1, a, e1, r1, _, rl, q1⟩ => ?_)
    cases ht : truth st1 a with
    | none => rw [ht] at q1; exact q1.elim
    | some kk => rw [ht] at q1; exact ⟨kk, truth_ok r1 rl ht, done_bl r1 q1⟩
  · obtain ⟨O, m, st, env, rp, en, q⟩ := q
    refine ⟨O, m, st, env, rp, en, ?_⟩
    have q : PostG X.K er Wx O relB (((ra env st).tst.bind fun k st => R.ok (W.d (.bl (!k))) st).tst) σ H m Q := q
    show PostG X.K er Wx O relB ((ra env st).tst) σ H m _
    cases hr : (ra env st).tst with
    | bad => rw [hr] at q; exact q
    | exc c p s' => rw [hr] at q; exact q
    | ok w s' =>
      rw [hr] at q
      intro H' m' bb e1 r1 eb
      have eb : bb = w := eb
      subst eb
      exact q H' m' (!bb) e1 r1 rfl
theorem tst_ok {w : W} {st : Sto} : (R.ok w st).tst = ofO (truth st w) st := rfl
/-- and, or: as values, as tests -/
theorem l_conj {rest : List Expr} (ha : PX X er Wx a ra) (hb : PX X er Wx (.BoolOp .And (b :: rest) pos) rb) : PX X er Wx (.BoolOp .And (a :: b :: rest) pos) (fun env st => (ra env st).bind fun x st => (match truth st x with
    | some true => rb env st
    | some false => .ok x st
    | none => .bad)) := by
  have hw : PW X (.BoolOp .And (a :: b :: rest) pos) (tT X.K er Wx fun env st => ((ra env st).bind fun x st => (match truth st x with
    | some true => rb env st
    | some false => .ok x st
    | none => .bad)).tst) := by
    refine PW.imp (pw_and ha.pt (hb.pw rfl)) fun σ H Q q => ?_
    obtain ⟨O, m, st, env, rp, en, q⟩ := q
    refine ⟨O, m, st, env, rp, en, ?_⟩
    show PostG X.K er Wx O relB ((ra env st).tst) σ H m _
    cases hr : ra env st with
    | bad => simp only [hr] at q; exact q
    | exc c p s' => simp only [hr] at q; exact q
    | ok w s' =>
      simp only [hr, R.bind_ok] at q
      rw [tst_ok]
      cases ht : truth s' w with
      | none => simp only [ht] at q; exact q
      | some kk =>
        intro H' m' bb e1 r1 eb
        have eb : bb = kk := eb
        subst eb
        simp only [ht] at q
        cases bb with
        | true => exact ⟨O, m', s', env, r1, en.ext rp.mut e1, PostG.fwd q e1 r1⟩
        | false =>
          have q : PostG X.K er Wx O relB (ofO (truth s' w) s') σ H m Q := q
          rw [ht] at q
          exact q H' m' false e1 r1 rfl
  refine ⟨PE.imp (pe_andT ha.pe hb.pe) fun σ H Q q => ?_, hw.pt, fun _ => hw⟩
  obtain ⟨O, m, st, env, rp, en, q⟩ := tE_un (f := fun x env st => (match truth st x with
    | some true => rb env st
    | some false => .ok x st
    | none => .bad)) q
  refine tE_mk rp en (q.imp fun x H1 ⟨O1, m1, st1, env1, a, r1, e1, rl, q1⟩ => ?_)
  cases ht : truth st1 a with
  | none => rw [ht] at q1; exact q1.elim
  | some kk =>
    rw [ht] at q1
    refine ⟨kk, truth_ok r1 rl ht, ?_⟩
    cases kk with
    | true => exact iteT (tE_mk r1 e1 q1)
    | false => exact iteF (PostG.here q1 r1 rl)
theorem l_disj {rest : List Expr} (ha : PX X er Wx a ra) (hb : PX X er Wx (.BoolOp .Or (b :: rest) pos) rb) : PX X er Wx (.BoolOp .Or (a :: b :: rest) pos) (fun env st => (ra env st).bind fun x st => (match truth st x with
    | some true => .ok x st
    | some false => rb env st
    | none => .bad)) := by
  have hw : PW X (.BoolOp .Or (a :: b :: rest) pos) (tT X.K er Wx fun env st => ((ra env st).bind fun x st => (match truth st x with
    | some true => .ok x st
    | some false => rb env st
    | none => .bad)).tst) := by
    refine PW.imp (pw_or ha.pt (hb.pw rfl)) fun σ H Q q => ?_
    obtain ⟨O, m, st, env, rp, en, q⟩ := q
    refine ⟨O, m, st, env, rp, en, ?_⟩
    show PostG X.K er Wx O relB ((ra env st).tst) σ H m _
    cases hr : ra env st with
    | bad => simp only [hr] at q; exact q
    | exc c p s' => simp only [hr] at q; exact q
    | ok w s' =>
      simp only [hr, R.bind_ok] at q
      rw [tst_ok]
      cases ht : truth s' w with
      | none => simp only [ht] at q; exact q
      | some kk =>
        intro H' m' bb e1 r1 eb
        have eb : bb = kk := eb
        subst eb
        simp only [ht] at q
        cases bb with
        | false => exact ⟨O, m', s', env, r1, en.ext rp.mut e1, PostG.fwd q e1 r1⟩
        | true =>
          have q : PostG X.K er Wx O relB (ofO (truth s' w) s') σ H m Q := q
          rw [ht] at q
          exact q H' m' true e1 r1 rfl
  refine ⟨PE.imp (pe_orT ha.pe hb.pe) fun σ H Q q => ?_, hw.pt, fun _ => hw⟩
  obtain ⟨O, m, st, env, rp, en, q⟩ := tE_un (f := fun x env st => (match truth st x with
    | some true => .ok x st
    | some false => rb env st
    | none => .bad)) q
  refine tE_mk rp en (q.imp fun x H1 ⟨O1, m1, st1, env1, a, r1, e1, rl, q1⟩ => ?_)
  cases ht : truth st1 a with
  | none => rw [ht] at q1; exact q1.elim
  | some kk =>
    rw [ht] at q1
    refine ⟨kk, truth_ok r1 rl ht, ?_⟩
    cases kk with
    | false => exact iteF (tE_mk r1 e1 q1)
    | true => exact iteT (PostG.here q1 r1 rl)
/-- an and | or of one member -/
theorem l_one {op : BoolOp} (ha : PX X er Wx a ra) : PX X er Wx (.BoolOp op [a] pos) ra := by
  have hw : PW X (.BoolOp op [a] pos) (tT X.K er Wx fun env st => (ra env st).tst) := by
    cases op with
    | And => exact pw_and1 ha.pt
    | Or => exact pw_or1 ha.pt
  exact ⟨pe_one ha.pe, hw.pt, fun _ => hw⟩
end
end LL

set_option Elab.async false
set_option linter.all false
set_option maxRecDepth 100000
set_option maxHeartbeats 4000000
set_option autoImplicit false
/-! LK: comparisons, conditions, subscripts, slices. -/
namespace LL
open PySem PySem.Spec PyProof.Rows L2
section
variable {nm : Nam} {T : Tab} {er : Er} {k : Nat} {C : Cal} {X : Cx} {Wx : WX}
variable {a b c e e' : Expr} {ra rb rc : Ev → Sto → R W} {pos : Pos}
theorem units_of {k : Nat} {A : Around} (h : Room k A) : A.units + 65 < cLine := by
  have := h.un
  omega
theorem mark_of {b : Expr} (op : CmpOp) (h : noSet b = true) : behindInMarks op b = false := by
  cases b <;> first | rfl | cases h
theorem mark2_of {b c : Expr} (op op' : CmpOp) (h : noSet c = true) : lastMarks [op, op'] [b, c] = false := mark_of op' h
/-- a bool's own truth -/
theorem tst_bl {O : List Addr} {σ : L2.St} {H : Hp} {m : List Addr} {Q : Bool → Hp → Prop} {r : R W} (hb : ∀ w st', r = .ok w st' → ∃ k, w = .d (.bl k)) (h : PostG X.K er Wx O relB r.tst σ H m Q) : PostG X.K er Wx O (relW X.K O) r σ H m (fun z H' => ∃ k, z = .bl k ∧ Q k H') := by
  cases r with
  | bad => exact h
  | exc c p st' => exact h
  | ok w st' =>
    obtain ⟨kk, rfl⟩ := hb w st' rfl
    exact fun H' m' z e rp rl => ⟨kk, rl, h H' m' kk e rp rfl⟩
theorem bind_tst {α : Type} (r : R α) (f : α → Sto → R W) : (r.bind f).tst = r.bind fun x st => (f x st).tst := by
  cases r <;> rfl
theorem l_cmp {op : CmpOp} (g : Gd nm T er k C X) (ha : PX X er Wx a ra) (hb : PX X er Wx b rb) (hs : noSet b = true) : PX X er Wx (.Compare a [op] [b] pos) (fun env st => (ra env st).bind fun x st => (rb env st).bind fun y st => cmpW op x y st) := by
  obtain ⟨rr, ho, hk⟩ := cmp_ok (er := er) (Wx := Wx) X (units_of g.room) op
  refine ⟨PE.imp (pe_cmpR ho ha.pe hb.pe (mark_of op hs)) fun σ H Q q => ?_, PT.imp (pt_cmpR ho ha.pe hb.pe (mark_of op hs)) fun σ H Q q => ?_, fun z => nomatch z⟩
  · obtain ⟨O, m, st, env, rp, en, q⟩ := tE_bin (f := fun x y st => cmpW op x y st) q
    refine tE_mk rp en (q.imp fun x H1 q1 => ?_)
    obtain ⟨O, m, st, env, rp, en, q1⟩ := q1
    exact tE_mk rp en (q1.imp fun y H2 ⟨O2, m2, st2, a, b, r2, h1, h2, q2⟩ => hk O2 σ H2 m2 st2 a b x y Q r2 h1 h2 q2)
  · obtain ⟨O, m, st, env, rp, en, q⟩ := q
    have q : PostG X.K er Wx O relB ((ra env st).bind fun x st => ((rb env st).bind fun y st => cmpW op x y st)).tst σ H m Q := q
    have q := tst_bl (Q := Q) (fun w st' h => ?_) q
    · obtain ⟨O, m, st, env, rp, en, q⟩ := tE_bin (f := fun x y st => cmpW op x y st) (tE_mk rp en q)
      refine tE_mk rp en (q.imp fun x H1 q1 => ?_)
      obtain ⟨O, m, st, env, rp, en, q1⟩ := q1
      exact tE_mk rp en (q1.imp fun y H2 ⟨O2, m2, st2, a, b, r2, h1, h2, q2⟩ => hk O2 σ H2 m2 st2 a b x y _ r2 h1 h2 q2)
    · cases h1 : ra env st with
      | bad => rw [h1] at h; cases h
      | exc c p s' => rw [h1] at h; cases h
      | ok x s' =>
        rw [h1] at h
        simp only [R.bind_ok] at h
        cases h2 : rb env s' with
        | bad => rw [h2] at h; cases h
        | exc c p s' => rw [h2] at h; cases h
        | ok y s'' =>
          rw [h2] at h
          exact (cmp_bool h).2
/-- what a chain comes to -/
def chainR (op op' : CmpOp) (ra rb rc : Ev → Sto → R W) : Ev → Sto → R W := fun env st => (ra env st).bind fun x st => (rb env st).bind fun y st => (cmpW op x y st).bind fun k st => (match k with
    | .d (.bl true) => (rc env st).bind fun z st => cmpW op' y z st
    | .d (.bl false) => .ok (.d (.bl false)) st
    | _ => .bad)
theorem chain_bool {op op' : CmpOp} {env : Ev} {st st' : Sto} {w : W} (h : chainR op op' ra rb rc env st = .ok w st') : ∃ k, w = .d (.bl k) := by
  unfold chainR at h
  cases h1 : ra env st with
  | bad => rw [h1] at h; cases h
  | exc c p s' => rw [h1] at h; cases h
  | ok x s1 =>
    rw [h1] at h
    simp only [R.bind_ok] at h
    cases h2 : rb env s1 with
    | bad => rw [h2] at h; cases h
    | exc c p s' => rw [h2] at h; cases h
    | ok y s2 =>
      rw [h2] at h
      simp only [R.bind_ok] at h
      cases h3 : cmpW op x y s2 with
      | bad => rw [h3] at h; cases h
      | exc c p s' => rw [h3] at h; cases h
      | ok z s3 =>
        rw [h3] at h
        simp only [R.bind_ok] at h
        obtain ⟨_, kk, rfl⟩ := cmp_bool h3
        cases kk with
        | false => cases h; exact ⟨_, rfl⟩
        | true =>
          dsimp only at h
          cases h4 : rc env s3 with
          | bad => rw [h4] at h; cases h
          | exc c p s' => rw [h4] at h; cases h
          | ok z s3 => rw [h4] at h; exact (cmp_bool h).2
theorem chain_run {op op' : CmpOp} {r r' : R2} (hk : OpOk X.K er Wx r (cmpW op)) (hk' : OpOk X.K er Wx r' (cmpW op')) {σ : L2.St} {H : Hp} {Q : VK}
    (q : tE X.K er Wx (chainR op op' ra rb rc) σ H Q) : tChain r r' (tE X.K er Wx ra) (tE X.K er Wx rb) (tE X.K er Wx rc) σ H Q := by
  obtain ⟨O, m, st, env, rp, en, q⟩ := q
  refine tE_mk rp en ((seqG (rel := relW X.K O) rp en q).imp fun x H1 ⟨m1, st1, a, e1, r1, en1, rl1, q1⟩ => ?_)
  refine tE_mk r1 en1 ((seqG (rel := relW X.K O) r1 en1 q1).imp fun y H2 ⟨m2, st2, b, e2, r2, en2, rl2, q2⟩ => ?_)
  refine hk O σ H2 m2 st2 a b x y _ r2 (WV.ext r1.mut e2 rl1) rl2 ?_
  refine (seqG (rel := relW X.K O) (r := cmpW op a b st2) r2 en2 q2).imp fun z H3 ⟨m3, st3, w, e3, r3, en3, rl3, q3⟩ => ?_
  split at q3
  · refine ⟨true, rl3, iteT ?_⟩
    exact tE_mk r3 en3 ((seqG (rel := relW X.K O) r3 en3 q3).imp fun z H4 ⟨m4, st4, d, e4, r4, en4, rl4, q4⟩ => hk' O σ H4 m4 st4 b d y z _ r4 (WV.ext r3.mut e4 (WV.ext r2.mut e3 rl2)) rl4 q4)
  · exact ⟨false, rl3, iteF (done_bl r3 q3)⟩
  · exact q3.elim
theorem l_chain {op op' : CmpOp} (g : Gd nm T er k C X) (ha : PX X er Wx a ra) (hb : PX X er Wx b rb) (hc : PX X er Wx c rc) (hs : noSet c = true) : PX X er Wx (.Compare a [op, op'] [b, c] pos) (chainR op op' ra rb rc) := by
  obtain ⟨rr, ho, hk⟩ := cmp_ok (er := er) (Wx := Wx) X (units_of g.room) op
  obtain ⟨rr', ho', hk'⟩ := cmp_ok (er := er) (Wx := Wx) X (units_of g.room) op'
  refine ⟨PE.imp (pe_chain ho ho' ha.pe hb.pe hc.pe (mark2_of op op' hs)) fun σ H Q q => chain_run hk hk' q, PT.imp (pt_chain ho ho' ha.pe hb.pe hc.pe (mark2_of op op' hs)) fun σ H Q q => ?_, fun z => nomatch z⟩
  obtain ⟨O, m, st, env, rp, en, q⟩ := q
  exact chain_run hk hk' (tE_mk rp en (tst_bl (Q := Q) (fun w st' h => chain_bool h) q))
/-- a if c else b as a test -/
def tIfT (t ta tb : TT) : TT := fun σ H Q => t σ H fun c H1 => if c = true then ta σ H1 Q else tb σ H1 Q
theorem pt_ifx {tc ta tb : TT} (hc : PT X c tc) (ha : PT X a ta) (hb : PT X b tb) : PT X (.IfExp c a b pos) (tIfT tc ta tb) := by
  refine ⟨fun pins s σ H Q I h => ?_⟩
  rw [PySem.arm_isTrue_IfExp]
  refine wpAny_bind (wpAny_mono (hc.run pins s σ H _ I h) (fun d s1 ⟨H1, I1, q1⟩ => ?_) fun _ _ x => x)
  cases d with
  | true => exact ha.run pins s1 σ H1 Q I1 q1
  | false => exact hb.run pins s1 σ H1 Q I1 q1
theorem l_ifx (hc : PX X er Wx c rc) (ha : PX X er Wx a ra) (hb : PX X er Wx b rb) : PX X er Wx (.IfExp c a b pos) (fun env st => (rc env st).tst.bind fun k st => (match k with
    | true => ra env st
    | false => rb env st)) := by
  refine ⟨PE.imp (pe_ifExp hc.pt ha.pe hb.pe) fun σ H Q q => ?_, PT.imp (pt_ifx hc.pt ha.pt hb.pt) fun σ H Q q => ?_, fun z => nomatch z⟩
  · obtain ⟨O, m, st, env, rp, en, q⟩ := q
    refine ⟨O, m, st, env, rp, en, (seqG (rel := relB) rp en q).imp fun kk H1 ⟨m1, st1, w, e1, r1, en1, rl, q1⟩ => ?_⟩
    have rl : kk = w := rl
    subst rl
    cases kk with
    | true => exact iteT (tE_mk r1 en1 q1)
    | false => exact iteF (tE_mk r1 en1 q1)
  · obtain ⟨O, m, st, env, rp, en, q⟩ := q
    have q : PostG X.K er Wx O relB ((rc env st).tst.bind fun k st => (match k with
      | true => ra env st
      | false => rb env st)).tst σ H m Q := q
    rw [bind_tst] at q
    refine ⟨O, m, st, env, rp, en, (seqG (rel := relB) rp en q).imp fun kk H1 ⟨m1, st1, w, e1, r1, en1, rl, q1⟩ => ?_⟩
    have rl : kk = w := rl
    subst rl
    cases kk with
    | true => exact iteT ⟨O, m1, st1, env, r1, en1, q1⟩
    | false => exact iteF ⟨O, m1, st1, env, r1, en1, q1⟩
theorem plain_of {i : Expr} (h : noSlice i = true) : PlainIx i := by
  intro o j
  cases i <;> first | rfl | cases h
theorem l_ix {i : Expr} {ri : Ev → Sto → R W} (ha : PX X er Wx a ra) (hi : PX X er Wx i ri) (hs : noSlice i = true) : PX X er Wx (.Subscript a i pos) (fun env st => (ra env st).bind fun x st => (ri env st).bind fun y st => ixW x y st) := by
  obtain ⟨rr, ho, hk⟩ := ix_ok (er := er) (Wx := Wx) X
  refine px_of (PE.imp (pe_ix ho ha.pe hi.pe (plain_of hs)) fun σ H Q q => ?_) (fun _ => rfl) rfl
  obtain ⟨O, m, st, env, rp, en, q⟩ := tE_bin (f := fun x y st => ixW x y st) q
  refine tE_mk rp en (q.imp fun x H1 q1 => ?_)
  obtain ⟨O, m, st, env, rp, en, q1⟩ := q1
  exact tE_mk rp en (q1.imp fun y H2 ⟨O2, m2, st2, a, b, r2, h1, h2, q2⟩ => hk O2 σ H2 m2 st2 a b x y Q r2 h1 h2 q2)
/-- a part of a slice -/
theorem l_ono : PO X none (tOo X.K er Wx (evO T C .no)) := by
  refine PO.imp po_none fun σ H Q q => ?_
  obtain ⟨O, m, st, env, rp, en, q⟩ := q
  unfold evO at q
  exact PostG.here q rp rfl
theorem l_oyes (ha : PX X er Wx a ra) : PO X (some a) (tOo X.K er Wx (fun env st => (ra env st).bind fun w st => (match w with
    | .d (.int i) => .ok (some i) st
    | _ => .bad))) := by
  refine PO.imp (po_some ha.pe) fun σ H Q q => ?_
  obtain ⟨O, m, st, env, rp, en, q⟩ := q
  refine tE_mk rp en ((seqG (rel := relW X.K O) rp en q).imp fun x H1 ⟨m1, st1, w, e1, r1, en1, rl, q1⟩ => ?_)
  split at q1
  · exact ⟨_, rl, PostG.here q1 r1 rfl⟩
  · exact q1.elim
theorem l_sl {mm : Bool} {lo hi : Option Expr} {p2 : Pos} {rl rh : Ev → Sto → R (Option Int)} (ha : PX X er Wx a ra) (hl : PO X lo (tOo X.K er Wx rl)) (hh : PO X hi (tOo X.K er Wx rh)) :
    PX X er Wx (.Subscript a (.Slice lo hi none p2) pos) (fun env st => (ra env st).bind fun x st => (rl env st).bind fun l st => (rh env st).bind fun h st => slW mm x l h st) := by
  obtain ⟨rr, ho, hk⟩ := sl_ok (er := er) (Wx := Wx) X mm
  refine px_of (PE.imp (pe_slice ho ha.pe hl hh) fun σ H Q q => ?_) (fun _ => rfl) rfl
  obtain ⟨O, m, st, env, rp, en, q⟩ := q
  refine tE_mk rp en ((seqG (rel := relW X.K O) rp en q).imp fun x H1 ⟨m1, st1, w, e1, r1, en1, rl1, q1⟩ => ?_)
  refine ⟨O, m1, st1, env, r1, en1, (seqG (rel := relO) r1 en1 q1).imp fun l H2 ⟨m2, st2, l', e2, r2, en2, rl2, q2⟩ => ?_⟩
  have rl2 : l = l' := rl2
  subst rl2
  refine ⟨O, m2, st2, env, r2, en2, (seqG (rel := relO) r2 en2 q2).imp fun h H3 ⟨m3, st3, h', e3, r3, en3, rl3, q3⟩ => ?_⟩
  have rl3 : h = h' := rl3
  subst rl3
  exact hk O σ H3 m3 st3 w l h x Q r3 (WV.ext r2.mut e3 (WV.ext r1.mut e2 rl1)) q3
end
end LL

set_option Elab.async false
set_option linter.all false
set_option maxRecDepth 100000
set_option maxHeartbeats 4000000
set_option autoImplicit false
/-! LM: argument lists, calls, methods, what loops walk, comprehensions, f-strings. -/
namespace LL
open PySem PySem.Spec PyProof.Rows L2
section
variable {nm : Nam} {T : Tab} {er : Er} {k : Nat} {C : Cal} {X : Cx} {Wx : WX}
variable {a b c e e' : Expr} {ra rb rc : Ev → Sto → R W} {pos : Pos}
/-! ### argument lists -/
theorem star_of {e : Expr} {es : List Expr} {env : Env} (h : noStar e = true) : starEach (e :: es) env = (false, eval e env) :: starEach es env := by
  cases e <;> first | rfl | cases h
def plainB : List Expr → Bool
  | [] => true
  | e :: es => noStar e && plainB es
theorem plain_any {env : Env} {pos : Pos} : ∀ {es : List Expr}, plainB es = true → (backTo pos (starEach es env)).any (·.1) = false
  | [], _ => rfl
  | e :: es, h => by
    unfold plainB at h
    simp only [Bool.and_eq_true] at h
    rw [star_of h.1]
    show (false || (backTo pos (starEach es env)).any (·.1)) = false
    rw [plain_any h.2]; rfl
theorem plain_all {env : Env} {pos : Pos} : ∀ {es : List Expr}, plainB es = true → (backTo pos (starEach es env)).all (fun x => !x.1) = true
  | [], _ => rfl
  | e :: es, h => by
    unfold plainB at h
    simp only [Bool.and_eq_true] at h
    rw [star_of h.1]
    show (true && (backTo pos (starEach es env)).all (fun x => !x.1)) = true
    rw [plain_all h.2]; rfl
theorem l_anil : PA X [] (tA X.K er Wx (evs T C .nil)) := by
  refine PA.imp pa_nil fun σ H Q q => ?_
  obtain ⟨O, m, st, env, rp, en, q⟩ := q
  unfold evs at q
  exact PostG.here (y := []) q rp rfl
theorem l_acons {es : List Expr} {rs : Ev → Sto → R (List W)} (ha : PX X er Wx a ra) (hr : PA X es (tA X.K er Wx rs)) (hs : noStar a = true) : PA X (a :: es) (tA X.K er Wx fun env st => (ra env st).bind fun w st => (rs env st).bind fun ws st => .ok (w :: ws) st) := by
  refine PA.imp (pa_cons ha.pe hr (star_of hs)) fun σ H Q q => ?_
  obtain ⟨O, m, st, env, rp, en, q⟩ := q
  refine tE_mk rp en ((seqG (rel := relW X.K O) rp en q).imp fun x H1 ⟨m1, st1, w, e1, r1, en1, rl1, q1⟩ => ?_)
  refine ⟨O, m1, st1, env, r1, en1, (seqG (rel := relWs X.K O) r1 en1 q1).imp fun vs H2 ⟨m2, st2, ws, e2, r2, en2, rl2, q2⟩ => ?_⟩
  exact PostG.here (y := x :: vs) q2 r2 ⟨x, vs, rfl, WV.ext r1.mut e2 rl1, rl2⟩
/-! ### calls -/
theorem l_call {f : Nat} {md : Md} {x : Str} {p : Pos} {es : List Expr} {rs : Ev → Sto → R (List W)} (g : Gd nm T er k C X) (tk : Takes X Wx) (hx : x = nm.fn f) (hg : glB X.env.scope x = true) (ho : okName x = true) (hp : plainB (a :: es) = true) (ha : PA X (a :: es) (tA X.K er Wx rs)) (hcl : (nm.cl f).isNone = true) :
    PX X er Wx (.Call (.Name x p) (a :: es) [] pos) (fun env st => (match (T.fn f).isSome with
      | true => (rs env st).bind fun ws st => callW C f md ws st
      | false => .bad)) := by
  refine px_of ?_ (fun _ => rfl) rfl
  have hp' := hp
  unfold plainB at hp'
  simp only [Bool.and_eq_true] at hp'
  cases hf : T.fn f with
  | none =>
    refine ⟨fun pins s σ H Q I q => ?_⟩
    obtain ⟨O, m, st, env, rp, en, q⟩ := q
    exact q.elim
  | some fd =>
    obtain ⟨fa, fdat, ps, hm, hk, F, hb⟩ := g.lk.fns f fd hf
    have hm : X.mg (nm.fn f) = some (.ref fa) := by
      have e : nm.cl f = none := Option.isNone_iff_eq_none.mp hcl
      unfold AtF at hm
      rw [e] at hm
      exact hm
    refine PE.imp (pe_callS F (g.room.mono (by omega)) (show X.env.kindOf x = some .globalImplicit from is_of hg) (by rw [hx]; exact hm) hk hb (fun σ => passAt tk σ) ha (okN ho).1 (star_of hp'.1) (plain_any hp'.2)) fun σ H Q q => ?_
    obtain ⟨O, m, st, env, rp, en, q⟩ := tE_args (f := fun ws st => callW C f md ws st) q
    exact ⟨O, m, st, env, rp, en, q.imp fun vs H1 ⟨O1, m1, st1, ws, r1, hv, q1⟩ => call_ok r1 hv q1⟩
/-! ### built-in functions -/
theorem biN_plain : ∀ b : Bi, biN b ≠ "__name__" ∧ (biN b == ("__debug__" : Str)) = false := by
  intro b
  cases b <;> decide
theorem l_bi {b : Bi} {mm : Bool} {x : Str} {p : Pos} {es : List Expr} {rs : Ev → Sto → R (List W)} (g : Gd nm T er k C X) (hx : x = biN b) (hb : nm.bi b = true) (hg : glB X.env.scope x = true) (hp : plainB (a :: es) = true) (ha : PA X (a :: es) (tA X.K er Wx rs)) :
    PX X er Wx (.Call (.Name x p) (a :: es) [] pos) (fun env st => (rs env st).bind fun ws st => biW b mm ws st) := by
  refine px_of ?_ (fun _ => rfl) rfl
  have hp' := hp
  unfold plainB at hp'
  simp only [Bool.and_eq_true] at hp'
  subst hx
  obtain ⟨r, hc, hk⟩ := bi_ok (er := er) (Wx := Wx) X g.calm (by have := g.room.un; omega) b mm
  have hG : Gl X (biN b) := is_of hg
  have fin : PE X (.Call (.Name (biN b) p) (a :: es) [] pos) (tCB r (tA X.K er Wx rs)) := by
    have q1 := (biN_plain b).1
    have q2 := (biN_plain b).2
    cases b with
    | gcd => exact pe_callBfun hc hG (g.lk.gcd hb) ha q2 (star_of hp'.1) (plain_any hp'.2)
    | len => exact pe_callB hc hG (g.lk.blt _ hb (fun z => nomatch z)) (by decide +kernel) ha q1 q2 (star_of hp'.1) (plain_any hp'.2)
    | abs => exact pe_callB hc hG (g.lk.blt _ hb (fun z => nomatch z)) (by decide +kernel) ha q1 q2 (star_of hp'.1) (plain_any hp'.2)
    | ord => exact pe_callB hc hG (g.lk.blt _ hb (fun z => nomatch z)) (by decide +kernel) ha q1 q2 (star_of hp'.1) (plain_any hp'.2)
    | all => exact pe_callB hc hG (g.lk.blt _ hb (fun z => nomatch z)) (by decide +kernel) ha q1 q2 (star_of hp'.1) (plain_any hp'.2)
    | any => exact pe_callB hc hG (g.lk.blt _ hb (fun z => nomatch z)) (by decide +kernel) ha q1 q2 (star_of hp'.1) (plain_any hp'.2)
    | sum => exact pe_callB hc hG (g.lk.blt _ hb (fun z => nomatch z)) (by decide +kernel) ha q1 q2 (star_of hp'.1) (plain_any hp'.2)
    | max2 => exact pe_callB hc hG (g.lk.blt _ hb (fun z => nomatch z)) (by decide +kernel) ha q1 q2 (star_of hp'.1) (plain_any hp'.2)
    | sorted => exact pe_callB hc hG (g.lk.blt _ hb (fun z => nomatch z)) (by decide +kernel) ha q1 q2 (star_of hp'.1) (plain_any hp'.2)
    | min2 => exact pe_callB hc hG (g.lk.blt _ hb (fun z => nomatch z)) (by decide +kernel) ha q1 q2 (star_of hp'.1) (plain_any hp'.2)
    | int => exact pe_callTy hc hG (g.lk.blt _ hb (fun z => nomatch z)) (by decide +kernel) ha q1 q2 (star_of hp'.1) (plain_any hp'.2)
    | str => exact pe_callTy hc hG (g.lk.blt _ hb (fun z => nomatch z)) (by decide +kernel) ha q1 q2 (star_of hp'.1) (plain_any hp'.2)
    | tup => exact pe_callTy hc hG (g.lk.blt _ hb (fun z => nomatch z)) (by decide +kernel) ha q1 q2 (star_of hp'.1) (plain_any hp'.2)
    | lst => exact pe_callTy hc hG (g.lk.blt _ hb (fun z => nomatch z)) (by decide +kernel) ha q1 q2 (star_of hp'.1) (plain_any hp'.2)
  refine PE.imp fin fun σ H Q q => ?_
  obtain ⟨O, m, st, env, rp, en, q⟩ := tE_args (f := fun ws st => biW b mm ws st) q
  exact ⟨O, m, st, env, rp, en, q.imp fun vs H1 ⟨O1, m1, st1, ws, r1, hv, q1⟩ => hk O1 σ H1 m1 st1 ws vs Q r1 hv q1⟩
/-! ### isinstance -/
theorem isi_ty {O : List Addr} {H : Hp} {m : List Addr} {st : Sto} {t : Ty} {w : W} {x : V} {b : Bool} (rp : Rep X.K H O m st) (h : WV X.K H O m w x) (ht : tyB t = true) (e : isiO t st w = some b) :
    ∃ n, TyX X.K H x (.type n) ∧ kitB n (tyS t) = some b := by
  have hl : ∀ {a : Addr} {vs : List V}, H a = some (.lst vs) → TyX X.K H (.ref a) (.type "list") := fun q => .base (.lst q)
  cases w with
  | ref i =>
    unfold isiO at e
    dsimp only at e
    split at e
    · rename_i ws es
      obtain ⟨a, vs, ev, _, q, _⟩ := rp.at_ h es
      subst ev
      refine ⟨"list", hl q, ?_⟩
      cases t <;> cases e <;> first | decide +kernel | cases ht
    · cases e
  | d y =>
    cases y with
    | non =>
      rw [show x = .non from h]
      refine ⟨"NoneType", .base .non, ?_⟩
      cases t <;> cases e <;> first | decide +kernel | cases ht
    | bl k =>
      rw [show x = .bl k from h]
      refine ⟨"bool", .base (.bl k), ?_⟩
      cases t <;> cases e <;> first | decide +kernel | cases ht
    | int k =>
      rw [show x = .int k from h]
      refine ⟨"int", .base (.int k), ?_⟩
      cases t <;> cases e <;> first | decide +kernel | cases ht
    | str k =>
      rw [show x = .str k from h]
      refine ⟨"str", .base (.str k), ?_⟩
      cases t <;> cases e <;> first | decide +kernel | cases ht
    | tup xs =>
      unfold WV DV at h
      obtain ⟨a, vs, ev, q, hs⟩ := h
      subst ev
      refine ⟨"tuple", ?_, ?_⟩
      · rcases q with (q | ⟨o, q⟩) | ⟨o, its, n, q1, q2, q3⟩
        · exact .base (.tup q)
        · exact .fTuple q
        · exact .kTuple q1 q2
      · cases t <;> cases e <;> first | decide +kernel | cases ht
    | lst xs =>
      unfold WV DV at h
      obtain ⟨a, vs, ev, nb, q, hs⟩ := h
      subst ev
      refine ⟨"list", hl q, ?_⟩
      cases t <;> cases e <;> first | decide +kernel | cases ht
    | frz xs =>
      unfold WV DV at h
      obtain ⟨a, vs, ev, q, hs⟩ := h
      subst ev
      refine ⟨"list", ?_, ?_⟩
      · rcases q with ⟨o, q⟩ | ⟨o, its, n, q1, q2, q3⟩
        · exact .base (.frz q)
        · exact .kList q1 q2
      · cases t <;> cases e <;> first | decide +kernel | cases ht
    | dct _ => cases e
    | obj _ _ _ => cases e
    | exc _ _ _ => cases e
theorem tyN_boot (t : Ty) (h : tyB t = true) : bootBuiltins (tyN t) = some (.type (tyS t)) ∧ tyN t ≠ "__name__" ∧ (tyN t == ("__debug__" : Str)) = false := by
  cases t <;> first | exact ⟨by decide +kernel, by decide, by decide⟩ | cases h
theorem l_isi {t : Ty} {f x : Str} {p q : Pos} (g : Gd nm T er k C X) (hf : f = ("isinstance" : Str)) (hg : glB X.env.scope f = true) (hx : x = tyN t) (ht : tyB t = true) (hg2 : glB X.env.scope x = true) (hs : noStar a = true) (ha : PX X er Wx a ra) :
    PX X er Wx (.Call (.Name f p) [a, .Name x q] [] pos) (fun env st => (ra env st).bind fun x st => ofO ((isiO t st x).map fun k => .d (.bl k)) st) := by
  refine px_of ?_ (fun _ => rfl) rfl
  subst hf hx
  obtain ⟨b1, b2, b3⟩ := tyN_boot t ht
  have pc : PE X (.Name (tyN t) q) (tC (.ty (tyS t))) := pe_bltn (v := .ty (tyS t)) (show X.env.kindOf (tyN t) = some .globalImplicit from is_of hg2) (g.lk.tys t ht) b1 rfl b2 b3
  refine PE.imp (pe_callB call_isi (show X.env.kindOf "isinstance" = some .globalImplicit from is_of hg) g.lk.isi (by decide +kernel) (pa_cons ha.pe (pa_cons pc pa_nil) (star_of hs)) (by decide) (by decide) (star_of hs) rfl) fun σ H Q q => ?_
  obtain ⟨O, m, st, env, rp, en, q⟩ := tE_un (f := fun x _ st => ofO ((isiO t st x).map fun k => .d (.bl k)) st) q
  refine tE_mk rp en (q.imp fun v H1 ⟨O1, m1, st1, env1, w, r1, e1, rl, q1⟩ => ?_)
  obtain ⟨u, eu, q1⟩ := PostG.ofO q1
  cases e : isiO t st1 w with
  | none => rw [e] at eu; cases eu
  | some b =>
    rw [e] at eu; cases eu
    obtain ⟨n, h1, h2⟩ := isi_ty r1 rl ht e
    exact ⟨v, .ty (tyS t), .type n, .type (tyS t), b, rfl, .ty _, h1, kit_ty h2, done_bl r1 q1⟩
/-! ### methods -/
theorem base_of {o : Expr} {n : Str} {env : Env} (h : noSuper o = true) : attributeBase o n env (eval o env) = eval o env := by
  unfold attributeBase
  split
  · rename_i x p q
    have h : (x != ("super" : Str)) = true := h
    rw [if_pos (by rw [h]; rfl)]
  · rfl
theorem recv_list {e : Me} {O : List Addr} {H : Hp} {m : List Addr} {st : Sto} {w : W} {x : V} (rp : Rep X.K H O m st) (h : WV X.K H O m w x) (e1 : e ≠ .split) (e2 : e ≠ .join) (r : recvB e st w = true) : tyV X.K "list" x H := by
  have key : (∃ ws, itemsL st w = some ws) → tyV X.K "list" x H := fun ⟨ws, q⟩ => by
    obtain ⟨a, vs, ev, qa, _⟩ := items_ok rp h q
    subst ev
    exact .inl ⟨rfl, vs, SqL.of qa⟩
  have ref : lstB st w = true → ∃ ws, itemsL st w = some ws := fun q => by
    unfold lstB at q
    split at q
    · split at q
      · rename_i i _ ws es
        exact ⟨ws, by unfold itemsL; simp only [es]⟩
      · cases q
    · cases q
  cases e with
  | split => exact absurd rfl e1
  | join => exact absurd rfl e2
  | index => exact key (Option.isSome_iff_exists.mp r)
  | append => exact key (ref r)
  | insert => exact key (ref r)
  | pop => exact key (ref r)
  | extend => exact key (ref r)
theorem recv_str {e : Me} {O : List Addr} {H : Hp} {m : List Addr} {st : Sto} {w : W} {x : V} (h : WV X.K H O m w x) (e1 : e = .split ∨ e = .join) (r : recvB e st w = true) : ∃ a, x = .str a := by
  have key : strB w = true → ∃ a, x = .str a := fun q => by
    unfold strB at q
    split at q
    · exact ⟨_, h⟩
    · cases q
  rcases e1 with rfl | rfl <;> exact key r
/-- what a method's call comes to -/
def methR (e : Me) (mm : Bool) (ro : Ev → Sto → R W) (rs : Ev → Sto → R (List W)) : Ev → Sto → R W := fun env st => (ro env st).bind fun x st => (match recvB e st x with
    | true => (rs env st).bind fun ws st => meW e mm x ws st
    | false => .bad)
theorem meth_run {e : Me} {mm : Bool} {ro : Ev → Sto → R W} {rs : Ev → Sto → R (List W)} {σ : L2.St} {H : Hp} {Q : VK} (q : tE X.K er Wx (methR e mm ro rs) σ H Q) :
    tE X.K er Wx ro σ H fun x H1 => (∃ O m st w, Rep X.K H1 O m st ∧ WV X.K H1 O m w x ∧ recvB e st w = true) ∧ tA X.K er Wx rs σ H1 fun vs H2 => ∃ O m st w ws, Rep X.K H2 O m st ∧ WV X.K H2 O m w x ∧ WVs X.K H2 O m ws vs ∧ PostG X.K er Wx O (relW X.K O) (meW e mm w ws st) σ H2 m Q := by
  obtain ⟨O, m, st, env, rp, en, q⟩ := q
  refine tE_mk rp en ((seqG (rel := relW X.K O) rp en q).imp fun x H1 ⟨m1, st1, w, e1, r1, en1, rl1, q1⟩ => ?_)
  cases hr : recvB e st1 w with
  | false => rw [hr] at q1; exact q1.elim
  | true =>
    rw [hr] at q1
    refine ⟨⟨O, m1, st1, w, r1, rl1, hr⟩, O, m1, st1, env, r1, en1, (seqG (rel := relWs X.K O) r1 en1 q1).imp fun vs H2 ⟨m2, st2, ws, e2, r2, en2, rl2, q2⟩ => ?_⟩
    exact ⟨O, m2, st2, w, ws, r2, WV.ext r1.mut e2 rl1, rl2, q2⟩
theorem l_mt {Tn : String} {e : Me} {mm : Bool} {id : String} {r : V → List V → Hp → VK → Prop} {o x : Expr} {es : List Expr} {ap cp : Pos} {ro : Ev → Sto → R W} {rs : Ev → Sto → R (List W)} (pl : PlainAttrs Tn) (hrv : ∀ {O : List Addr} {H : Hp} {m : List Addr} {st : Sto} {w : W} {x : V}, Rep X.K H O m st → WV X.K H O m w x → recvB e st w = true → tyV X.K Tn x H) (slot : Slot Tn (meN e) id)
    (hty : typeOf (.builtin id) = pure (.type "method_descriptor")) (hm : MtR X id r) (hk : MeOk X.K er Wx Tn r (meW e mm)) (ho : PX X er Wx o ro) (ha : PA X (x :: es) (tA X.K er Wx rs)) (hp : plainB (x :: es) = true) (hn : (x :: es).length < 29) (hl : ap.endLine = cp.line) (hs : noSuper o = true) :
    PX X er Wx (.Call (.Attribute o (meN e) ap) (x :: es) [] cp) (methR e mm ro rs) := by
  have hp' := hp
  unfold plainB at hp'
  simp only [Bool.and_eq_true] at hp'
  refine px_of (PE.imp (pe_bm pl slot hty hm ho.pe ha (base_of hs) ?_ (by simpa using hl) (star_of hp'.1) (plain_any hp'.2)) fun σ H Q q => ?_) (fun _ => rfl) rfl
  · rw [plain_all hp]
    show (true && (backToKw cp (keywordEach [] X.env)).all (fun x => x.1.isSome) && decide ((x :: es).length + 0 + 0 < 30)) = true
    have : (x :: es).length + 0 + 0 < 30 := by omega
    rw [decide_eq_true this]
    rfl
  · have q := meth_run q
    obtain ⟨O, m, st, env, rp, en, q⟩ := q
    refine ⟨O, m, st, env, rp, en, q.imp fun v H1 ⟨⟨O1, m1, st1, w, r1, hw, hr⟩, q1⟩ => ⟨hrv r1 hw hr, ?_⟩⟩
    obtain ⟨O, m, st, env, rp, en, q1⟩ := q1
    exact ⟨O, m, st, env, rp, en, q1.imp fun vs H2 ⟨O2, m2, st2, w, ws, r2, hw, hv, q2⟩ => hk O2 σ H2 m2 st2 w ws v vs Q r2 hw hv q2⟩
theorem l_pop {mm : Bool} {o : Expr} {ap cp : Pos} {ro : Ev → Sto → R W} {rs : Ev → Sto → R (List W)} (ho : PX X er Wx o ro) (ha : rs = evs T C .nil) (hl : ap.endLine = cp.line) (hs : noSuper o = true) :
    PX X er Wx (.Call (.Attribute o (meN .pop) ap) [] [] cp) (methR .pop mm ro rs) := by
  subst ha
  refine px_of (PE.imp (pe_bm0 PySem.F.plainAttrs_list PySem.F.slot_list_pop PySem.F.type_list_pop mt_pop ho.pe (base_of hs) (by simpa using hl)) fun σ H Q q => ?_) (fun _ => rfl) rfl
  have q := meth_run q
  obtain ⟨O, m, st, env, rp, en, q⟩ := q
  refine ⟨O, m, st, env, rp, en, q.imp fun v H1 ⟨⟨O1, m1, st1, w, r1, hw, hr⟩, q1⟩ => ⟨recv_list (e := .pop) r1 hw (fun z => nomatch z) (fun z => nomatch z) hr, ?_⟩⟩
  obtain ⟨O, m, st, env, rp, en, q1⟩ := q1
  unfold evs at q1
  obtain ⟨O2, m2, st2, w, ws, r2, hw, hv, q2⟩ := PostG.here (y := []) q1 rp rfl
  exact pop_ok (mm := mm) O2 σ H1 m2 st2 w ws v [] Q r2 hw hv q2
theorem str_ty {e : Me} (e1 : e = .split ∨ e = .join) {O : List Addr} {H : Hp} {m : List Addr} {st : Sto} {w : W} {x : V} (_ : Rep X.K H O m st) (h : WV X.K H O m w x) (r : recvB e st w = true) : tyV X.K "str" x H := by
  obtain ⟨a, rfl⟩ := recv_str h e1 r
  exact rfl
theorem me_split {mm : Bool} : MeOk X.K er Wx "str" (fun x xs H Q => ∃ a b, x = .str a ∧ xs = [.str b] ∧ (b.length == 0) = false ∧ a.length + 2 ≤ sizeLine ∧ rNewStrs (Txt.split a b) H Q) (meW .split mm) := by
  intro O σ H m st o ws x vs Q rp ho hv h
  obtain ⟨w4, v4, ev4, h4, q4⟩ := arg1_ok (st := st) hv h
  subst ev4
  obtain ⟨a, b, ea, eb, c1, c2, c3⟩ := split_ok rp ho h4 q4
  exact ⟨a, b, ea, by rw [eb], c1, c2, c3⟩
theorem me_join {mm : Bool} : MeOk X.K er Wx "str" (fun x xs H Q => ∃ a p, ∃ ys : List Str, x = .str a ∧ xs = [.ref p] ∧ (SqL X.K H p (ys.map V.str) ∨ SqT X.K H p (ys.map V.str)) ∧
    (ys.map (·.length)).sum + ys.length * a.length ≤ 16777216 ∧ Q (.str (Txt.join a ys)) H) (meW .join mm) := by
  intro O σ H m st o ws x vs Q rp ho hv h
  obtain ⟨w4, v4, ev4, h4, q4⟩ := arg1_ok (st := st) hv h
  subst ev4
  obtain ⟨a, p, ys, ea, eb, c1, c2, c3⟩ := join_ok rp ho h4 q4
  exact ⟨a, p, ys, ea, by rw [eb], c1, c2, c3⟩
theorem l_meth {e : Me} {mm : Bool} {o : Expr} {es : List Expr} {ap cp : Pos} {ro : Ev → Sto → R W} {cs : CEs} (g : Gd nm T er k C X) (ho : PX X er Wx o ro) (ha : PA X es (tA X.K er Wx (evs T C cs))) (hc : es = [] → cs = .nil) (hp : plainB es = true) (hn : es.length = meAr e) (hl : ap.endLine = cp.line) (hs : noSuper o = true) :
    PX X er Wx (.Call (.Attribute o (meN e) ap) es [] cp) (methR e mm ro (evs T C cs)) := by
  cases es with
  | nil =>
    cases e with
    | pop => exact l_pop ho (by rw [hc rfl]) hl hs
    | append => cases hn
    | insert => cases hn
    | extend => cases hn
    | index => cases hn
    | split => cases hn
    | join => cases hn
  | cons x es =>
    have hq : (x :: es).length < 29 := by rw [hn]; cases e <;> decide
    cases e with
    | pop => cases hn
    | append => exact l_mt PySem.F.plainAttrs_list (fun r h q => recv_list (e := .append) r h (fun z => nomatch z) (fun z => nomatch z) q) PySem.F.slot_list_append PySem.F.type_list_append mt_append append_ok ho ha hp hq hl hs
    | insert => exact l_mt PySem.F.plainAttrs_list (fun r h q => recv_list (e := .insert) r h (fun z => nomatch z) (fun z => nomatch z) q) PySem.F.slot_list_insert PySem.F.type_list_insert mt_insert insert_ok ho ha hp hq hl hs
    | extend => exact l_mt PySem.F.plainAttrs_list (fun r h q => recv_list (e := .extend) r h (fun z => nomatch z) (fun z => nomatch z) q) PySem.F.slot_list_extend PySem.F.type_list_extend mt_extend extend_ok ho ha hp hq hl hs
    | index => exact l_mt PySem.F.plainAttrs_list (fun r h q => recv_list (e := .index) r h (fun z => nomatch z) (fun z => nomatch z) q) PySem.F.slot_list_index PySem.F.type_list_index (mt_indexD (units_of g.room)) index_ok ho ha hp hq hl hs
    | split => exact l_mt PySem.F.plainAttrs_str (fun r h q => str_ty (e := .split) (.inl rfl) r h q) PySem.F.slot_str_split PySem.F.type_str_split mt_split me_split ho ha hp hq hl hs
    | join => exact l_mt PySem.F.plainAttrs_str (fun r h q => str_ty (e := .join) (.inr rfl) r h q) PySem.F.slot_str_join PySem.F.type_str_join mt_join me_join ho ha hp hq hl hs
/-! ### what loops walk -/
theorem l_rng1 {tg : Expr} {f : Str} {p : Pos} (g : Gd nm T er k C X) (hf : f = ("range" : Str)) (hg : glB X.env.scope f = true) (hs : noStar a = true) (ha : PX X er Wx a ra) : PI X tg (.Call (.Name f p) [a] [] pos) (tI X.K er Wx fun env st => (ra env st).bind fun w st => (match w with
    | .d (.int j) => if -(2 ^ 62) ≤ j ∧ j < 2 ^ 62 then .ok (.inl (rngL 0 j)) st else .bad
    | _ => .bad)) := by
  subst hf
  refine PI.imp (pi_range1 (is_of hg) g.lk.rng (pa_cons ha.pe pa_nil (star_of hs)) (star_of hs)) fun σ H R h => ?_
  obtain ⟨O, m, st, env, rp, en, h⟩ := h
  refine tE_mk rp en ((seqI (rel := relW X.K O) rp en h).imp fun x H1 ⟨m1, st1, w, e1, r1, en1, rl1, q1⟩ => ?_)
  split at q1
  · rename_i j
    by_cases c : -(2 ^ 62) ≤ j ∧ j < 2 ^ 62
    · rw [if_pos c] at q1
      have q2 := q1 H1 m1 (Itr 0 (j - 0).toNat) Ext.refl r1 fun H2 O2 m2 _ => wk_rng 0 j H2 O2 m2
      rw [Int.sub_zero] at q2
      exact ⟨j, by rw [show x = .int j from rl1], c.1, c.2, q2⟩
    · rw [if_neg c] at q1; exact q1.elim
  · exact q1.elim
theorem l_rng2 {tg : Expr} {f : Str} {p : Pos} (g : Gd nm T er k C X) (hf : f = ("range" : Str)) (hg : glB X.env.scope f = true) (hs : noStar a = true) (hs2 : noStar b = true) (ha : PX X er Wx a ra) (hb : PX X er Wx b rb) : PI X tg (.Call (.Name f p) [a, b] [] pos) (tI X.K er Wx fun env st => (ra env st).bind fun v st => (rb env st).bind fun w st => (match v, w with
    | .d (.int i), .d (.int j) => if -(2 ^ 62) ≤ i ∧ i < 2 ^ 62 ∧ -(2 ^ 62) ≤ j ∧ j < 2 ^ 62 then .ok (.inl (rngL i j)) st else .bad
    | _, _ => .bad)) := by
  subst hf
  refine PI.imp (pi_range2 (is_of hg) g.lk.rng (pa_cons ha.pe (pa_cons hb.pe pa_nil (star_of hs2)) (star_of hs)) (by rw [star_of hs, star_of hs2]; rfl) (star_of hs2)) fun σ H R h => ?_
  obtain ⟨O, m, st, env, rp, en, h⟩ := h
  refine tE_mk rp en ((seqI (rel := relW X.K O) rp en h).imp fun x H1 ⟨m1, st1, v, e1, r1, en1, rl1, q1⟩ => ?_)
  refine tE_mk r1 en1 ((seqI (rel := relW X.K O) r1 en1 q1).imp fun y H2 hh => ?_)
  obtain ⟨m2, st2, w, e2, r2, en2, rl2, q2⟩ := hh
  have rl9 := WV.ext r1.mut e2 rl1
  clear q1 rl1
  split at q2
  · rename_i i j
    by_cases c : -(2 ^ 62) ≤ i ∧ i < 2 ^ 62 ∧ -(2 ^ 62) ≤ j ∧ j < 2 ^ 62
    · rw [if_pos c] at q2
      exact ⟨i, j, by rw [show x = .int i from rl9, show y = .int j from rl2], c, q2 H2 m2 _ Ext.refl r2 fun H3 O3 m3 _ => wk_rng i j H3 O3 m3⟩
    · rw [if_neg c] at q2; exact q2.elim
  · exact q2.elim
/-! ### targets -/
theorem nm_pg {cl : Bool} (hcl : cl = true → ∀ x, X.fn x = true) {N : List Str} {sc : Scope} {i : Nat} {tg : Expr} (hN : X.N.Nodup) (eN : N = X.N) (es : sc = X.env.scope) (h : nmB cl N sc i tg = true) : PG X tg (gName i) := by
  subst eN es
  unfold nmB at h
  split at h
  · simp only [Bool.and_eq_true, Bool.or_eq_true, decide_eq_true_eq] at h
    rcases h.2 with h2 | h2
    · exact pg_name hN h.1 (.inl (is_of h2)) (.inr (is_of h2))
    · exact pg_name hN h.1 (.inr (is_of h2.2)) (.inl (hcl h2.1 _))
  · cases h
theorem nms_pg {cl : Bool} (hcl : cl = true → ∀ x, X.fn x = true) {N : List Str} {sc : Scope} (hN : X.N.Nodup) (eN : N = X.N) (es : sc = X.env.scope) : ∀ {is : List Nat} {tgs : List Expr}, nmsB cl N sc is tgs = true → PGs X tgs (gPat.gNs is) ∧ (assignEach tgs X.env).length = is.length ∧ (assignEach tgs X.env).findIdx? (·.1) = none
  | [], [], _ => ⟨pgs_nil, rfl, rfl⟩
  | [], _ :: _, h => by cases h
  | _ :: _, [], h => by cases h
  | i :: is, t :: ts, h => by
    unfold nmsB at h
    simp only [Bool.and_eq_true] at h
    obtain ⟨h1, h2, h3⟩ := nms_pg hcl hN eN es h.2
    have ht := h.1
    unfold nmB at ht
    split at ht
    · rename_i x p
      refine ⟨pgs_cons (nm_pg hcl hN eN es h.1) h1, ?_, ?_⟩
      · show (assignEach ts X.env).length + 1 = is.length + 1
        rw [h2]
      · show ((false, assign (.Name x p) X.env) :: assignEach ts X.env).findIdx? (·.1) = none
        rw [List.findIdx?_cons, h3]
        rfl
    · cases ht
theorem pa_pg {cl : Bool} (hcl : cl = true → ∀ x, X.fn x = true) {N : List Str} {sc : Scope} {p : Pa} {tg : Expr} (hc : X.calm = true) (hN : X.N.Nodup) (eN : N = X.N) (es : sc = X.env.scope) (h : paB cl N sc p tg = true) : PG X tg (gPat X.K p) := by
  unfold paB at h
  split at h
  · exact nm_pg hcl hN eN es h
  · obtain ⟨h1, h2, h3⟩ := nms_pg hcl hN eN es h
    exact pg_tup hc h1 h2 h3
  · cases h
/-! ### comprehensions -/
theorem takesF {X : Cx} : Takes X WF := fun u s' ⟨_, _, _, _, _, _, _, _, _, _, _, _, _, _, _, _, h⟩ => h.elim
theorem Gd.blk (g : Gd nm T er k C X) (s : Shared) (H : Hp) (scope : Scope) (cenv : Env) (fp : List Addr) : Gd nm T er k C (X.blk s H scope cenv fp) := ⟨g.calm, g.nd, g.room, g.lk, g.grd⟩
theorem fold_of {iter : Expr} {env : Env} (h : noSet iter = true) : ∀ x, foldedSetIterable iter env x = pure x := by
  intro x
  cases iter <;> first | rfl | cases h
theorem own_slots (N : List Str) (own : List Nat) : (ownP N own).map (·.2) = own := by
  unfold ownP
  rw [List.map_map]
  exact List.map_id' own
theorem body_comp {K : PySem.W.Frag} {re : Ev → Sto → R W} : BodyOk K tYes (tE K er WF re) (fun env st => (re env st).bind fun y st => .ok (some y) st) := by
  intro σ H O m st env N1 N0 rp en h
  show if true = true then tE K er WF re σ H N1 else N0 H
  refine iteT (tE_mk rp en ?_)
  have h : PostB K O ((re env st).bind fun y st => .ok (some y) st) H m N1 N0 := h
  cases hr : re env st with
  | bad => simp only [hr] at h; exact h.elim
  | exc c p s' => simp only [hr] at h; exact h.elim
  | ok w s' => simp only [hr] at h; exact h
theorem body_compIf {K : PySem.W.Frag} {rc re : Ev → Sto → R W} : BodyOk K (tT K er WF fun env st => (rc env st).tst) (tE K er WF re) (fun env st => (rc env st).tst.bind fun k st => (match k with
    | true => (re env st).bind fun y st => .ok (some y) st
    | false => .ok none st)) := by
  intro σ H O m st env N1 N0 rp en h
  refine ⟨O, m, st, env, rp, en, ?_⟩
  show PostG K er WF O relB ((rc env st).tst) σ H m _
  have h : PostB K O ((rc env st).tst.bind fun k st => (match k with
    | true => (re env st).bind fun y st => .ok (some y) st
    | false => .ok none st)) H m N1 N0 := h
  cases hc : (rc env st).tst with
  | bad => rw [hc] at h; exact h.elim
  | exc c p s' => rw [hc] at h; exact h.elim
  | ok kk s1 =>
    rw [hc] at h
    intro H1 m1 b e1 r1 eb
    have eb : b = kk := eb
    subst eb
    cases b with
    | false => exact iteF (h H1 m1 e1 r1)
    | true =>
      refine iteT (tE_mk r1 (en.ext rp.mut e1) ?_)
      have h : PostB K O ((re env s1).bind fun y st => .ok (some y) st) H m N1 N0 := h
      cases hr : re env s1 with
      | bad => simp only [hr] at h; exact h.elim
      | exc c p s' => simp only [hr] at h; exact h.elim
      | ok w s' =>
        simp only [hr] at h
        exact fun H' m' y e2 r2 hw => h H' m' y (e1.trans e2 r1) r2 hw
theorem l_comp {mm : Bool} {p : Pa} {own : List Nat} {elt tg iter : Expr} {scope : Scope} {ri : Ev → Sto → R (List W ⊕ Nat)} {re : Ev → Sto → R W} (g : Gd nm T er k C X) (hi : PI X tg iter (tI X.K er Wx ri)) (hb : blkC X.N X.env.scope scope (ownP X.N own) = true) (hp : paB false X.N (relS scope X.env.scope) p tg = true)
    (hq : (paSl p).all (own.contains ·) = true) (he : ∀ (s : Shared) (H : Hp) (L : Addr) (cl : List (Str × Addr)) (fp : List Addr), PX (X.blk s H scope (compEnvC scope cl L X.env) fp) er WF elt re) (hs : noSet iter = true) :
    PX X er Wx (.ListComp elt [⟨tg, iter, [], 0⟩] scope pos) (compW ri (fun env st => (re env st).bind fun y st => .ok (some y) st) p own mm) := by
  have hq' : ∀ i ∈ paSl p, i ∈ own := fun i hi => by
    have := List.all_eq_true.mp hq i hi
    simpa using this
  refine px_of (PE.imp (pe_lc (g := gPat X.K p) (tt := tYes) (te := tE X.K er WF re) g.calm g.nd hi (blkOk_by hb) (fun s H L cl fp => pa_pg (X := X.blk s H scope (compEnvC scope cl L X.env) fp) (cl := false) (fun z => nomatch z) g.calm g.nd rfl rfl hp) (fun s H L cl fp => pts_nil) (fun s H L cl fp => (he s H L cl fp).pe) (fold_of hs)) fun σ H Q q => ?_) (fun _ => rfl) rfl
  rw [own_slots]
  exact comp_ok body_comp hq' q
theorem l_compIf {mm : Bool} {p : Pa} {own : List Nat} {elt tg iter c : Expr} {scope : Scope} {ri : Ev → Sto → R (List W ⊕ Nat)} {re rc : Ev → Sto → R W} (g : Gd nm T er k C X) (hi : PI X tg iter (tI X.K er Wx ri)) (hb : blkC X.N X.env.scope scope (ownP X.N own) = true) (hp : paB false X.N (relS scope X.env.scope) p tg = true)
    (hq : (paSl p).all (own.contains ·) = true) (he : ∀ (s : Shared) (H : Hp) (L : Addr) (cl : List (Str × Addr)) (fp : List Addr), PX (X.blk s H scope (compEnvC scope cl L X.env) fp) er WF elt re)
    (hc : ∀ (s : Shared) (H : Hp) (L : Addr) (cl : List (Str × Addr)) (fp : List Addr), PX (X.blk s H scope (compEnvC scope cl L X.env) fp) er WF c rc) (hs : noSet iter = true) :
    PX X er Wx (.ListComp elt [⟨tg, iter, [c], 0⟩] scope pos) (compW ri (fun env st => (rc env st).tst.bind fun k st => (match k with
      | true => (re env st).bind fun y st => .ok (some y) st
      | false => .ok none st)) p own mm) := by
  have hq' : ∀ i ∈ paSl p, i ∈ own := fun i hi => by
    have := List.all_eq_true.mp hq i hi
    simpa using this
  refine px_of (PE.imp (pe_lc (g := gPat X.K p) (tt := tT X.K er WF fun env st => (rc env st).tst) (te := tE X.K er WF re) g.calm g.nd hi (blkOk_by hb) (fun s H L cl fp => pa_pg (X := X.blk s H scope (compEnvC scope cl L X.env) fp) (cl := false) (fun z => nomatch z) g.calm g.nd rfl rfl hp) (fun s H L cl fp => pts_one (hc s H L cl fp).pt) (fun s H L cl fp => (he s H L cl fp).pe) (fold_of hs)) fun σ H Q q => ?_) (fun _ => rfl) rfl
  rw [own_slots]
  exact comp_ok body_compIf hq' q
/-! ### f-strings -/
/-- the parts' readings, behind acc -/
def FsOk (K : PySem.W.Frag) (er : Er) (Wx : WX) (ts : List TE) (rs : Str → Ev → Sto → R Str) : Prop :=
  ∀ (acc : Str) (σ : L2.St) (H : Hp) (O m : List Addr) (st : Sto) (env : Ev) (Q : Str → Hp → Prop), Rep K H O m st → EnvOk K H O m env σ → PostG K er Wx O (fun _ _ a b => b = a) (rs acc env st) σ H m Q → tJs ts acc σ H Q
theorem l_fnil : FsOk X.K er Wx [] (evF T C .nil) := by
  intro acc σ H O m st env Q rp en h
  unfold evF at h
  exact PostG.here h rp rfl
def stepF (ra : Ev → Sto → R W) (rs : Str → Ev → Sto → R Str) : Str → Ev → Sto → R Str := fun acc env st => (ra env st).bind fun w st => (match txtO w with
    | some y => if (acc ++ y).length ≤ sizeLine then rs (acc ++ y) env st else .bad
    | none => .bad)
theorem l_fcons {ts : List TE} {rs : Str → Ev → Sto → R Str} (hr : FsOk X.K er Wx ts rs) : FsOk X.K er Wx (tFmt (tE X.K er Wx ra) :: ts) (stepF ra rs) := by
  intro acc σ H O m st env Q rp en h
  refine tE_mk rp en ((seqG (rel := relW X.K O) rp en h).imp fun x H1 ⟨m1, st1, w, e1, r1, en1, rl1, q1⟩ => ?_)
  cases ht : txtO w with
  | none => rw [ht] at q1; exact q1.elim
  | some y =>
    rw [ht] at q1
    dsimp only at q1
    by_cases c : (acc ++ y).length ≤ sizeLine
    · rw [if_pos c] at q1
      have q2 := hr (acc ++ y) σ H1 O m1 st1 env Q r1 en1 q1
      unfold txtO at ht
      split at ht
      · rename_i z
        by_cases c2 : z.length ≤ sizeLine
        · rw [if_pos c2] at ht; cases ht
          exact .inl ⟨_, rl1, c2, _, rfl, c, q2⟩
        · rw [if_neg c2] at ht; cases ht
      · rename_i i
        by_cases c2 : i.natAbs.log2 < 1920
        · rw [if_pos c2] at ht; cases ht
          exact .inr ⟨i, rl1, c2, toString i, rfl, c, q2⟩
        · rw [if_neg c2] at ht; cases ht
      · cases ht
    · rw [if_neg c] at q1; exact q1.elim
theorem l_flit {s : Str} {ts : List TE} {rs : Str → Ev → Sto → R Str} (hr : FsOk X.K er Wx ts rs) : FsOk X.K er Wx (tE X.K er Wx (ev T C (.lit (.str s))) :: ts) (stepF (ev T C (.lit (.str s))) rs) := by
  intro acc σ H O m st env Q rp en h
  refine tE_mk rp en fun H1 m1 x e1 r1 rl1 => ?_
  have q1 : PostG X.K er Wx O (fun _ _ a b => b = a) (match txtO (.d (.str s)) with
    | some y => if (acc ++ y).length ≤ sizeLine then rs (acc ++ y) env st else .bad
    | none => .bad) σ H m Q := h
  have ht : txtO (.d (.str s)) = if s.length ≤ sizeLine then some s else none := rfl
  rw [ht] at q1
  by_cases c2 : s.length ≤ sizeLine
  · rw [if_pos c2] at q1
    dsimp only at q1
    by_cases c : (acc ++ s).length ≤ sizeLine
    · rw [if_pos c] at q1
      exact ⟨s, rl1, c, hr (acc ++ s) σ H1 O m1 st env Q r1 (en.ext rp.mut e1) (PostG.fwd q1 e1 r1)⟩
    · rw [if_neg c] at q1; exact q1.elim
  · rw [if_neg c2] at q1; exact q1.elim
theorem l_fstr {v1 v2 : Expr} {es : List Expr} {ts : List TE} {rs : Str → Ev → Sto → R Str} (hj : PJ X (v1 :: v2 :: es) ts) (hr : FsOk X.K er Wx ts rs) : PX X er Wx (.JoinedStr (v1 :: v2 :: es) pos) (fun env st => (rs Str.empty env st).bind fun z st => .ok (.d (.str z)) st) := by
  refine px_of (PE.imp (pe_joined hj) fun σ H Q q => ?_) (fun _ => rfl) rfl
  obtain ⟨O, m, st, env, rp, en, q⟩ := q
  refine hr Str.empty σ H O m st env _ rp en ((seqG (rel := fun _ _ a b => b = a) rp en q).imp fun z H1 ⟨m1, st1, w, e1, r1, en1, rl1, q1⟩ => ?_)
  have rl1 : z = w := rl1
  subst rl1
  exact done_str r1 q1
end
end LL

set_option Elab.async false
set_option linter.all false
set_option maxRecDepth 100000
set_option maxHeartbeats 2000000
set_option autoImplicit false
/-! LTx: (e1, .., en).index(x): texts. -/
namespace LL
open PySem PySem.Spec PyProof.Rows L2
def tTix (t : TA) (ta : TE) : TE := fun σ H Q => t σ H fun xs H1 => xs.length ≤ sizeLine ∧ ta σ H1 fun y H2 => ∃ ys : List Str, ∃ z j, xs = ys.map V.str ∧ y = .str z ∧ ys[j]? = some z ∧ (∀ m, m < j → ys[m]? ≠ some z) ∧ Q (.int (j : Nat)) H2
theorem pe_tix {X : Cx} {es : List Expr} {t : TA} {a : Expr} {ta : TE} {x1 : _} {tpos apos cpos : Pos} (h : PA X es t) (ha : PE X a ta) (hl : (apos.endLine == cpos.line) = true) (na : starEach [a] X.env = (false, eval a X.env) :: starEach [] X.env) (hb : attributeBase (.Tuple es x1 tpos) "index" X.env (eval (.Tuple es x1 tpos) X.env) = eval (.Tuple es x1 tpos) X.env) :
    PE X (.Call (.Attribute (.Tuple es x1 tpos) "index" apos) [a] [] cpos) (tTix t ta) := by
  refine ⟨fun pins s σ H Q I hq => ?_⟩
  refine wpAny_Call_method_late hb (by rw [na]; rfl) hl rfl (wpAny_Tuple_spliced (thn (h.run tpos pins s σ H _ I hq) fun us s1 ⟨xs, H1, I1, r, hz, q⟩ => ⟨by rw [← r.length]; exact hz, ?_⟩))
  have hp : (s1.heap.push { cls := .type "tuple", data := .seq us.toArray }).get? s1.heap.objs.size = some { cls := .type "tuple", data := .seq us.toArray } := Heap.get?_push_size _ rfl
  have I2 : Inv X pins σ H1 { s1 with heap := s1.heap.push { cls := .type "tuple", data := .seq us.toArray } } := I1.kept (t' := s1.toks) fun b o e => Heap.get?_push_of_some _ e
  have hf : H1 s1.heap.objs.size = none := I1.hok.fresh (Nat.le_refl _)
  have I3 : Inv X ((s1.heap.objs.size, { cls := .type "tuple", data := .seq us.toArray }) :: pins) σ H1 { s1 with heap := s1.heap.push { cls := .type "tuple", data := .seq us.toArray } } := I2.pins_of fun p hp' => by
    rcases List.mem_cons.mp hp' with rfl | hp'
    · exact ⟨hp, hf, Nat.ne_of_gt I1.lt, I1.nofs (Nat.le_refl _), fun v e => nomatch e⟩
    · exact I2.pin p (List.mem_append_right _ hp')
  refine ⟨"tuple", "tuple.index", PySem.F.plainAttrs_tuple, PySem.F.slot_tuple_index, PySem.F.type_tuple_index, ⟨_, hp, rfl⟩, fun b e => by cases e; exact ⟨_, hp, rfl⟩, ?_⟩
  have hA := (pa_cons ha pa_nil na).run cpos _ _ σ H1 (fun ws H2 => match ws with
    | [y] => ∃ ys : List Str, ∃ z j, xs = ys.map V.str ∧ y = .str z ∧ ys[j]? = some z ∧ (∀ m, m < j → ys[m]? ≠ some z) ∧ Q (.int (j : Nat)) H2
    | _ => False) I3 q
  rw [na] at hA ⊢
  refine Calls.callWith_builtin rfl (Calls.evalArgs_plain ?_)
  refine thn hA fun vs s2 ⟨ws, H2, I4, r2, q2⟩ => ?_
  match ws, r2, q2 with
  | [y], r2, q2 =>
    obtain ⟨ys, z, j, rfl, rfl, hy, hno, q2⟩ := q2
    obtain ⟨u, rfl, t, rfl⟩ := vals1 r2
    have ho := ClX.pin_at I4
    have hlen : us.toArray.size = ys.length := by rw [List.size_toArray, ← r.length, List.length_map]
    have hj : j < us.toArray.size := by rw [hlen]; exact (List.getElem?_eq_some_iff.mp hy).1
    have at' : ∀ (m : Nat) (hm : m < us.toArray.size), ∃ y t', ys[m]? = some y ∧ us.toArray[m] = Value.str y t' := fun m hm => by
      have hm' : m < ys.length := by rw [← hlen]; exact hm
      obtain ⟨w, hw, t', hw'⟩ := r.get (i := m) (x := .str ys[m]) (by simp [hm'])
      refine ⟨ys[m], t', List.getElem?_eq_getElem hm', ?_⟩
      have e := (List.getElem?_eq_some_iff.mp hw).2
      rw [← hw', ← e]
      simp
    refine call_meets PySem.F.slot_tuple_index ⟨_, ho, rfl⟩ PySem.F.entry_tuple_index (PySem.F.args_tuple_index_2 _ _) (TI.tuple_indexAt s1.heap.objs.size us.toArray _ _ _ (.str z t) (eqU (.str z)) j hj ?_ ?_)
      ⟨ho, fun w hw => mem_eqAt (x := .str z) ⟨t, rfl⟩ rfl r (flat_strs ys) w (by simpa using hw), ⟨.int (j : Nat), H2, (ClX.unpin I4).tok _, ⟨_, rfl⟩, q2⟩⟩
    · obtain ⟨y, t', h1, h2⟩ := at' j hj
      rw [hy] at h1
      cases h1
      rw [h2]
      exact beq_self_eq_true z
    · intro m hm hmj
      obtain ⟨y, t', h1, h2⟩ := at' m hm
      rw [h2]
      show (y == z) = false
      exact beq_eq_false_iff_ne.mpr fun e => hno m hmj (e ▸ h1)
end LL

set_option Elab.async false
set_option linter.all false
set_option maxRecDepth 100000
set_option maxHeartbeats 2000000
set_option autoImplicit false
/-! LTy: (e1, .., en).index(x); str of a tuple. -/
namespace LL
open PySem PySem.Spec PyProof.Rows L2
theorem idxS_ok {z : Str} : ∀ {ys : List Str} {j : Nat}, idxS z ys = some j → ys[j]? = some z ∧ ∀ m, m < j → ys[m]? ≠ some z
  | [], j, h => by cases h
  | y :: ys, j, h => by
    unfold idxS at h
    by_cases c : y = z
    · rw [if_pos c] at h
      cases h
      exact ⟨by rw [c]; rfl, fun m hm => by omega⟩
    · rw [if_neg c] at h
      cases e : idxS z ys with
      | none => rw [e] at h; cases h
      | some i =>
        rw [e] at h
        cases h
        obtain ⟨h1, h2⟩ := idxS_ok e
        refine ⟨by simpa using h1, fun m hm => ?_⟩
        cases m with
        | zero => intro q; simp at q; exact c q
        | succ m =>
          have hm : m + 1 < i + 1 := hm
          have := h2 m (by omega)
          simpa using this
def rStt (K : PySem.W.Frag) : List V → Hp → VK → Prop := fun xs H Q => ∃ p d, xs = [V.ref p] ∧ Dp K H (.ref p) d ∧ d.showable = true ∧ d.hasDict = false ∧ d.depth ≤ 64 ∧ d.shown.length ≤ sizeLine ∧ Q (.str d.shown) H
theorem call_str_dp {X : Cx} (hg : X.A.guards = some []) (hu : X.A.units + 80 < cLine) : CallR X (.type "str") (rStt X.K) := by
  intro pins s σ H xs us Q I r h
  obtain ⟨p, d, rfl, hd, hs, hn, hdp, hz, q⟩ := h
  obtain ⟨u, rfl, ru⟩ := r.one
  cases ru
  obtain ⟨as, rd⟩ := Dp.reads I d (.ref p) (.ref p) hd rfl
  exact PySem.str_of_reads rd hs (PyData.noDict_hsm hn) hg (by omega) (fun _ _ e => e) (fun h' u tk hk => ⟨.str _, H, I.kept (t' := tk) hk, ⟨_, rfl⟩, q⟩) hz
section
variable {nm : Nam} {T : Tab} {er : Er} {k : Nat} {C : Cal} {X : Cx} {Wx : WX}
theorem l_tix {n : Str} {x1 : _} {tp ap cp : Pos} {ys : List Expr} {y : Expr} {rs : Ev → Sto → R (List W)} {ra : Ev → Sto → R W} (hn : n = ("index" : Str)) (hl : ap.endLine = cp.line) (hs : noStar y = true) (hes : PA X ys (tA X.K er Wx rs)) (ha : PX X er Wx y ra) :
    PX X er Wx (.Call (.Attribute (.Tuple ys x1 tp) n ap) [y] [] cp) (fun env st => (rs env st).bind fun ws st => (match decide (ws.length ≤ sizeLine) with
    | true => (ra env st).bind fun w st => tixW ws w st
    | false => .bad)) := by
  subst hn
  refine px_of (PE.imp (pe_tix hes ha.pe (by simpa using hl) (star_of hs) (base_of rfl)) fun σ H Q q => ?_) (fun _ => rfl) rfl
  obtain ⟨O, m, st, env, rp, en, q⟩ := q
  refine ⟨O, m, st, env, rp, en, (seqG (rel := relWs X.K O) rp en q).imp fun vs H1 ⟨m1, st1, ws, e1, r1, en1, rl1, q1⟩ => ?_⟩
  by_cases c : ws.length ≤ sizeLine
  · rw [decide_eq_true c] at q1
    have hv := WVs.length rl1
    refine ⟨by rw [← hv]; exact c, tE_mk r1 en1 ((seqG (rel := relW X.K O) r1 en1 q1).imp fun y H2 ⟨m2, st2, w, e2, r2, en2, rl2, q2⟩ => ?_)⟩
    unfold tixW at q2
    split at q2
    · rename_i ys z hy
      obtain ⟨w', ew, q2⟩ := PostG.ofO q2
      cases hj : idxS z ys with
      | none => rw [hj] at ew; cases ew
      | some j =>
        rw [hj] at ew; cases ew
        obtain ⟨h1, h2⟩ := idxS_ok hj
        exact ⟨ys, z, j, strsO_ok hy rl1, rl2, h1, h2, done_int r2 q2⟩
    · exact q2.elim
  · rw [decide_eq_false c] at q1
    exact q1.elim
theorem l_stt {x : Str} {p pos : Pos} {y : Expr} {ra : Ev → Sto → R W} (g : Gd nm T er k C X) (hx : x = ("str" : Str)) (hb : nm.bi .str = true) (hg : glB X.env.scope x = true) (hs : noStar y = true) (ha : PX X er Wx y ra) :
    PX X er Wx (.Call (.Name x p) [y] [] pos) (fun env st => (ra env st).bind fun w st => sttW T.grd w st) := by
  subst hx
  have fin : ∀ {r : List V → Hp → VK → Prop}, CallR X (.type "str") r → PE X (.Call (.Name "str" p) [y] [] pos) (tCB r (tCons (tE X.K er Wx ra) tNil)) := fun hc =>
    pe_callTy hc (is_of hg) (g.lk.blt _ hb (fun z => nomatch z)) (by decide +kernel) (pa_cons ha.pe pa_nil (star_of hs)) (biN_plain .str).1 (biN_plain .str).2 (star_of hs) rfl
  refine px_of ?_ (fun _ => rfl) rfl
  cases hgr : T.grd with
  | false =>
    refine PE.imp (fin (r := fun _ _ _ => False) fun pins s σ H xs us Q I r h => h.elim) fun σ H Q q => ?_
    obtain ⟨O, m, st, env, rp, en, q⟩ := q
    refine tE_mk rp en ((seqG (rel := relW X.K O) rp en q).imp fun y H1 ⟨m1, st1, w, e1, r1, en1, rl1, q1⟩ => ?_)
    unfold sttW at q1
    split at q1
    · rw [if_neg (fun z => nomatch z.1)] at q1
      exact q1.elim
    · exact q1.elim
  | true =>
    refine PE.imp (fin (call_str_dp (g.grd hgr) (by have := g.room.un; omega))) fun σ H Q q => ?_
    obtain ⟨O, m, st, env, rp, en, q⟩ := q
    refine tE_mk rp en ((seqG (rel := relW X.K O) rp en q).imp fun y H1 ⟨m1, st1, w, e1, r1, en1, rl1, q1⟩ => ?_)
    unfold sttW at q1
    split at q1
    · rename_i xs
      by_cases c : true = true ∧ (D.tup xs).shp = true ∧ (D.tup xs).py.showable = true ∧ (D.tup xs).py.hasDict = false ∧ (D.tup xs).py.shown.length ≤ sizeLine
      · rw [if_pos c] at q1
        obtain ⟨_, c1, c2, c3, c4⟩ := c
        have d := DV.dp (.tup xs) y rl1 (SeqAt.canLay_of_shaped c1)
        have hd : (D.tup xs).py.depth ≤ 64 := by
          unfold D.shp SeqAt.shaped at c1
          exact of_decide_eq_true (Bool.and_eq_true_iff.mp c1).2
        obtain ⟨p, rfl⟩ : ∃ p, y = .ref p := by
          have rl2 : WV X.K H1 O m1 (.d (.tup xs)) y := rl1
          unfold WV DV at rl2
          obtain ⟨p, vs, e, _⟩ := rl2
          exact ⟨p, e⟩
        exact ⟨p, (D.tup xs).py, rfl, d, c2, c3, hd, c4, done_str r1 q1⟩
      · rw [if_neg c] at q1
        exact q1.elim
    · exact q1.elim
theorem px_bad {e : Expr} : PX X er Wx e (fun _ _ => .bad) := by
  refine ⟨⟨fun pins s σ H Q I h => ?_⟩, ⟨fun pins s σ H Q I h => ?_⟩, fun _ => ⟨?_⟩⟩
  · obtain ⟨O, m, st, env, rp, en, q⟩ := h
    exact q.elim
  · obtain ⟨O, m, st, env, rp, en, q⟩ := h
    exact q.elim
  · intros
    rename_i h
    obtain ⟨O, m, st, env, rp, en, q⟩ := h
    exact q.elim
end
end LL

set_option Elab.async false
set_option linter.all false
set_option maxRecDepth 100000
set_option maxHeartbeats 4000000
set_option autoImplicit false
/-! LTz: own errors as values (made, read, asked of their class); new objects. -/
namespace LL
open PySem PySem.Spec PyProof.Rows L2
section
variable {nm : Nam} {T : Tab} {er : Er} {k : Nat} {C : Cal} {X : Cx} {Wx : WX}
/-! ### the library's side -/
/-- C(e) of an own error class, not raised -/
def tMkV (Ca : Addr) (sp : Sp) (ta : TA) : TE := fun σ H Q => ta σ H fun vs H1 => vs.length ≤ 1000 ∧ ∀ a, H1 a = none → sp (.ref a :: vs) (upd H1 a (exo a Ca none)) (fun v H2 => v = .non ∧ Q (.ref a) H2) (fun _ _ _ => False)
theorem pe_oexv {x f : Str} {Ca : Addr} {p pos : Pos} {e : Expr} {ta : TA} (hr : Room 2 X.A) (tk : Takes X Wx) (F : ExF X.prog X.w X.K X.mg X.base Ca x f) (hg : Gl X x) (hdb : (x == ("__debug__" : Str)) = false) (ha : PA X [e] ta) (hs : noStar e = true) :
    PE X (.Call (.Name x p) [e] [] pos) (tMkV Ca (spI X.K f) ta) := by
  obtain ⟨fI, fd, y, z, iC, tI, F1, hb⟩ := F.ini
  have passF : Passes (L2.CX X.prog X.w) X (fun _ _ _ => False) := passes_call tk fun _ _ _ _ z => z.elim
  refine ⟨fun pins s σ H Q I h => ?_⟩
  obtain ⟨n0, q0, N0, bs0, bm0, sn0, su0, ab0, co0, dd0, c0, c1, c2, c3, c5, hC, hbm⟩ := F.ox.cls
  refine wpAny_Call_Name_kw (ld_glob I hg F.gl ?_ hdb)
  refine PySem.W.callWith_K (h₀ := X.base) I.ok.mod.kin F.ox.kC (thn (ha.run pos pins s σ H _ I h) fun us s1 hh => ⟨hh.choose_spec.choose_spec.1.kIn, ?_⟩) (star_of hs) rfl
  obtain ⟨vs, H1, I1, r1, hz, q1⟩ := hh
  show wpAny _ _ (call (.ref Ca) us) _ _ _
  obtain ⟨hp, gg, dr, tn, os⟩ := s1
  have hsz : hp.objs.size ≤ hp.objs.size + 1 := Nat.le_succ _
  have nw : H1 (hp.objs.size + 1) = none := I1.hok.fresh hsz
  have hq := q1 (hp.objs.size + 1) nw
  have kp : ∀ b o, hp.get? b = some o → ((hp.push (PySem.W.kdv_tup us)).push (PySem.HandSPX.excO Ca hp.objs.size)).get? b = some o :=
    fun b o e => Heap.get?_push_of_some _ (Heap.get?_push_of_some _ e)
  have here : ((hp.push (PySem.W.kdv_tup us)).push (PySem.HandSPX.excO Ca hp.objs.size)).get? (hp.objs.size + 1) = some (PySem.HandSPX.excO Ca hp.objs.size) := by heap_get
  have I2 : Inv X pins σ (upd H1 (hp.objs.size + 1) (exo (hp.objs.size + 1) Ca none)) ⟨(hp.push (PySem.W.kdv_tup us)).push (PySem.HandSPX.excO Ca hp.objs.size), gg, dr, tn, os⟩ :=
    I1.laid (t' := tn) (o := exo (hp.objs.size + 1) Ca none) kp hsz (exo_ok here)
  have rr : Vals (V.ref (hp.objs.size + 1) :: vs) (Value.ref (hp.objs.size + 1) :: us) := .cons rfl r1
  have hl : (Value.ref (hp.objs.size + 1) :: us).length = [y, z].length := by
    rw [← rr.length]
    exact F1.len _ _ _ _ hq
  have hus : us.length ≤ sizeLine := by
    have : us.length + 1 = 2 := hl
    rw [sizeLine_eq]
    omega
  have b := hb ⟨(hp.push (PySem.W.kdv_tup us)).push (PySem.HandSPX.excO Ca hp.objs.size), gg, dr, tn, os⟩ (Value.ref (hp.objs.size + 1) :: us) I2.kIn (by rw [List.append_nil]; exact hl)
  rw [List.append_nil] at b
  have go := F1.run _ X.stack _ _ ⟨Value.ref (hp.objs.size + 1) :: us, []⟩ _ _ _ (fun _ _ _ => False) (hr.make Ca us []) (I2.env0.make Ca us []) b rr hq
  refine wpAny_call (PySem.HandSPX.call_own PySem.F.excBase_ValueError (fun Y => PySem.HandSPX.refsVE_contains Y bm0 hbm) (I1.kIn _ _ hC) (PySem.W.looks_findIn I1.kIn iC) (fun self => PySem.W.bind_fn I1.kIn self tI) hus (codeAny_mono go fun r s' hq' => ?_))
  cases r with
  | error er => exact passF pins σ _ _ er s' I2 hq'
  | ok fl =>
    cases fl with
    | ret u =>
      obtain ⟨v, H', I3, rv, ev, q3⟩ := I2.after hq'
      subst ev
      exact ⟨rv, ⟨V.ref (hp.objs.size + 1), H', I3, rfl, q3⟩⟩
    | next => exact False.elim hq'
    | brk => exact False.elim hq'
    | cont => exact False.elim hq'
/-- an own error at rest: its object and its dict -/
def ErAt (H : Hp) (a d Ca : Addr) (fs : List (Str × V)) : Prop := H a = some (exo a Ca (some d)) ∧ H d = some (exd d fs)
theorem er_inst {pins : List (Addr × Obj)} {σ : L2.St} {H : Hp} {s : Shared} {a d Ca : Addr} {fs : List (Str × V)} (I : Inv X pins σ H s) (h : ErAt H a d Ca fs) : ∃ (oe od : Obj) (mA : Str → Option Value), PySem.W.InstAt s.heap a oe Ca (some od) ∧ s.heap.Ns1 d mA ∧ (∀ f, PySem.W.lookIn f od = some (mA f)) ∧ ∀ f, RelO (fs.lookup f) (mA f) := by
  obtain ⟨t1, ho⟩ := exo_at I.hok h.1
  obtain ⟨mA, hns, rel⟩ := exd_at I.hok h.2
  obtain ⟨od, hd, hl⟩ := lookIn_ns hns
  exact ⟨_, od, mA, ⟨ho, rfl, rfl, hd⟩, hns, hl, rel⟩
def tXat (K : PySem.W.Frag) (te : TE) (n : Str) : TE := fun σ H Q => te σ H fun x H1 => ∃ a d Ca fs v, x = .ref a ∧ ErAt H1 a d Ca fs ∧ XfC K Ca ∧ PySem.W.findIn K (.ref Ca) n = some none ∧ fs.lookup n = some v ∧ Q v H1
theorem pe_xat {e : Expr} {te : TE} {n : Str} {pos : Pos} (he : PE X e te) (hb : attributeBase e n X.env (eval e X.env) = eval e X.env) : PE X (.Attribute e n pos) (tXat X.K te n) := by
  refine ⟨fun pins s σ H Q I h => attr_of hb (thn (he.run pins s σ H _ I h) fun u s1 hh => ?_)⟩
  obtain ⟨x, H1, I1, rx, a, d, Ca, fs, v, ex, ea, xf, hno, l, q⟩ := hh
  subst ex
  obtain rfl : u = Value.ref a := rx
  obtain ⟨oe, od, mA, J, _, hl, rel⟩ := er_inst I1 ea
  obtain ⟨w, hw, rw'⟩ := RelO.some_of (v := v) (o := mA n) (by rw [← l]; exact rel n)
  exact HandSPX.exc_get I1.kIn J xf.ga xf.gg xf.exC (PySem.W.findObj_own xf.hdC hno rfl (by rw [hl, hw])) (handed_of rw') ⟨v, H1, I1.tok _, rw', q⟩
/-- isinstance(e, c) of an own error -/
def rIsX (K : PySem.W.Frag) : List V → Hp → VK → Prop := fun xs H Q => ∃ a d Ca fs c cv b, xs = [V.ref a, c] ∧ ErAt H a d Ca fs ∧ ExcC K Ca ∧ (∀ u, RelV c u → u = cv) ∧ PySem.W.kitOne K (.ref Ca) cv = some b ∧ Q (.bl b) H
theorem kitx_of {K : PySem.W.Frag} {Ca x : Addr} {ox : Obj} {od : Option Obj} (E : ExcC K Ca) : PySem.W.KitX K (.ref x) (.ref Ca) (fun h => PySem.W.InstAt h x ox Ca od) := by
  obtain ⟨cd, hc, _⟩ := PySem.W.any_some E.hd
  exact PySem.W.kitx_exc (by rw [hc]; rfl) E.hg E.hk E.hs E.ha E.hn E.ht E.hm
theorem call_isX : CallR X (.builtin "isinstance") (rIsX X.K) := by
  intro pins s σ H xs us Q I r h
  obtain ⟨a, d, Ca, fs, c, cv, b, rfl, ea, E, hcv, e, q⟩ := h
  obtain ⟨u1, u2, rfl, r1, r2⟩ := vals2 r
  have e2 := hcv _ r2
  subst e2
  obtain rfl : u1 = Value.ref a := r1
  obtain ⟨oe, od, mA, J, _⟩ := er_inst I ea
  exact PySem.W.kia_one (kitx_of E) I.kIn J e (fun z => nomatch z) fun tk => ⟨.bl b, H, I.tok tk, rfl, q⟩
/-- isinstance(e, c), e the error that the suite holds -/
def rIsH (K : PySem.W.Frag) (a : Addr) (cls : Value) (d : Option Addr) : List V → Hp → VK → Prop := fun xs H Q => ∃ Ca dd fs c cv b, xs = [V.ref a, c] ∧ cls = .ref Ca ∧ d = some dd ∧ H dd = some (.xd fs) ∧ ExcC K Ca ∧ (∀ u, RelV c u → u = cv) ∧ PySem.W.kitOne K (.ref Ca) cv = some b ∧ Q (.bl b) H
theorem call_isH {a : Addr} {oe : Obj} {cls : Value} {d : Option Addr} {pn : List (Addr × Obj)} (hz : Zc cls d oe) (hf : ∃ vs, oe.data = .fields vs) : CallR (X.suite a ((a, oe) :: pn)) (.builtin "isinstance") (rIsH X.K a cls d) := by
  intro pins s σ H xs us Q I r h
  obtain ⟨Ca, dd, fs, c, cv, b, rfl, rfl, rfl, hx, E, hcv, e, q⟩ := h
  obtain ⟨u1, u2, rfl, r1, r2⟩ := vals2 r
  have e2 := hcv _ r2
  subst e2
  obtain rfl : u1 = Value.ref a := r1
  obtain ⟨ha, _⟩ := I.pin (a, oe) (List.mem_append_left _ List.mem_cons_self)
  obtain ⟨vs, hd⟩ := hf
  have ok : ObjOk X.prog X.w H s.heap dd (.xd fs) := I.hok dd _ hx
  obtain ⟨mA, hns, hr⟩ := ok
  obtain ⟨od, ho, hl⟩ := lookIn_ns hns
  have J : PySem.W.InstAt s.heap a oe Ca (some od) := ⟨ha, hz.1, by unfold PySem.W.notCls; rw [hd] <;> rfl, by rw [hz.2]; exact ho⟩
  exact PySem.W.kia_one (kitx_of E) I.kIn J e (fun z => nomatch z) fun tk => ⟨.bl b, H, I.tok tk, rfl, q⟩
/-- e.n, e the error that the suite holds -/
def tXfh (K : PySem.W.Frag) (a : Addr) (cls : Value) (d : Option Addr) (n : Str) (te : TE) : TE := fun σ H Q => te σ H fun x H1 => x = .ref a ∧ ∃ Ca dd fs v, cls = .ref Ca ∧ d = some dd ∧ H1 dd = some (.xd fs) ∧ XfC K Ca ∧ PySem.W.findIn K (.ref Ca) n = some none ∧ fs.lookup n = some v ∧ Q v H1
theorem pe_xfh {a : Addr} {oe : Obj} {cls : Value} {d : Option Addr} {pn : List (Addr × Obj)} {e : Expr} {te : TE} {pos : Pos} {n : Str} (hz : Zc cls d oe) (hf : ∃ vs, oe.data = .fields vs) (he : PE (X.suite a ((a, oe) :: pn)) e te) (hb : attributeBase e n X.env (eval e X.env) = eval e X.env) :
    PE (X.suite a ((a, oe) :: pn)) (.Attribute e n pos) (tXfh X.K a cls d n te) := by
  refine ⟨fun pins s σ H Q I h => attr_of hb (thn (he.run pins s σ H _ I h) fun u s1 hh => ?_)⟩
  obtain ⟨x, H1, I1, rx, ex, Ca, dd, fs, v, ec, ed, ea, xf, hno, l, q⟩ := hh
  subst ex ec ed
  obtain rfl : u = Value.ref a := rx
  obtain ⟨ha, _⟩ := I1.pin (a, oe) (List.mem_append_left _ List.mem_cons_self)
  obtain ⟨vs, hd⟩ := hf
  have ok : ObjOk X.prog X.w H1 s1.heap dd (.xd fs) := I1.hok dd _ ea
  obtain ⟨mA, hns, hr⟩ := ok
  obtain ⟨od, ho, hl⟩ := lookIn_ns hns
  obtain ⟨w, hw, rw'⟩ := RelO.some_of (v := v) (o := mA n) (by rw [← l]; exact hr n)
  have J : PySem.W.InstAt s1.heap a oe Ca (some od) := ⟨ha, hz.1, by unfold PySem.W.notCls; rw [hd] <;> rfl, by rw [hz.2]; exact ho⟩
  exact HandSPX.exc_get I1.kIn J xf.ga xf.gg xf.exC (PySem.W.findObj_own xf.hdC hno rfl (by rw [hl, hw])) (handed_of rw') ⟨v, H1, I1.tok _, rw', q⟩
/-- C(e, ..) by an own __init__, which may raise -/
def tNewS (Ca : Addr) (sp : Sp) (E : L2.St → XK) (ta : TA) : TE := fun σ H Q => ta σ H fun vs H1 => ∀ x dx, H1 x = none → H1 dx = none → dx ≠ x → sp (.ref x :: vs) (upd (upd H1 dx (.own x)) x (.ins Ca dx [])) (fun v H2 => v = .non ∧ Q (.ref x) H2) (E σ)
theorem pe_newS {CX : CXT} {j : Nat} {f Ca : Addr} {fd : FuncData} {ps : List Str} {sp : Sp} {E : L2.St → XK} {x : Str} {p pos : Pos} {e : Expr} {es : List Expr} {ta : TA} (M : Mk X.K Ca f) (F : FnOk X.prog X.w X.K X.mg X.base CX j f fd ps sp) (hr : Room (j + 1) X.A) (hg : Gl X x) (hm : X.mg x = some (.ref Ca))
    (hb : Binds X.K fd ps []) (hx : ∀ σ, PassesAt CX X σ (E σ)) (ha : PA X (e :: es) ta) (hdb : (x == ("__debug__" : Str)) = false) (he : starEach (e :: es) X.env = (false, eval e X.env) :: starEach es X.env) (hpl : (backTo pos (starEach es X.env)).any (·.1) = false) :
    PE X (.Call (.Name x p) (e :: es) [] pos) (tNewS Ca sp E ta) := by
  refine ⟨fun pins s σ H Q I h => wpAny_Call_Name_kw (ld_glob I hg hm ?_ hdb)⟩
  refine PySem.W.callWith_K (h₀ := X.base) I.ok.mod.kin M.kp (thn (ha.run pos pins s σ H _ I h) fun us s1 hh => ⟨hh.choose_spec.choose_spec.1.kIn, ?_⟩) he hpl
  obtain ⟨vs, H1, I1, r1, q⟩ := hh
  have hq := q (s1.heap.objs.size + 1) s1.heap.objs.size (I1.hok.fresh (Nat.le_succ _)) (I1.hok.fresh (Nat.le_refl _)) (Nat.ne_of_lt (Nat.lt_succ_self _))
  have I2 := Inv.made (C := Ca) I1
  have rr : Vals (V.ref (s1.heap.objs.size + 1) :: vs) (Value.ref (s1.heap.objs.size + 1) :: us) := .cons rfl r1
  have hl : (Value.ref (s1.heap.objs.size + 1) :: us).length = ps.length := by
    rw [← rr.length]
    exact F.len _ _ _ _ hq
  have b := hb _ (Value.ref (s1.heap.objs.size + 1) :: us) I2.kIn (by rw [List.append_nil]; exact hl)
  rw [List.append_nil] at b
  have go := F.run _ X.stack _ _ ⟨Value.ref (s1.heap.objs.size + 1) :: us, []⟩ _ _ _ (E σ) (hr.make Ca us []) (I2.env0.make Ca us []) b rr hq
  refine wpAny_call (make_map (f := f) I1.kIn M.makes M.init (beq_iff_eq.mp M.fn) (codeAny_mono go fun r s' hq' => ?_))
  cases r with
  | error er => exact hx σ pins _ _ er s' I2 hq'
  | ok fl =>
    cases fl with
    | ret u =>
      obtain ⟨v, H', I3, rv, ev, q3⟩ := I2.after hq'
      subst ev
      exact ⟨rv, ⟨V.ref (s1.heap.objs.size + 1), H', I3, rfl, q3⟩⟩
    | next => exact False.elim hq'
    | brk => exact False.elim hq'
    | cont => exact False.elim hq'
/-! ### the evaluator's side -/
theorem fresh_out {K : PySem.W.Frag} {H : Hp} {O m : List Addr} {st : Sto} {a : Addr} (r : Rep K H O m st) (n : H a = none) : a ∉ O ++ m := fun z => by
  rcases List.mem_append.mp z with z | z
  · exact r.ol a z n
  · obtain ⟨o, h, _⟩ := r.there z
    rw [n] at h
    cases h
theorem l_mke {c : Nat} {x y f : Str} {p pos : Pos} {a : Expr} {ra : Ev → Sto → R W} (g : Gd nm T er k C X) (tk : Takes X Wx) (hex : nm.ex = true) (hmk : nm.mkr c = true) (hy : y = nm.er c) (hx : x = nm.er c) (hf : f = nm.an c) (hg : glB X.env.scope y = true) (ho : okName y = true) (hs : noStar a = true) (ha : PX X er Wx a ra) :
    PX X er Wx (.Call (.Name y p) [a] [] pos) (fun env st => (ra env st).bind fun w st => mkeW x f w st) := by
  have F := g.lk.emk hex c hmk
  have hca := g.lk.xs.ega c
  have han := g.lk.xs.ean c
  subst hy hx hf
  rw [han, hca] at F
  have hr : Room 2 X.A := g.room.mono (by omega)
  refine px_of (PE.imp (pe_oexv hr tk F (show X.env.kindOf (nm.er c) = some .globalImplicit from is_of hg) (okN ho).1 (l_acons ha (l_anil (T := T) (C := C)) hs) hs) fun σ H Q q => ?_) (fun _ => rfl) rfl
  obtain ⟨O, m, st, env, rp, en, q⟩ := q
  refine ⟨O, m, st, env, rp, en, ?_⟩
  dsimp only at q ⊢
  generalize ra env st = rr at q ⊢
  cases rr with
  | bad => exact q.elim
  | exc c' p' st' => exact q
  | ok w st1 =>
    cases w with
    | ref _ => exact q.elim
    | d y0 =>
      intro H1 m1 vs e1 r1 hvs
      obtain ⟨v, r, rfl, hw, hr2⟩ := hvs
      have : r = [] := hr2
      subst this
      refine ⟨(by show 1 ≤ 1000; decide), fun b hb => ⟨b, He.ga X.K (nm.er c), v, rfl, F.ox, F.no, upd_same, fun dx hdx hne => ⟨rfl, ?_⟩⟩⟩
      have hd : H1 dx = none := by
        rw [upd_ne hne] at hdx
        exact hdx
      have other : ∀ z o, H1 z = some o → upd (upd (upd H1 b (exo b (He.ga X.K (nm.er c)) none)) dx (exd dx [(nm.an c, v)])) b (exo b (He.ga X.K (nm.er c)) (some dx)) z = some o := fun z o hz => by
        have z1 : z ≠ b := fun e => by rw [e, hb] at hz; cases hz
        have z2 : z ≠ dx := fun e => by rw [e, hd] at hz; cases hz
        rw [upd_ne z1, upd_ne z2, upd_ne z1]
        exact hz
      have ef : Ext H1 m1 (upd (upd (upd H1 b (exo b (He.ga X.K (nm.er c)) none)) dx (exd dx [(nm.an c, v)])) b (exo b (He.ga X.K (nm.er c)) (some dx))) m1 := ⟨⟨[], by simp, fun _ h => nomatch h⟩, fun z o _ hz => other z o hz⟩
      have r3 := r1.upto ef fun z hz => by
        obtain ⟨o, h, _⟩ := r1.there hz
        rw [h]
        exact other z o h
      refine q _ m1 (.ref b) (e1.trans ef r1) r3 ?_
      show WV X.K _ O m1 _ _
      unfold WV DV
      refine ⟨b, dx, v, rfl, fresh_out r1 hb, fresh_out r1 hd, upd_same, by rw [upd_ne hne, upd_same], ?_⟩
      exact DV.ext r1.mut ef (fun _ z => .inl z) (fun _ z => List.mem_append_right _ z) y0 v hw
/-- what lies at an own error -/
theorem exc_at {K : PySem.W.Frag} {H : Hp} {B : List Addr} {c f : Str} {x : D} {v : V} (h : DV K H B (.exc c f x) v) : ∃ a d u, v = .ref a ∧ ErAt H a d (He.ga K c) [(f, u)] ∧ DV K H B x u := by
  unfold DV at h
  obtain ⟨a, d, u, ev, _, _, qa, qd, hx⟩ := h
  exact ⟨a, d, u, ev, ⟨qa, qd⟩, hx⟩
theorem l_att {f n : Str} {pos : Pos} {a : Expr} {ra : Ev → Sto → R W} (g : Gd nm T er k C X) (hn : n = f) (hs : noSuper a = true) (ha : PX X er Wx a ra) : PX X er Wx (.Attribute a n pos) (fun env st => (ra env st).bind fun w st => attW T.xa f w st) := by
  subst hn
  refine px_of (PE.imp (pe_xat ha.pe (base_of hs)) fun σ H Q q => ?_) (fun _ => rfl) rfl
  obtain ⟨O, m, st, env, rp, en, q⟩ := tE_un (f := fun w _ st => attW T.xa n w st) q
  refine tE_mk rp en (q.imp fun v H1 ⟨O1, m1, st1, env1, w, r1, e1, rl, q1⟩ => ?_)
  unfold attW at q1
  split at q1
  · rename_i c g1 x
    split at q1
    · rename_i hc
      obtain ⟨a1, d1, u, ev, ea, hx⟩ := exc_at rl
      obtain ⟨xf, no⟩ := g.lk.xs.xat c n hc.1
      refine ⟨a1, d1, _, _, u, ev, ea, xf, no, by rw [hc.2]; exact List.lookup_cons_self, ?_⟩
      exact PostG.here (rel := relW X.K O1) q1 r1 hx
    · exact q1.elim
  · exact q1.elim
theorem l_isx {y g0 c0 : Str} {p q0 pos : Pos} {a : Expr} {ra : Ev → Sto → R W} (g : Gd nm T er k C X) (hf : g0 = ("isinstance" : Str)) (hg : glB X.env.scope g0 = true) (hc : c0 = y) (hky : nm.ky c0 = true) (hg2 : glB X.env.scope c0 = true) (ho : okName c0 = true) (hs : noStar a = true) (ha : PX X er Wx a ra) :
    PX X er Wx (.Call (.Name g0 p) [a, .Name c0 q0] [] pos) (fun env st => (ra env st).bind fun w st => isxW T.isa y w st) := by
  subst hf hc
  have G : X.env.kindOf "isinstance" = some .globalImplicit := is_of hg
  have G2 : X.env.kindOf c0 = some .globalImplicit := is_of hg2
  have key : ∃ (cv : V) (ct : Value), PE X (.Name c0 q0) (tC cv) ∧ (∀ u, RelV cv u → u = ct) ∧ ∀ c b, T.isa c c0 = some b → ExcC X.K (He.ga X.K c) ∧ PySem.W.kitOne X.K (.ref (He.ga X.K c)) ct = some b := by
    rcases g.lk.xs.xcl c0 hky with hm | ⟨hv, hm⟩
    · refine ⟨.ref (He.ga X.K c0), .ref (He.ga X.K c0), pe_glob G2 hm rfl (okN ho).1, fun u r => r, fun c b h => ?_⟩
      obtain ⟨E, z | ⟨_, z, _⟩⟩ := g.lk.xs.xis c c0 b h
      · exact ⟨E, z.2⟩
      · rw [hm] at z
        cases z
    · subst hv
      refine ⟨.ty "ValueError", .type "ValueError", pe_bltn G2 hm PyProof.Rows.Boot.«ValueError» rfl (by decide) (by decide), fun u r => r, fun c b h => ?_⟩
      obtain ⟨E, z | ⟨_, _, z⟩⟩ := g.lk.xs.xis c _ b h
      · have z := z.1
        rw [hm] at z
        cases z
      · exact ⟨E, z⟩
  obtain ⟨cv, ct, pc, hrel, hk⟩ := key
  refine px_of (PE.imp (pe_callB call_isX G g.lk.isi (by decide +kernel) (pa_cons ha.pe (pa_cons pc pa_nil) (star_of hs)) (by decide) (by decide) (star_of hs) rfl) fun σ H Q q => ?_) (fun _ => rfl) rfl
  obtain ⟨O, m, st, env, rp, en, q⟩ := tE_un (f := fun w _ st => isxW T.isa c0 w st) q
  refine tE_mk rp en (q.imp fun v H1 ⟨O1, m1, st1, env1, w, r1, e1, rl, q1⟩ => ?_)
  unfold isxW at q1
  split at q1
  · rename_i c f x
    obtain ⟨u, eu, q1⟩ := PostG.ofO q1
    cases e : T.isa c c0 with
    | none => rw [e] at eu; cases eu
    | some b =>
      rw [e] at eu
      cases eu
      obtain ⟨E, kt⟩ := hk c b e
      obtain ⟨a1, d1, u1, ev, ea, hx1⟩ := exc_at rl
      exact ⟨a1, d1, _, _, cv, ct, b, by rw [ev], ea, E, hrel, kt, done_bl r1 q1⟩
  · exact q1.elim
theorem l_new {f : Nat} {x y : Str} {p pos : Pos} {a : Expr} {es : List Expr} {rs : Ev → Sto → R (List W)} (g : Gd nm T er k C X) (tk : Takes X Wx) (hcl : nm.cl f = some x) (hy : y = x) (hg : glB X.env.scope y = true) (ho : okName y = true) (hp : plainB (a :: es) = true) (ha : PA X (a :: es) (tA X.K er Wx rs)) :
    PX X er Wx (.Call (.Name y p) (a :: es) [] pos) (fun env st => (match (T.fn f).isSome with
      | true => (rs env st).bind fun ws st => newW C f x ws st
      | false => .bad)) := by
  subst hy
  refine px_of ?_ (fun _ => rfl) rfl
  have hp' := hp
  unfold plainB at hp'
  simp only [Bool.and_eq_true] at hp'
  cases hf : T.fn f with
  | none =>
    refine ⟨fun pins s σ H Q I q => ?_⟩
    obtain ⟨O, m, st, env, rp, en, q⟩ := q
    exact q.elim
  | some fd =>
    obtain ⟨fa, fdat, ps, hm, hk, F, hb⟩ := g.lk.fns f fd hf
    unfold AtF at hm
    rw [hcl] at hm
    obtain ⟨hm, M⟩ := hm
    refine PE.imp (pe_newS M F g.room (show X.env.kindOf y = some .globalImplicit from is_of hg) hm hb (fun σ => passAt tk σ) ha (okN ho).1 (star_of hp'.1) (plain_any hp'.2)) fun σ H Q q => ?_
    obtain ⟨O, m, st, env, rp, en, q⟩ := tE_args (f := fun ws st => newW C f y ws st) q
    refine ⟨O, m, st, env, rp, en, q.imp fun vs H1 ⟨O1, m1, st1, ws, r1, hv, q1⟩ b dx hb hd hne => ?_⟩
    have other : ∀ z o, H1 z = some o → upd (upd H1 dx (.own b)) b (.ins (He.ga X.K y) dx []) z = some o := fun z o hz => by
      have z1 : z ≠ b := fun e => by rw [e, hb] at hz; cases hz
      have z2 : z ≠ dx := fun e => by rw [e, hd] at hz; cases hz
      rw [upd_ne z1, upd_ne z2]
      exact hz
    have ef : Ext H1 m1 (upd (upd H1 dx (.own b)) b (.ins (He.ga X.K y) dx [])) (m1 ++ [b]) := ⟨⟨[b], rfl, fun z h => by rw [List.mem_singleton.mp h]; exact hb⟩, fun z o _ hz => other z o hz⟩
    have nb : b ∉ O1 ++ m1 := fresh_out r1 hb
    have r3 : Rep X.K (upd (upd H1 dx (.own b)) b (.ins (He.ga X.K y) dx [])) O1 (m1 ++ [b]) (st1 ++ [.ins y [] []]) := by
      refine ⟨by rw [List.length_append, List.length_append, r1.len]; rfl, ?_, fun z hz => ?_, fun z hz => ?_, fun i z o g1 g2 => ?_⟩
      · rw [List.nodup_append]
        refine ⟨r1.nd, by simp, fun u hu w hw e => nb ?_⟩
        rw [List.mem_singleton.mp hw] at e
        rw [← e]
        exact List.mem_append_right _ hu
      · rcases List.mem_append.mp hz with hz | hz
        · exact r1.dj z hz
        · rw [List.mem_singleton.mp hz]
          exact fun w => nb (List.mem_append_left _ w)
      · cases q : H1 z with
        | none => exact absurd q (r1.ol z hz)
        | some o => rw [other z o q]; exact fun w => nomatch w
      · by_cases hi : i < m1.length
        · rw [List.getElem?_append_left hi] at g1
          rw [List.getElem?_append_left (by rw [← r1.len]; exact hi)] at g2
          obtain ⟨o', h, _⟩ := r1.there (List.mem_of_getElem? g1)
          exact ObV.ext r1.mut ef (by rw [h]; exact other z o' h) (r1.ob i z o g1 g2)
        · have hi' : i = m1.length := by
            have := (List.getElem?_eq_some_iff.mp g1).1
            rw [List.length_append] at this
            simp at this
            omega
          subst hi'
          rw [List.getElem?_append_right (Nat.le_refl _)] at g1
          rw [r1.len, List.getElem?_append_right (Nat.le_refl _)] at g2
          simp at g1 g2
          subst g1 g2
          exact ⟨dx, [], upd_same, rfl, rfl⟩
    refine ⟨O1, m1 ++ [b], st1 ++ [.ins y [] []], .ref st1.length :: ws, r3, ⟨.ref b, vs, rfl, ⟨b, by rw [← r1.len]; simp, rfl⟩, WVs.ext r1.mut ef hv⟩, ?_⟩
    unfold newW at q1
    cases r : C f (.ref st1.length :: ws) (st1 ++ [.ins y [] []]) with
    | bad => rw [r] at q1; exact q1.elim
    | exc c p' st' =>
      rw [r] at q1
      exact fun H' m' dd fs v e1 r2 h1 h2 h3 => q1 H' m' dd fs v (ef.trans e1 r3) r2 h1 h2 h3
    | ok w st' =>
      rw [r] at q1
      intro H' m' v e1 r2 h1
      cases w with
      | ref _ => exact q1.elim
      | d z =>
        cases z with
        | non =>
          have h1 : v = V.non := h1
          refine ⟨h1, q1 H' m' (.ref b) (ef.trans e1 r3) r2 ⟨b, ?_, rfl⟩⟩
          obtain ⟨ms, e, _⟩ := e1.more
          rw [e, List.append_assoc, ← r1.len]
          simp
        | _ => exact q1.elim
end
end LL

set_option Elab.async false
set_option linter.all false
set_option maxRecDepth 100000
set_option maxHeartbeats 4000000
set_option autoImplicit false
/-! LN: an expression that the look has passed keeps what the evaluator says. -/
namespace LL
open PySem PySem.Spec PyProof.Rows L2
theorem and1 {a b : Bool} (h : (a && b) = true) : a = true := by cases a <;> simp_all
theorem and2 {a b : Bool} (h : (a && b) = true) : b = true := by cases a <;> simp_all
section
variable {nm : Nam} {T : Tab} {er : Er} {k : Nat} {C : Cal}
theorem litIs_ok {c : CE} {s : Str} (h : litIs c s = true) : c = .lit (.str s) := by
  unfold litIs at h
  split at h
  · rw [of_decide_eq_true h]
  · cases h
mutual
theorem pxE : ∀ (c : CE) {X : Cx} {Wx : WX} (g : Gd nm T er k C X) (tk : Takes X Wx) (e : Expr), chkE nm X.N c X.env.scope e = true → PX X er Wx e (ev T C c)
  | .var i, X, Wx, g, tk, e, h => by
    unfold chkE at h
    split at h
    · exact l_var (of_decide_eq_true (and1 (and1 h))) (and2 (and1 h)) (and2 h)
    · cases h
  | .gc j, X, Wx, g, tk, e, h => by
    unfold chkE at h
    split at h
    · exact l_gc g (of_decide_eq_true (and1 (and1 h))) (and2 (and1 h)) (and2 h)
    · cases h
  | .lit c, X, Wx, g, tk, e, h => by
    unfold chkE at h
    split at h
    · have := of_decide_eq_true h
      subst this
      exact l_lit
    · cases h
  | .tup es, X, Wx, g, tk, e, h => by
    unfold chkE at h
    split at h
    · exact l_tup (paE es g tk _ h).1
    · cases h
  | .lst m es, X, Wx, g, tk, e, h => by
    unfold chkE at h
    split at h
    · exact l_lst (mm := m) (paE es g tk _ h).1
    · cases h
  | .bin op m a b, X, Wx, g, tk, e, h => by
    unfold chkE at h
    split at h
    · have := of_decide_eq_true (and1 (and1 h))
      subst this
      exact l_bin (mm := m) (pxE a g tk _ (and2 (and1 h))) (pxE b g tk _ (and2 h))
    · cases h
  | .neg a, X, Wx, g, tk, e, h => by
    unfold chkE at h
    split at h
    · exact l_neg (pxE a g tk _ h)
    · cases h
  | .bnot a, X, Wx, g, tk, e, h => by
    unfold chkE at h
    split at h
    · exact l_bnot (pxE a g tk _ h)
    · cases h
  | .conj a b, X, Wx, g, tk, e, h => by
    unfold chkE at h
    split at h
    · exact l_conj (pxE a g tk _ (and1 h)) (l_one (pxE b g tk _ (and2 h)))
    · exact l_conj (pxE a g tk _ (and1 h)) (pxE b g tk _ (and2 h))
    · cases h
  | .disj a b, X, Wx, g, tk, e, h => by
    unfold chkE at h
    split at h
    · exact l_disj (pxE a g tk _ (and1 h)) (l_one (pxE b g tk _ (and2 h)))
    · exact l_disj (pxE a g tk _ (and1 h)) (pxE b g tk _ (and2 h))
    · cases h
  | .cmp op a b, X, Wx, g, tk, e, h => by
    unfold chkE at h
    split at h
    · have := of_decide_eq_true (and1 (and1 (and1 h)))
      subst this
      exact l_cmp g (pxE a g tk _ (and2 (and1 h))) (pxE b g tk _ (and2 h)) (and2 (and1 (and1 h)))
    · cases h
  | .chain op op' a b c, X, Wx, g, tk, e, h => by
    unfold chkE at h
    split at h
    · have e1 := of_decide_eq_true (and1 (and1 (and1 (and1 (and1 h)))))
      have e2 := of_decide_eq_true (and2 (and1 (and1 (and1 (and1 h)))))
      subst e1 e2
      exact l_chain g (pxE a g tk _ (and2 (and1 (and1 h)))) (pxE b g tk _ (and2 (and1 h))) (pxE c g tk _ (and2 h)) (and2 (and1 (and1 (and1 h))))
    · cases h
  | .ifx c a b, X, Wx, g, tk, e, h => by
    unfold chkE at h
    split at h
    · exact l_ifx (pxE c g tk _ (and1 (and1 h))) (pxE a g tk _ (and2 (and1 h))) (pxE b g tk _ (and2 h))
    · cases h
  | .ix a i, X, Wx, g, tk, e, h => by
    unfold chkE at h
    split at h
    · exact l_ix (pxE a g tk _ (and2 (and1 h))) (pxE i g tk _ (and2 h)) (and1 (and1 h))
    · cases h
  | .sl m a lo hi, X, Wx, g, tk, e, h => by
    unfold chkE at h
    split at h
    · exact l_sl (mm := m) (pxE a g tk _ (and1 (and1 h))) (poE lo g tk _ (and2 (and1 h))) (poE hi g tk _ (and2 h))
    · cases h
  | .call f md es, X, Wx, g, tk, e, h => by
    unfold chkE at h
    split at h
    · have h0 := and1 h
      obtain ⟨q1, q2⟩ := paE es g tk _ (and2 h0)
      exact l_call (md := md) g tk (of_decide_eq_true (and1 (and1 (and1 h0)))) (and2 (and1 (and1 h0))) (and2 (and1 h0)) q2 q1 (and2 h)
    · cases h
  | .bi b m es, X, Wx, g, tk, e, h => by
    unfold chkE at h
    split at h
    · obtain ⟨q1, q2⟩ := paE es g tk _ (and2 h)
      exact l_bi (mm := m) g (of_decide_eq_true (and1 (and1 (and1 h)))) (and2 (and1 (and1 h))) (and2 (and1 h)) q2 q1
    · cases h
  | .isi t a, X, Wx, g, tk, e, h => by
    unfold chkE at h
    split at h
    · exact l_isi g (of_decide_eq_true (and1 (and1 (and1 (and1 (and1 (and1 h))))))) (and2 (and1 (and1 (and1 (and1 (and1 h)))))) (of_decide_eq_true (and2 (and1 (and1 (and1 (and1 h)))))) (and2 (and1 (and1 (and1 h)))) (and2 (and1 (and1 h))) (and2 (and1 h)) (pxE a g tk _ (and2 h))
    · cases h
  | .meth e m o es, X, Wx, g, tk, ex, h => by
    unfold chkE at h
    split at h
    · have h1 := of_decide_eq_true (and1 (and1 (and1 (and1 (and1 h)))))
      have h2 := of_decide_eq_true (and2 (and1 (and1 (and1 (and1 h)))))
      have ho := pxE o g tk _ (and2 (and1 (and1 (and1 h))))
      have hc := and2 (and1 (and1 h))
      obtain ⟨q1, q2⟩ := paE es g tk _ (and2 (and1 (and1 h)))
      have hn := of_decide_eq_true (and2 (and1 h))
      have hs := and2 h
      subst h1
      refine l_meth (mm := m) g ho q1 (fun z => ?_) q2 hn h2 hs
      subst z
      cases es with
      | nil => rfl
      | cons c cs => unfold chkEs at hc; cases hc
    · cases h
  | .comp m elt p it own, X, Wx, g, tk, e, h => by
    unfold chkE at h
    split at h
    · exact l_comp (mm := m) g (piE it g tk _ (and1 (and1 (and1 (and1 (and1 h)))))) (and2 (and1 (and1 (and1 (and1 h))))) (and2 (and1 (and1 (and1 h)))) (and2 (and1 (and1 h))) (fun s H L cl fp => pxE elt (X := X.blk s H _ (compEnvC _ cl L X.env) fp) (g.blk _ _ _ _ _) takesF _ (and2 (and1 h))) (and2 h)
    · cases h
  | .compIf m elt p it c own, X, Wx, g, tk, e, h => by
    unfold chkE at h
    split at h
    · exact l_compIf (mm := m) g (piE it g tk _ (and1 (and1 (and1 (and1 (and1 (and1 h))))))) (and2 (and1 (and1 (and1 (and1 (and1 h)))))) (and2 (and1 (and1 (and1 (and1 h))))) (and2 (and1 (and1 (and1 h)))) (fun s H L cl fp => pxE elt (X := X.blk s H _ (compEnvC _ cl L X.env) fp) (g.blk _ _ _ _ _) takesF _ (and2 (and1 (and1 h))))
        (fun s H L cl fp => pxE c (X := X.blk s H _ (compEnvC _ cl L X.env) fp) (g.blk _ _ _ _ _) takesF _ (and2 (and1 h))) (and2 h)
    · cases h
  | .tix es a, X, Wx, g, tk, e, h => by
    unfold chkE at h
    split at h
    · exact l_tix (of_decide_eq_true (and1 (and1 (and1 (and1 h))))) (of_decide_eq_true (and2 (and1 (and1 (and1 h))))) (and2 (and1 (and1 h))) (paE es g tk _ (and2 (and1 h))).1 (pxE a g tk _ (and2 h))
    · cases h
  | .un, X, Wx, g, tk, e, h => px_bad
  | .mke c x f a, X, Wx, g, tk, e, h => by
    unfold chkE at h
    split at h
    · have h1 := and1 h; have h2 := and1 h1; have h3 := and1 h2; have h4 := and1 h3; have h5 := and1 h4; have h6 := and1 h5; have h7 := and1 h6
      exact l_mke g tk (and1 h7) (and2 h7) (of_decide_eq_true (and2 h6)) (of_decide_eq_true (and2 h5)) (of_decide_eq_true (and2 h4)) (and2 h3) (and2 h2) (and2 h1) (pxE a g tk _ (and2 h))
    · cases h
  | .att f a, X, Wx, g, tk, e, h => by
    unfold chkE at h
    split at h
    · exact l_att g (of_decide_eq_true (and1 (and1 h))) (and2 (and1 h)) (pxE a g tk _ (and2 h))
    · cases h
  | .isx y a, X, Wx, g, tk, e, h => by
    unfold chkE at h
    split at h
    · have h1 := and1 h; have h2 := and1 h1; have h3 := and1 h2; have h4 := and1 h3; have h5 := and1 h4; have h6 := and1 h5
      have ec := of_decide_eq_true (and2 h5)
      exact l_isx g (of_decide_eq_true (and1 h6)) (and2 h6) ec (by rw [ec]; exact and2 h4) (and2 h3) (and2 h2) (and2 h1) (pxE a g tk _ (and2 h))
    · cases h
  | .new f x es, X, Wx, g, tk, e, h => by
    unfold chkE at h
    split at h
    · have h1 := and1 h; have h2 := and1 h1; have h3 := and1 h2
      obtain ⟨q1, q2⟩ := paE es g tk _ (and2 h)
      exact l_new g tk (of_decide_eq_true (and1 h3)) (of_decide_eq_true (and2 h3)) (and2 h2) (and2 h1) q2 q1
    · cases h
  | .stt a, X, Wx, g, tk, e, h => by
    unfold chkE at h
    split at h
    · exact l_stt g (of_decide_eq_true (and1 (and1 (and1 (and1 h))))) (and2 (and1 (and1 (and1 h)))) (and2 (and1 (and1 h))) (and2 (and1 h)) (pxE a g tk _ (and2 h))
    · cases h
  | .fstr es, X, Wx, g, tk, e, h => by
    unfold chkE at h
    split at h
    · obtain ⟨ts, q1, q2⟩ := pfE es g tk _ h
      exact l_fstr q1 q2
    · cases h
theorem paE : ∀ (cs : CEs) {X : Cx} {Wx : WX} (g : Gd nm T er k C X) (tk : Takes X Wx) (es : List Expr), chkEs nm X.N cs X.env.scope es = true → PA X es (tA X.K er Wx (evs T C cs)) ∧ plainB es = true
  | .nil, X, Wx, g, tk, es, h => by
    unfold chkEs at h
    split at h
    · exact ⟨l_anil, rfl⟩
    · cases h
  | .cons c cs, X, Wx, g, tk, es, h => by
    unfold chkEs at h
    split at h
    · obtain ⟨q1, q2⟩ := paE cs g tk _ (and2 h)
      refine ⟨l_acons (pxE c g tk _ (and2 (and1 h))) q1 (and1 (and1 h)), ?_⟩
      unfold plainB
      rw [and1 (and1 h), q2]
      rfl
    · cases h
theorem pfE : ∀ (cs : CEs) {X : Cx} {Wx : WX} (g : Gd nm T er k C X) (tk : Takes X Wx) (es : List Expr), chkFs nm X.N cs X.env.scope es = true → ∃ ts, PJ X es ts ∧ FsOk X.K er Wx ts (evF T C cs)
  | .nil, X, Wx, g, tk, es, h => by
    unfold chkFs at h
    split at h
    · exact ⟨[], .nil, l_fnil⟩
    · cases h
  | .cons c cs, X, Wx, g, tk, es, h => by
    unfold chkFs at h
    split at h
    · obtain ⟨ts, q1, q2⟩ := pfE cs g tk _ (and2 h)
      exact ⟨_, .cons (pe_fmt (pxE c g tk _ (and1 h)).pe) q1, l_fcons q2⟩
    · obtain ⟨ts, q1, q2⟩ := pfE cs g tk _ (and2 h)
      have e1 := litIs_ok (and1 h)
      subst e1
      exact ⟨_, .cons (l_lit (T := T) (C := C)).pe q1, l_flit q2⟩
    · cases h
theorem poE : ∀ (c : CO) {X : Cx} {Wx : WX} (g : Gd nm T er k C X) (tk : Takes X Wx) (e : Option Expr), chkO nm X.N c X.env.scope e = true → PO X e (tOo X.K er Wx (evO T C c))
  | .no, X, Wx, g, tk, e, h => by
    unfold chkO at h
    split at h
    · exact l_ono
    · cases h
  | .yes c, X, Wx, g, tk, e, h => by
    unfold chkO at h
    split at h
    · exact l_oyes (pxE c g tk _ h)
    · cases h
theorem piE : ∀ (c : CI) {X : Cx} {Wx : WX} {tg : Expr} (g : Gd nm T er k C X) (tk : Takes X Wx) (e : Expr), chkI nm X.N c X.env.scope e = true → PI X tg e (tI X.K er Wx (evI T C c))
  | .e c, X, Wx, tg, g, tk, e, h => by
    unfold chkI at h
    exact pi_any (pxE c g tk _ h).pe
  | .rng1 a, X, Wx, tg, g, tk, e, h => by
    unfold chkI at h
    split at h
    · exact l_rng1 g (of_decide_eq_true (and1 (and1 (and1 h)))) (and2 (and1 (and1 h))) (and2 (and1 h)) (pxE a g tk _ (and2 h))
    · cases h
  | .rng2 a b, X, Wx, tg, g, tk, e, h => by
    unfold chkI at h
    split at h
    · exact l_rng2 g (of_decide_eq_true (and1 (and1 (and1 (and1 (and1 h)))))) (and2 (and1 (and1 (and1 (and1 h))))) (and2 (and1 (and1 (and1 h)))) (and2 (and1 (and1 h))) (pxE a g tk _ (and2 (and1 h))) (pxE b g tk _ (and2 h))
    · cases h
end
end
end LL

set_option Elab.async false
set_option linter.all false
set_option maxRecDepth 100000
set_option maxHeartbeats 4000000
set_option autoImplicit false
/-! LO: statements: the look, what each keeps. -/
namespace LL
open PySem PySem.Spec PyProof.Rows L2
/-- what several targets on one line come to: none: not covered; else the names that are stored from the right -/
def swS (sc : Scope) (ts : List Expr) (v : Expr) : Option (Option (List Str)) := match v with
  | .Tuple vs _ _ =>
    if !(ts.length == 2 || ts.length == 3) || vs.length != ts.length then some none else
    if vs.any (fun | .Starred .. => true | _ => false) then some none else
    if (ts.filterMap fun
      | .Name id pos => if sc.names.lookup id == some .local && pos.line == (ts.head?.map (·.pos.line)).getD 0 then some id else none
      | _ => none).length != ts.length || (ts.filterMap fun
      | .Name id pos => if sc.names.lookup id == some .local && pos.line == (ts.head?.map (·.pos.line)).getD 0 then some id else none
      | _ => none).eraseDups.length != (ts.filterMap fun
      | .Name id pos => if sc.names.lookup id == some .local && pos.line == (ts.head?.map (·.pos.line)).getD 0 then some id else none
      | _ => none).length then some none else
    if vs.all (foldedForSure 8) then some none else
    if vs.all (constantsAlone 8) then none else
    some (some (ts.filterMap fun
      | .Name id pos => if sc.names.lookup id == some .local && pos.line == (ts.head?.map (·.pos.line)).getD 0 then some id else none
      | _ => none))
  | _ => some none
theorem swS_ok {env : Env} {ts : List Expr} {k : Nat} {p : Pos} {v : Expr} {r : Option (List Str)} (hk : env.blockKind = .function) (h : swS env.scope ts v = some r) : swappedStores [.Tuple ts k p] v env = pure r := by
  cases v with
  | Tuple vs k2 p2 =>
    unfold swS at h
    unfold swappedStores
    dsimp only
    dsimp only at h
    have e : (env.blockKind != ScopeKind.function) = false := by rw [hk]; rfl
    rw [e, Bool.or_false]
    split at h
    · rename_i c; rw [if_pos c]; cases h; rfl
    · rename_i c
      rw [if_neg c]
      split at h
      · rename_i c
        refine Eq.trans (if_pos c) ?_
        cases h; rfl
      · rename_i c
        refine Eq.trans (if_neg c) ?_
        split at h
        · rename_i c
          refine Eq.trans (if_pos c) ?_
          cases h; rfl
        · rename_i c
          refine Eq.trans (if_neg c) ?_
          split at h
          · rename_i c; rw [if_pos c]; cases h; rfl
          · rename_i c
            rw [if_neg c]
            split at h
            · cases h
            · rename_i c
              rw [if_neg c]
              cases h; rfl
  | _ => cases h; rfl
end LL

set_option Elab.async false
set_option linter.all false
set_option maxRecDepth 100000
set_option maxHeartbeats 4000000
set_option autoImplicit false
/-! LX: own error classes: __init__, raise, try with clauses. -/
namespace LL
open PySem PySem.Spec PyProof.Rows L2
/-- the text of such an __init__ -/
def initB (N ps : List Str) (f : Str) (sc : Scope) (body : List Stmt) : Bool := match N, ps, body with
  | [x, y], [x', y'], [.Assign [.Attribute (.Name a _) g _] (.Name b _) _] => decide (x' = x) && decide (y' = y) && decide (a = x) && decide (b = y) && decide (g = f) && decide (x ≠ y) && lookIs sc x .local && lookIs sc y .local && okName x && okName y
  | _, _, _ => false
theorem init_ok {P : Program} {w : World} {K : PySem.W.Frag} {mg : Str → Option Value} {base : Heap} {x qual : Str} {params : Arguments} {body : List Stmt} {scope : Scope} {fI : Addr} {fd : FuncData} {N ps : List Str} {f : Str} {k : Nat}
    (F : FunD K x qual params body scope [] [] fI fd) (S : FnScope N ps scope) (h : initB N ps f scope body = true) : FnOk P w K mg base (L2.CX P w) (k + 1) fI fd ps (spI K f) := by
  unfold initB at h
  split at h
  · rename_i x y x' y' a p1 g p2 b p3 p4
    have h1 := and1 h; have h2 := and1 h1; have h3 := and1 h2; have h4 := and1 h3; have h5 := and1 h4; have h6 := and1 h5; have h7 := and1 h6; have h8 := and1 h7; have h9 := and1 h8
    obtain rfl := of_decide_eq_true h9
    obtain rfl := of_decide_eq_true (and2 h8)
    obtain rfl := of_decide_eq_true (and2 h7)
    obtain rfl := of_decide_eq_true (and2 h6)
    obtain rfl := of_decide_eq_true (and2 h5)
    have hx := is_of (and2 h3)
    have hy := is_of (and2 h2)
    have ox := okN (and2 h1)
    have oy := okN (and2 h)
    refine F.ok S (fun vs H Q E q => ?_) (fun cdv A outer s H vs Q E hr q => ?_)
    · obtain ⟨a, C, v, rfl, _⟩ := q
      rfl
    · obtain ⟨ad, C, v, rfl, T, hno, ha, q⟩ := q
      refine ⟨tOst K g (tVar 0) (tVar 1), pss_one (ps_ost (pv 0 rfl (.inl hx) ox.1 ox.2) (pv 1 rfl (.inl hy) oy.1 oy.2) rfl), ?_⟩
      exact ⟨v, rfl, .ref ad, rfl, ad, C, rfl, T, hno, .inl ⟨ha, fun dx n ne => q dx n ne⟩⟩
  · cases h
/-- the heap behind a made error -/
theorem made_heap {H : Hp} {a d : Addr} {o1 o2 o3 x : HO} (ha : H a = none) (hd : d ≠ a) : upd (del (upd (upd (upd H a o1) d o2) a o3) a) d x = upd H d x := by
  funext b
  by_cases e : b = d
  · subst e
    rw [upd_same, upd_same]
  · rw [upd_ne e, upd_ne e]
    by_cases z : b = a
    · subst z
      rw [del_same, ha]
    · rw [del_ne z, upd_ne z, upd_ne e, upd_ne z]
section
variable {nm : Nam} {T : Tab} {er : Er} {k : Nat} {C : Cal} {X : Cx} {Wx : WX}
theorem pmk_er {c : Nat} {x : Str} {p pos : Pos} {e : Expr} {ta : TA} (hr : Room 2 X.A) (tk : Takes X Wx) (F : ExF X.prog X.w X.K X.mg X.base (er.ca c) x (er.an c)) (hg : Gl X x) (hd : (x == ("__debug__" : Str)) = false) (ha : PA X [e] ta) (hs : noStar e = true) :
    PMk X (.Call (.Name x p) [e] [] pos) (tMkO (er.ca c) (spI X.K (er.an c)) [] ta) := by
  obtain ⟨fI, fd, y, z, h1, h2, h3, h4⟩ := F.ini
  exact pmk_oex (CX := L2.CX X.prog X.w) F.ox h1 h2 h3 hr h4 .nil (passes_call tk fun _ _ _ _ z => z.elim) hg F.gl ha hd (star_of hs) rfl
end
/-! ### try with clauses, each with a name or without -/
abbrev Sui : Type := Addr → Value → Option Addr → TS
/-- behind a clause's suite its name is gone -/
def offD (i : Nat) (D : Ends) : Ends := { nx := fun σ H => D.nx (σ.set i none) H, rt := D.rt, bk := fun σ H => D.bk (σ.set i none) H, ct := fun σ H => D.ct (σ.set i none) H }
/-- what one clause wishes -/
def wOne (D : Ends) : Option Nat → Sui → Addr → Value → Option Addr → L2.St → Hp → Prop
  | some i, ts, a, cls, d, σ, H => ts a cls d (offD i D) (σ.set i (some (.ref a))) H
  | none, ts, a, cls, d, σ, H => ts a cls d D σ H
def wAll (K : PySem.W.Frag) (Wout : WX) (D : Ends) : List (Value × Option Nat × Sui) → WX
  | [] => Wout
  | (c, o, ts) :: r => fun cls d σ H => ∃ b, PySem.W.exmOne K cls c = some b ∧ (b = true → ∀ a, H a = none → wOne D o ts a cls d σ H) ∧ (b = false → wAll K Wout D r cls d σ H)
/-- a clause's name -/
def CName (X : Cx) : Option Str → Option Nat → Prop
  | none, none => True
  | some n, some i => X.N[i]? = some n ∧ X.env.kindOf n = some .local
  | _, _ => False
inductive Clauses (X : Cx) : List ExceptHandler → List (Value × Option Nat × Sui) → Prop
  | nil : Clauses X [] []
  | cons {x : Str} {c : Value} {o : Option Nat} {n : Option Str} {ts : Sui} {b : Stmt} {bs : List Stmt} {p q : Pos} {hs : List ExceptHandler} {l : List (Value × Option Nat × Sui)} (hc : Names X x c) (hn : CName X n o)
      (hb : ∀ (a : Addr) (oe : Obj) (cls : Value) (d : Option Addr) (pn : List (Addr × Obj)), Zc cls d oe → (∃ vs, oe.data = .fields vs) → PSs (X.suite a ((a, oe) :: pn)) (b :: bs) (ts a cls d)) (r : Clauses X hs l) :
      Clauses X (.ExceptHandler (some (.Name x p)) n (b :: bs) q :: hs) ((c, o, ts) :: l)
section
variable {X : Cx}
/-- a suite's end is the try's end -/
theorem suite_sp {a : Addr} {oe : Obj} {pins : List (Addr × Obj)} {D : Ends} (ok : X.Ok) {f : Flow} {s : Shared} (h : SP (X.suite a ((a, oe) :: (X.pn ++ pins))) [] D f s) : SP X pins D f s := by
  cases f with
  | next => obtain ⟨σ, H, J, q⟩ := h; exact ⟨σ, H, J.unsuite ok, q⟩
  | brk => obtain ⟨σ, H, J, q⟩ := h; exact ⟨σ, H, J.unsuite ok, q⟩
  | cont => obtain ⟨σ, H, J, q⟩ := h; exact ⟨σ, H, J.unsuite ok, q⟩
  | ret u => obtain ⟨v, σ, H, J, r, q⟩ := h; exact ⟨v, σ, H, J.unsuite ok, r, q⟩
theorem body_sp {pins pn : List (Addr × Obj)} {xe : Value → Shared → Prop} {D : Ends} (ok : X.Ok) {f : Flow} {s : Shared} (h : SP (X.tr (X.pn ++ pins) xe) pn D f s) : SP X pins D f s := by
  cases f with
  | next => obtain ⟨σ, H, J, q⟩ := h; exact ⟨σ, H, J.ofTry ok, q⟩
  | brk => obtain ⟨σ, H, J, q⟩ := h; exact ⟨σ, H, J.ofTry ok, q⟩
  | cont => obtain ⟨σ, H, J, q⟩ := h; exact ⟨σ, H, J.ofTry ok, q⟩
  | ret u => obtain ⟨v, σ, H, J, r, q⟩ := h; exact ⟨v, σ, H, J.ofTry ok, r, q⟩
variable {B : Heap} {sI s' : Shared} {h3 : Heap} {pins : List (Addr × Obj)} {σ : L2.St} {H : Hp} {a : Addr} {cls : Value} {d : Option Addr} {D : Ends} {Wout : WX}
/-- the clauses, one after the other -/
theorem clauses_run (hs : X.stack = X.env :: X.outer) (hf : X.env.frame = some X.env.locals) (nd : X.N.Nodup) (tk : Takes X Wout) (J : Inv X pins σ H sI) (nb : ∀ b o, sI.heap.get? b = some o → b ∉ frs X.stack → B.get? b = some o)
    (up : sI.heap.UpToSlots h3) (fl3 : HandSPX.FlyingZ B (X.env :: X.outer) a (Zc cls d) h3) (na : H a = none) (os : s'.os = sI.os) (ag : AllBare s'.gens) : ∀ {hds : List ExceptHandler} {l : List (Value × Option Nat × Sui)}, Clauses X hds l → wAll X.K Wout D l cls d σ H →
      wpAny (model X.prog X.w) X.A (handleBy (.ref a) X.env hds) (SP X pins D) X.xe { s' with heap := h3 } := by
  have ok := J.ok
  have J3 : Inv X pins σ H { s' with heap := h3 } := J.landed nb fl3.1 up os ag
  obtain ⟨oe3, vs3, he3, hz3, hd3⟩ := fl3.there
  have nfr : a ∉ frs (X.env :: X.outer) := fun hm => by
    obtain ⟨_, o', e', hnf⟩ := fl3.2.2.1.mem hm
    rw [he3] at e'
    cases e'
    exact hnf _ hd3
  have nL : a ≠ X.env.locals := fun z => nfr (List.mem_filterMap.mpr ⟨X.env, List.mem_cons_self, by rw [hf, z]⟩)
  have nF : a ∉ X.fs := fun hm => by
    obtain ⟨e, he, q⟩ := List.mem_filterMap.mp hm
    exact nfr (List.mem_filterMap.mpr ⟨e, List.mem_cons_of_mem _ he, q⟩)
  have S3 := J3.suite he3 hd3 na nL nF
  intro hds l hk
  induction hk with
  | nil =>
    intro w
    refine wpAny_handleBy_nil ?_
    obtain ⟨k1, k2, k3, oe, vs, T, oT, ts', he, hz, hd, h1, hr⟩ := id fl3
    unfold PySem.passOn
    refine wpAny_bind (wpAny_field he hd h1 ?_)
    rw [if_neg (show ¬ ((Value.ref T == Value.none) = true) from by simp)]
    have fin : wpAny (model X.prog X.w) X.A (setFlight (.ref a) X.env.frame) (fun _ s4 => wpAny (model X.prog X.w) X.A (throw (.ref a) : Sem Flow) (SP X pins D) X.xe s4) X.xe { s' with heap := h3 } := by
      rw [hf]
      refine HandSPX.setFlight_upZ fl3 fun h4 hh4 up4 => wpAny_throw (tk _ _ ?_)
      exact ⟨a, B, sI, pins, σ, H, cls, d, rfl, J, nb, up.trans up4, .inr (.inr (by rw [hs]; exact hh4)), na, os, ag, w⟩
    first
      | exact wpAny_bind (wpAny_pure (wpAny_bind fin))
      | exact wpAny_bind fin
  | @cons x c o n ts b bs p q hs2 l2 hc hn hb r ih =>
    intro w
    obtain ⟨k, hb1, hyes, hno⟩ := w
    refine wpAny_handleBy_cons (codeAny_handlers_test ?_) (by intro q; cases q)
    have LT : PySem.W.Looks (model X.prog X.w) h3 (typeOf (.ref a)) cls := fun A Q E s k q => wpAny_typeOf_ref (k _ _ he3) (by rw [hz3.1]; exact q)
    have LM := PySem.W.exm_one (M := model X.prog X.w) (J3.kIn) LT hb1
    have test : ∀ {Q E : Value → Shared → Prop}, Q c { s' with heap := h3 } → wpAny (model X.prog X.w) (X.A.mark (some (.ref a))) (eval (.Name x p) X.env) Q E { s' with heap := h3 } := fun {Q E} q => by
      obtain ⟨hg, hdbg, hm | ⟨hm, hv, hnn⟩⟩ := hc
      · exact ld_glob (X := X.suite a ((a, oe3) :: (X.pn ++ pins))) S3 hg hm q hdbg
      · exact ld_blt (X := X.suite a ((a, oe3) :: (X.pn ++ pins))) S3 hg hm hv q hnn hdbg
    refine test (LM.here ?_)
    cases k with
    | false =>
      show wpAny _ X.A (handleBy (.ref a) X.env hs2) _ _ _
      exact ih (hno rfl)
    | true =>
      have hw := hyes rfl a na
      cases o with
      | none =>
        cases n with
        | some n => exact hn.elim
        | none =>
          refine codeAny_handlers_suite ?_
          refine HandSPX.lands_againZ fl3 fun h4 fl4 up4 => ?_
          obtain ⟨oe4, vs4, he4, hz4, hd4⟩ := fl4.there
          have S4 := (J.landed (s' := { s' with heap := h4 }) nb fl4.1 (up.trans up4) os ag).suite he4 hd4 na nL nF
          exact wpAny_mono ((hb a oe4 cls d (X.pn ++ pins) hz4 ⟨_, hd4⟩).run [] _ _ H _ S4 hw) (fun f s6 hsp => by
            have q := suite_sp ok hsp
            cases f <;> exact q) (fun _ _ z => False.elim z)
      | some i =>
        cases n with
        | none => exact hn.elim
        | some n =>
          obtain ⟨hi, hln⟩ := hn
          refine codeAny_handlers_suite_as ?_
          refine HandSPX.lands_againZ fl3 fun h4 fl4 up4 => ?_
          obtain ⟨oe4, vs4, he4, hz4, hd4⟩ := fl4.there
          have S4 := (J.landed (s' := { s' with heap := h4 }) nb fl4.1 (up.trans up4) os ag).suite he4 hd4 na nL nF
          refine store_ok (X := X.suite a ((a, oe4) :: (X.pn ++ pins))) (v := .ref a) S4 nd hi (.inl hln) rfl (fun s5 S5 => ?_) (.inr hln)
          refine wpAny_mono ((hb a oe4 cls d (X.pn ++ pins) hz4 ⟨_, hd4⟩).run [] s5 _ H _ S5 hw) (fun f s6 hsp => ?_) (fun _ _ z => False.elim z)
          have q := suite_sp ok hsp
          cases f with
          | next => obtain ⟨σ6, H6, J6, q6⟩ := q; exact gone_ok J6 nd hi hln fun s7 J7 => ⟨_, _, J7, q6⟩
          | brk => obtain ⟨σ6, H6, J6, q6⟩ := q; exact gone_ok J6 nd hi hln fun s7 J7 => ⟨_, _, J7, q6⟩
          | cont => obtain ⟨σ6, H6, J6, q6⟩ := q; exact gone_ok J6 nd hi hln fun s7 J7 => ⟨_, _, J7, q6⟩
          | ret u => obtain ⟨v6, σ6, H6, J6, r6, q6⟩ := q; exact gone_ok J6 nd hi hln fun s7 J7 => ⟨_, _, _, J7, r6, q6⟩
theorem ps_try_all {body : List Stmt} {h₀ : ExceptHandler} {hds : List ExceptHandler} {l : List (Value × Option Nat × Sui)} {pos : Pos} {tb : WX → TS} (hs : X.stack = X.env :: X.outer) (hf : X.env.frame = some X.env.locals) (nd : X.N.Nodup) (tk : Takes X Wout)
    (hb : ∀ (W : WX) (pn : List (Addr × Obj)) (xe : Value → Shared → Prop), Takes (X.tr pn xe) W → PassesOwn (model X.prog X.w) X.A X.env xe → PSs (X.tr pn xe) body (tb W))
    (hh : Clauses X (h₀ :: hds) l) : PS X (.Try body (h₀ :: hds) [] [] pos) (fun D σ H => tb (wAll X.K Wout D l) D σ H) := by
  refine ⟨fun pins s σ H D I h => ?_⟩
  have ok := I.ok
  have hfr : X.A.frames = some (X.env :: X.outer) := by rw [ok.frames, hs]
  refine wpAny_Try_except ?_
  refine wpAny_mono ((hb (wAll X.K Wout D l) (X.pn ++ pins) (fun e s₁ => wpAny (model X.prog X.w) X.A (noteFrame e X.env) (fun _ s₂ => wpAny (model X.prog X.w) X.A (setFlight e none) (fun _ s₃ =>
    wpAny (model X.prog X.w) X.A (handleBy e X.env (h₀ :: hds)) (SP X pins D) X.xe s₃) X.xe s₂) X.xe s₁) (fun u s' xx => ?_) PassesOwn.looking).run [] s σ H D (I.toTry _) h) (fun f s1 hsp => ?_) (fun e s1 he => he)
  · obtain ⟨a, B, sI, pins', σ', H', cls, d, rfl, J', nb, up, sky, na, os, ag, w⟩ := xx
    have sky' : Sky B (X.env :: X.outer) a (Zc cls d) X.env.locals s'.heap := by rw [← hs]; exact sky
    show wpAny (model X.prog X.w) X.A (noteFrame (.ref a) X.env) _ _ _
    exact Sky.land Zc.steady hfr hf sky' fun h3 fl3 up3 => clauses_run hs hf nd tk (J'.ofTry ok) nb (up.trans up3) fl3 na os ag hh w
  · have q := body_sp ok hsp
    cases f with
    | next => exact wpAny_execs_nil q
    | brk => exact q
    | cont => exact q
    | ret u => exact q
end
end LL

set_option Elab.async false
set_option linter.all false
set_option maxRecDepth 100000
set_option maxHeartbeats 4000000
set_option autoImplicit false
/-! LP: each kind of statement keeps what the evaluator says. -/
namespace LL
open PySem PySem.Spec PyProof.Rows L2
section
variable (K : PySem.W.Frag) (er : Er) (Wx : WX) (O : List Addr)
def PostF (r : F) (D : Ends) (H : Hp) (m : List Addr) : Prop := match r with
  | .nx env st => ∀ σ' H' m', Ext H m H' m' → Rep K H' O m' st → EnvOk K H' O m' env σ' → D.nx σ' H'
  | .bk env st => ∀ σ' H' m', Ext H m H' m' → Rep K H' O m' st → EnvOk K H' O m' env σ' → D.bk σ' H'
  | .ct env st => ∀ σ' H' m', Ext H m H' m' → Rep K H' O m' st → EnvOk K H' O m' env σ' → D.ct σ' H'
  | .ret w st => ∀ H' m' v, Ext H m H' m' → Rep K H' O m' st → WV K H' O m' w v → D.rt v H'
  | .exc c p env st => ∀ σ' H' m' dd fs v, Ext H m H' m' → Rep K H' O m' st → EnvOk K H' O m' env σ' → DV K H' (O ++ m') p v → H' dd = some (.xd fs) → fs.lookup (er.an c) = some v → Wx (.ref (er.ca c)) (some dd) σ' H'
  | .bad => False
end
def tS (K : PySem.W.Frag) (er : Er) (Wx : WX) (r : Ev → Sto → F) : TS := fun D σ H => ∃ O m st env, Rep K H O m st ∧ EnvOk K H O m env σ ∧ PostF K er Wx O (r env st) D H m
section
variable {K : PySem.W.Frag} {er : Er} {Wx : WX} {O : List Addr} {σ : L2.St} {H H1 : Hp} {m m1 : List Addr} {st st1 : Sto} {env : Ev} {D D' : Ends}
theorem PostF.fwd {r : F} (h : PostF K er Wx O r D H m) (e : Ext H m H1 m1) (rp : Rep K H1 O m1 st1) : PostF K er Wx O r D H1 m1 := by
  cases r with
  | nx env st => exact fun σ' H' m' e' r' n' => h σ' H' m' (e.trans e' rp) r' n'
  | bk env st => exact fun σ' H' m' e' r' n' => h σ' H' m' (e.trans e' rp) r' n'
  | ct env st => exact fun σ' H' m' e' r' n' => h σ' H' m' (e.trans e' rp) r' n'
  | ret w st => exact fun H' m' v e' r' n' => h H' m' v (e.trans e' rp) r' n'
  | exc c p env st => exact fun σ' H' m' dd fs v e' r' n' => h σ' H' m' dd fs v (e.trans e' rp) r' n'
  | bad => exact h
theorem PostF.nxt {env' : Ev} {σ' : L2.St} (h : PostF K er Wx O (.nx env' st) D H m) (rp : Rep K H O m st) (en : EnvOk K H O m env' σ') : D.nx σ' H := h σ' H m Ext.refl rp en
theorem seqS {α β : Type} {rel : Hp → List Addr → α → β → Prop} {r : R α} {f : α → Sto → F} (rp : Rep K H O m st) (en : EnvOk K H O m env σ) (h : PostF K er Wx O (r.thn env f) D H m) :
    PostG K er Wx O rel r σ H m (fun b H1 => ∃ m1 st1 a, Ext H m H1 m1 ∧ Rep K H1 O m1 st1 ∧ EnvOk K H1 O m1 env σ ∧ rel H1 m1 a b ∧ PostF K er Wx O (f a st1) D H1 m1) := by
  cases r with
  | ok a st' => exact fun H' m' b e rp' rl => ⟨m', st', a, e, rp', en.ext rp.mut e, rl, PostF.fwd h e rp'⟩
  | exc c p st' => exact fun H' m' dd fs v e rp' d x l => h σ H' m' dd fs v e rp' (en.ext rp.mut e) d x l
  | bad => exact h
theorem seqSI {r : R (List W ⊕ Nat)} {f : (List W ⊕ Nat) → Sto → F} (rp : Rep K H O m st) (en : EnvOk K H O m env σ) (h : PostF K er Wx O (r.thn env f) D H m)
    {R : It → Hp → Prop} (h1 : ∀ ws st1 H1 m1 J, Ext H m H1 m1 → Rep K H1 O m1 st1 → EnvOk K H1 O m1 env σ → (∀ H2 O2 m2, Later H1 O m1 H2 O2 m2 → WkAt K J H2 O2 m2 ws) → PostF K er Wx O (f (.inl ws) st1) D H1 m1 → R J H1)
    (h2 : ∀ i st1 H1 m1 a, Ext H m H1 m1 → Rep K H1 O m1 st1 → EnvOk K H1 O m1 env σ → m1[i]? = some a → PostF K er Wx O (f (.inr i) st1) D H1 m1 → R (Itl K a) H1) : PostI K er Wx O r σ H m R := by
  cases r with
  | ok a st' =>
    cases a with
    | inl ws => exact fun H' m' J e rp' k => h1 ws st' H' m' J e rp' (en.ext rp.mut e) k (PostF.fwd h e rp')
    | inr i => exact fun H' m' a e rp' k => h2 i st' H' m' a e rp' (en.ext rp.mut e) k (PostF.fwd h e rp')
  | exc c p st' => exact fun H' m' dd fs v e rp' d x l => h σ H' m' dd fs v e rp' (en.ext rp.mut e) d x l
  | bad => exact h
theorem tS_mk {r : Ev → Sto → F} (rp : Rep K H O m st) (en : EnvOk K H O m env σ) (h : PostF K er Wx O (r env st) D H m) : tS K er Wx r D σ H := ⟨O, m, st, env, rp, en, h⟩
end
theorem PS.imp {X : Cx} {s : Stmt} {t t' : TS} (h : PS X s t) (i : ∀ D σ H, t' D σ H → t D σ H) : PS X s t' := ⟨fun pins s σ H D I q => h.run pins s σ H D I (i D σ H q)⟩
theorem PSs.imp {X : Cx} {s : List Stmt} {t t' : TS} (h : PSs X s t) (i : ∀ D σ H, t' D σ H → t D σ H) : PSs X s t' := ⟨fun pins s σ H D I q => h.run pins s σ H D I (i D σ H q)⟩
/-- a def's context -/
structure GdS (nm : Nam) (T : Tab) (er : Er) (k : Nat) (C : Cal) (X : Cx) : Prop extends Gd nm T er k C X where
  kind : X.env.blockKind = .function
  po : PassesOwn (model X.prog X.w) X.A X.env X.xe
  stk : X.stack = X.env :: X.outer
  frm : X.env.frame = some X.env.locals
  fnc : ∀ x, X.fn x = true
section
variable {nm : Nam} {T : Tab} {er : Er} {k : Nat} {C : Cal} {X : Cx} {Wx : WX}
variable {e e' : Expr} {re : Ev → Sto → R W} {pos : Pos}
/-! ### stores -/
theorem asg_run {i : Nat} {D : Ends} {σ : L2.St} {H : Hp} (q : tS X.K er Wx (fun env st => (re env st).thn env fun w st => .nx (setV env i w) st) D σ H) : tAsg (tE X.K er Wx re) (gName i) D σ H := by
  obtain ⟨O, m, st, env, rp, en, q⟩ := q
  exact tE_mk rp en ((seqS (rel := relW X.K O) rp en q).imp fun x H1 ⟨m1, st1, w, e1, r1, en1, rl1, q1⟩ => PostF.nxt q1 r1 (en1.set i rl1))
def noComp : Expr → Bool
  | .ListComp .. => false
  | .SetComp .. => false
  | .DictComp .. => false
  | _ => true
def okAsg : Expr → Bool
  | .SetComp .. => false
  | .DictComp .. => false
  | _ => true
theorem swaps_no {v : Expr} {t : Option Expr} {l : Nat} {env : Env} (h : noComp v = true) : swapsWith v t l env = pure false := by
  cases v <;> first | rfl | cases h
def swB (sc : Scope) (x : Str) (p : Pos) (v : Expr) : Bool := match v with
  | .ListComp _ _ s lp => (sc.names.lookup x == some .local) && p.line == lp.line && !(s.names.any fun (n, k) => n == x && (k == .local || k == .cell))
  | _ => false
theorem swB_ok {x : Str} {p : Pos} {v : Expr} {l : Nat} {env : Env} (hk : env.blockKind = .function) (h : okAsg v = true) : swapsWith v (some (.Name x p)) l env = pure (swB env.scope x p v) := by
  cases v with
  | ListComp a b s lp =>
    unfold swapsWith
    dsimp only
    rw [hk]
    rfl
  | SetComp => cases h
  | DictComp => cases h
  | _ => rfl
theorem loc_of {sc : Scope} {x : Str} (h : (lookIs sc x .local || lookIs sc x .cell) = true) : Loc sc x := (Bool.or_eq_true_iff.mp h).elim (fun h => .inl (is_of h)) fun h => .inr (is_of h)
theorem swB_loc {sc : Scope} {x : Str} {p : Pos} {v : Expr} (h : swB sc x p v = true) : sc.names.lookup x = some .local := by
  unfold swB at h
  split at h
  · simp only [Bool.and_eq_true] at h
    exact eq_of_beq h.1.1
  · cases h
/-- a comprehension stored on its own line -/
theorem l_setLc {i : Nat} {y : Str} {py spos : Pos} {c : CE} (g : GdS nm T er k C X) (tk : Takes X Wx) (hy : X.N[i]? = some y) (hyl : X.env.scope.names.lookup y = some .local) (h : chkE nm X.N c X.env.scope e = true) (hs : swB X.env.scope y py e = true) (ho : okAsg e = true) :
    PS X (.Assign [.Name y py] e spos) (tAsg (tE X.K er Wx (ev T C c)) (gName i)) := by
  have hsw := swB_ok (p := py) (x := y) (l := spos.line) g.kind ho
  rw [hs] at hsw
  cases e with
  | ListComp el gens scope lp =>
    cases c with
    | comp m elt p it own =>
      unfold chkE at h
      split at h
      · rename_i e0 el' tg iter scope' lp' e1
        cases e1
        have hq' : ∀ i ∈ paSl p, i ∈ own := fun i hi => by
          have := List.all_eq_true.mp (and2 (and1 (and1 h))) i hi
          simpa using this
        have he := fun (s : Shared) (H : Hp) (L : Addr) (cl : List (Str × Addr)) (fp : List Addr) => pxE elt (X := X.blk s H scope (compEnvC scope cl L X.env) fp) (Wx := WF) (g.toGd.blk _ _ _ _ _) takesF _ (and2 (and1 h))
        refine PS.imp (ps_setLc (g := gPat X.K p) (tt := tYes) (te := tE X.K er WF (ev T C elt)) g.calm g.nd hy hyl hsw (piE it g.toGd tk _ (and1 (and1 (and1 (and1 (and1 h)))))) (blkOk_by (and2 (and1 (and1 (and1 (and1 h))))))
          (fun s H L cl fp => pa_pg (X := X.blk s H scope (compEnvC scope cl L X.env) fp) (cl := false) (fun z => nomatch z) g.calm g.nd rfl rfl (and2 (and1 (and1 (and1 h))))) (fun s H L cl fp => pts_nil) (fun s H L cl fp => (he s H L cl fp).pe) (fold_of (and2 h))) fun D σ H q => ?_
        rw [own_slots]
        exact comp_ok (mm := m) body_comp hq' q
      · cases h
    | un =>
      constructor
      intros
      rename_i h
      obtain ⟨O, m, st, env, rp, en, q⟩ := h
      exact q.elim
    | compIf m elt p it c own =>
      unfold chkE at h
      split at h
      · rename_i e0 el' tg iter t scope' lp' e1
        cases e1
        have hq' : ∀ i ∈ paSl p, i ∈ own := fun i hi => by
          have := List.all_eq_true.mp (and2 (and1 (and1 (and1 h)))) i hi
          simpa using this
        have he := fun (s : Shared) (H : Hp) (L : Addr) (cl : List (Str × Addr)) (fp : List Addr) => pxE elt (X := X.blk s H scope (compEnvC scope cl L X.env) fp) (Wx := WF) (g.toGd.blk _ _ _ _ _) takesF _ (and2 (and1 (and1 h)))
        have hc := fun (s : Shared) (H : Hp) (L : Addr) (cl : List (Str × Addr)) (fp : List Addr) => pxE c (X := X.blk s H scope (compEnvC scope cl L X.env) fp) (Wx := WF) (g.toGd.blk _ _ _ _ _) takesF _ (and2 (and1 h))
        refine PS.imp (ps_setLc (g := gPat X.K p) (tt := tT X.K er WF fun env st => (ev T C c env st).tst) (te := tE X.K er WF (ev T C elt)) g.calm g.nd hy hyl hsw (piE it g.toGd tk _ (and1 (and1 (and1 (and1 (and1 (and1 h))))))) (blkOk_by (and2 (and1 (and1 (and1 (and1 (and1 h)))))))
          (fun s H L cl fp => pa_pg (X := X.blk s H scope (compEnvC scope cl L X.env) fp) (cl := false) (fun z => nomatch z) g.calm g.nd rfl rfl (and2 (and1 (and1 (and1 (and1 h)))))) (fun s H L cl fp => pts_one (hc s H L cl fp).pt) (fun s H L cl fp => (he s H L cl fp).pe) (fold_of (and2 h))) fun D σ H q => ?_
        rw [own_slots]
        exact comp_ok (mm := m) body_compIf hq' q
      · cases h
    | _ => unfold chkE at h; cases h
  | _ => cases hs
theorem s_asg {i : Nat} {y : Str} {py spos : Pos} {c : CE} (g : GdS nm T er k C X) (tk : Takes X Wx) (hy : X.N[i]? = some y) (hyl : (lookIs X.env.scope y .local || lookIs X.env.scope y .cell) = true) (h : chkE nm X.N c X.env.scope e = true) (ho : okAsg e = true) :
    PS X (.Assign [.Name y py] e spos) (tS X.K er Wx fun env st => (ev T C c env st).thn env fun w st => .nx (setV env i w) st) := by
  cases hs : swB X.env.scope y py e with
  | true => exact PS.imp (l_setLc g tk hy (swB_loc hs) h hs ho) fun D σ H q => asg_run q
  | false =>
    have hsw := swB_ok (p := py) (x := y) (l := spos.line) g.kind ho
    rw [hs] at hsw
    exact PS.imp (ps_set g.nd hy (loc_of hyl) (pxE c g.toGd tk _ h).pe hsw (.inl (g.fnc _))) fun D σ H q => asg_run q
theorem pat_run {p : Pa} {D : Ends} {σ : L2.St} {H : Hp} (q : tS X.K er Wx (fun env st => (re env st).thn env fun w st => (match patV env p w with
    | some env' => .nx env' st
    | none => .bad)) D σ H) : tAsg (tE X.K er Wx re) (gPat X.K p) D σ H := by
  obtain ⟨O, m, st, env, rp, en, q⟩ := q
  refine tE_mk rp en ((seqS (rel := relW X.K O) rp en q).imp fun x H1 ⟨m1, st1, w, e1, r1, en1, rl1, q1⟩ => ?_)
  cases hp : patV env p w with
  | none => rw [hp] at q1; exact q1.elim
  | some env' =>
    rw [hp] at q1
    exact pat_ok hp en1 rl1 fun σ2 e2 _ => PostF.nxt q1 r1 e2
theorem s_asgT {is : List Nat} {ts : List Expr} {kk : Nat} {tp spos : Pos} (g : GdS nm T er k C X) (hp : nmsB true X.N X.env.scope is ts = true) (he : PX X er Wx e re) (hw : swS X.env.scope ts e = some none) :
    PS X (.Assign [.Tuple ts kk tp] e spos) (tS X.K er Wx fun env st => (re env st).thn env fun w st => (match patV env (.t is) w with
    | some env' => .nx env' st
    | none => .bad)) :=
  PS.imp (ps_asg he.pe (pa_pg (p := .t is) (fun _ => g.fnc) g.calm g.nd rfl rfl hp) (by cases e <;> rfl) (swS_ok g.kind hw) rfl) fun D σ H q => pat_run q
theorem s_par2 {i j : Nat} {x y : Str} {a b : Expr} {px py pt : Pos} {kt k2 : Nat} {pt2 spos : Pos} {rs : Ev → Sto → R (List W)} (g : GdS nm T er k C X) (hi : X.N[i]? = some x) (hj : X.N[j]? = some y) (hij : i ≠ j) (hx : X.env.scope.names.lookup x = some .local) (hy : X.env.scope.names.lookup y = some .local)
    (ha : PA X [a, b] (tA X.K er Wx rs)) (hw : swS X.env.scope [.Name x px, .Name y py] (.Tuple [a, b] k2 pt2) = some (some [x, y])) :
    PS X (.Assign [.Tuple [.Name x px, .Name y py] kt pt] (.Tuple [a, b] k2 pt2) spos) (tS X.K er Wx fun env st => (rs env st).thn env fun ws st => (match setWs env [i, j] ws with
    | some env' => .nx env' st
    | none => .bad)) := by
  refine PS.imp (ps_par g.calm g.nd hi hj hij hx hy ha (swS_ok g.kind hw) rfl) fun D σ H q => ?_
  obtain ⟨O, m, st, env, rp, en, q⟩ := q
  refine ⟨O, m, st, env, rp, en, (seqS (rel := relWs X.K O) rp en q).imp fun vs H1 ⟨m1, st1, ws, e1, r1, en1, rl1, q1⟩ => ?_⟩
  cases ws with
  | nil => exact q1.elim
  | cons w ws => cases ws with
    | nil => exact q1.elim
    | cons u ws => cases ws with
      | nil =>
        obtain ⟨v, v', rfl, h1, h2⟩ := WVs.two rl1
        exact ⟨v, v', rfl, PostF.nxt q1 r1 ((en1.set i h1).set j h2)⟩
      | cons _ _ => exact q1.elim
theorem s_par3 {i j l : Nat} {x y z : Str} {a b c : Expr} {px py pz pt : Pos} {kt k2 : Nat} {pt2 spos : Pos} {rs : Ev → Sto → R (List W)} (g : GdS nm T er k C X) (hi : X.N[i]? = some x) (hj : X.N[j]? = some y) (hl : X.N[l]? = some z) (hij : i ≠ j) (hil : i ≠ l) (hjl : j ≠ l)
    (hx : X.env.scope.names.lookup x = some .local) (hy : X.env.scope.names.lookup y = some .local) (hz : X.env.scope.names.lookup z = some .local)
    (ha : PA X [a, b, c] (tA X.K er Wx rs)) (hw : swS X.env.scope [.Name x px, .Name y py, .Name z pz] (.Tuple [a, b, c] k2 pt2) = some (some [x, y, z])) :
    PS X (.Assign [.Tuple [.Name x px, .Name y py, .Name z pz] kt pt] (.Tuple [a, b, c] k2 pt2) spos) (tS X.K er Wx fun env st => (rs env st).thn env fun ws st => (match setWs env [i, j, l] ws with
    | some env' => .nx env' st
    | none => .bad)) := by
  refine PS.imp (ps_par3 g.calm g.nd hi hj hl hij hil hjl hx hy hz ha (swS_ok g.kind hw) rfl) fun D σ H q => ?_
  obtain ⟨O, m, st, env, rp, en, q⟩ := q
  refine ⟨O, m, st, env, rp, en, (seqS (rel := relWs X.K O) rp en q).imp fun vs H1 ⟨m1, st1, ws, e1, r1, en1, rl1, q1⟩ => ?_⟩
  cases ws with
  | nil => exact q1.elim
  | cons w ws => cases ws with
    | nil => exact q1.elim
    | cons u ws => cases ws with
      | nil => exact q1.elim
      | cons t ws => cases ws with
        | nil =>
          obtain ⟨v, r, ev, h1, h2⟩ := rl1
          obtain ⟨v', v'', er', h5, h6⟩ := WVs.two h2
          subst ev er'
          exact ⟨v, v', v'', rfl, PostF.nxt q1 r1 (((en1.set i h1).set j h5).set l h6)⟩
        | cons _ _ => exact q1.elim
theorem s_aug {i : Nat} {x : Str} {op : Operator} {px spos : Pos} (g : GdS nm T er k C X) (hi : X.N[i]? = some x) (hx : (lookIs X.env.scope x .local || lookIs X.env.scope x .cell) = true) (he : PX X er Wx e re) : PS X (.AugAssign (.Name x px) op e spos) (tS X.K er Wx fun env st => (match env[i]? with
    | some (some a) => (re env st).thn env fun b st => (match augW op a b with
      | some w => .nx (setV env i w) st
      | none => .bad)
    | _ => .bad)) := by
  have key : ∀ (f : Int → Int → Int), PIp X op (ipI f) → (∀ a b w, augW op a b = some w → ∃ p q, a = .d (.int p) ∧ b = .d (.int q) ∧ w = .d (.int (f p q))) → PS X (.AugAssign (.Name x px) op e spos) (tS X.K er Wx fun env st => (match env[i]? with
    | some (some a) => (re env st).thn env fun b st => (match augW op a b with
      | some w => .nx (setV env i w) st
      | none => .bad)
    | _ => .bad)) := fun f hf hk => by
    refine PS.imp (ps_aug g.nd hi (loc_of hx) he.pe hf (.inl (g.fnc _))) fun D σ H q => ?_
    obtain ⟨O, m, st, env, rp, en, q⟩ := q
    cases hv : env[i]? with
    | none => simp only [hv] at q; exact q.elim
    | some o =>
      cases o with
      | none => simp only [hv] at q; exact q.elim
      | some a =>
        simp only [hv] at q
        obtain ⟨v, h1, h2⟩ := en.at_ i a hv
        refine ⟨v, h1, tE_mk rp en ((seqS (rel := relW X.K O) rp en q).imp fun y H1 ⟨m1, st1, b, e1, r1, en1, rl1, q1⟩ => ?_)⟩
        cases ha : augW op a b with
        | none => rw [ha] at q1; exact q1.elim
        | some w =>
          rw [ha] at q1
          obtain ⟨i1, i2, rfl, rfl, rfl⟩ := hk a b w ha
          exact ⟨i1, i2, h2, rl1, PostF.nxt q1 r1 (en1.set i (v := .int (f i1 i2)) rfl)⟩
  have nev : (∀ a b, augW op a b = none) → PS X (.AugAssign (.Name x px) op e spos) (tS X.K er Wx fun env st => (match env[i]? with
    | some (some a) => (re env st).thn env fun b st => (match augW op a b with
      | some w => .nx (setV env i w) st
      | none => .bad)
    | _ => .bad)) := fun hn => by
    refine PS.imp (ps_aug g.nd hi (loc_of hx) he.pe (ti := fun _ _ _ _ => False) (fun _ _ _ _ _ _ _ _ _ _ _ _ h => h.elim) (.inl (g.fnc _))) fun D σ H q => ?_
    obtain ⟨O, m, st, env, rp, en, q⟩ := q
    cases hv : env[i]? with
    | none => simp only [hv] at q; exact q.elim
    | some o =>
      cases o with
      | none => simp only [hv] at q; exact q.elim
      | some a =>
        simp only [hv] at q
        obtain ⟨v, h1, h2⟩ := en.at_ i a hv
        refine ⟨v, h1, tE_mk rp en ((seqS (rel := relW X.K O) rp en q).imp fun y H1 ⟨m1, st1, b, e1, r1, en1, rl1, q1⟩ => ?_)⟩
        rw [hn] at q1
        exact q1.elim
  cases op with
  | Add =>
    refine key _ ip_add fun a b w h => ?_
    unfold augW at h
    split at h
    · cases h; exact ⟨_, _, rfl, rfl, rfl⟩
    · cases h
  | Sub =>
    refine key _ ip_sub fun a b w h => ?_
    unfold augW at h
    split at h
    · cases h; exact ⟨_, _, rfl, rfl, rfl⟩
    · cases h
  | _ =>
    refine nev fun a b => ?_
    unfold augW
    split <;> rfl
theorem s_setIx {o i v : Expr} {ro ri rv : Ev → Sto → R W} {tp spos : Pos} (ho : PX X er Wx o ro) (hi : PX X er Wx i ri) (hv : PX X er Wx v rv) (hn : noSlice i = true) (hc : noComp v = true) : PS X (.Assign [.Subscript o i tp] v spos) (tS X.K er Wx fun env st =>
    (rv env st).thn env fun v st => (ro env st).thn env fun o st => (ri env st).thn env fun i st => (match setI o i v st with
    | some st' => .nx env st'
    | none => .bad)) := by
  refine PS.imp (ps_asg hv.pe (pg_sub ho.pe hi.pe set_list (by intro v; cases i <;> first | rfl | cases hn)) (by cases v <;> first | rfl | cases hc) (by cases v <;> rfl) rfl) fun D σ H q => ?_
  obtain ⟨O, m, st, env, rp, en, q⟩ := q
  refine tE_mk rp en ((seqS (rel := relW X.K O) rp en q).imp fun x H1 ⟨m1, st1, w, e1, r1, en1, rl1, q1⟩ => ?_)
  refine tE_mk r1 en1 ((seqS (rel := relW X.K O) r1 en1 q1).imp fun y H2 ⟨m2, st2, u, e2, r2, en2, rl2, q2⟩ => ?_)
  refine tE_mk r2 en2 ((seqS (rel := relW X.K O) r2 en2 q2).imp fun z H3 ⟨m3, st3, t, e3, r3, en3, rl3, q3⟩ => ?_)
  have h1 := WV.ext r2.mut e3 (WV.ext r1.mut e2 rl1)
  have h2 := WV.ext r2.mut e3 rl2
  cases hs : setI u t w st3 with
  | none => rw [hs] at q3; exact q3.elim
  | some st' =>
    rw [hs] at q3
    cases u with
    | d _ => cases hs
    | ref r =>
      cases t with
      | ref _ => cases hs
      | d tt =>
        cases tt with
        | int kk =>
          unfold setI at hs
          dsimp only at hs
          split at hs
          · rename_i ws es
            cases hj : ixN ws.length kk with
            | none => rw [hj] at hs; cases hs
            | some j =>
              rw [hj] at hs; cases hs
              obtain ⟨a, vs, ev, hm, q, hw⟩ := r3.at_ h2 es
              obtain ⟨e4, r4⟩ := r3.write (o := .lst ws) hm (hw.set j h1)
              refine ⟨a, vs, kk, j, ev, rl3, q, by rw [← hw.length]; exact hj, ?_⟩
              exact PostF.nxt (PostF.fwd q3 e4 r4) r4 (en3.ext r3.mut e4)
          · cases hs
        | _ => cases hs
/-! ### the rest -/
theorem s_ex (he : PX X er Wx e re) (hc : noComp e = true) : PS X (.Expr e pos) (tS X.K er Wx fun env st => (re env st).thn env fun _ st => .nx env st) := by
  refine PS.imp (ps_expr he.pe (swaps_no hc)) fun D σ H q => ?_
  obtain ⟨O, m, st, env, rp, en, q⟩ := q
  exact tE_mk rp en ((seqS (rel := relW X.K O) rp en q).imp fun x H1 ⟨m1, st1, w, e1, r1, en1, rl1, q1⟩ => PostF.nxt q1 r1 en1)
theorem s_ret (he : PX X er Wx e re) : PS X (.Return (some e) pos) (tS X.K er Wx fun env st => (re env st).thn env fun w st => .ret w st) := by
  refine PS.imp (ps_ret he.pe) fun D σ H q => ?_
  obtain ⟨O, m, st, env, rp, en, q⟩ := q
  exact tE_mk rp en ((seqS (rel := relW X.K O) rp en q).imp fun x H1 ⟨m1, st1, w, e1, r1, en1, rl1, q1⟩ => q1 H1 m1 x Ext.refl r1 rl1)
theorem s_retN : PS X (.Return none pos) (tS X.K er Wx fun _ st => .ret (.d .non) st) := by
  refine PS.imp ps_retN fun D σ H q => ?_
  obtain ⟨O, m, st, env, rp, en, q⟩ := q
  exact q H m .non Ext.refl rp rfl
theorem s_if {a b : List Stmt} {ra rb : Ev → Sto → F} (hc : PX X er Wx e re) (ha : PSs X a (tS X.K er Wx ra)) (hb : PSs X b (tS X.K er Wx rb)) : PS X (.If e a b pos) (tS X.K er Wx fun env st => (re env st).tst.thn env fun k st => (match k with
    | true => ra env st
    | false => rb env st)) := by
  refine PS.imp (ps_if hc.pt ha hb) fun D σ H q => ?_
  obtain ⟨O, m, st, env, rp, en, q⟩ := q
  refine ⟨O, m, st, env, rp, en, (seqS (rel := relB) rp en q).imp fun kk H1 ⟨m1, st1, w, e1, r1, en1, rl, q1⟩ => ?_⟩
  have rl : kk = w := rl
  subst rl
  cases kk with
  | true => exact iteT (tS_mk r1 en1 q1)
  | false => exact iteF (tS_mk r1 en1 q1)
theorem s_pass : PS X (.Pass pos) (tS X.K er Wx fun env st => .nx env st) := by
  refine PS.imp ps_pass fun D σ H q => ?_
  obtain ⟨O, m, st, env, rp, en, q⟩ := q
  exact PostF.nxt q rp en
theorem s_brk : PS X (.Break pos) (tS X.K er Wx fun env st => .bk env st) := by
  refine PS.imp ps_break fun D σ H q => ?_
  obtain ⟨O, m, st, env, rp, en, q⟩ := q
  exact q σ H m Ext.refl rp en
theorem s_cont : PS X (.Continue pos) (tS X.K er Wx fun env st => .ct env st) := by
  refine PS.imp ps_continue fun D σ H q => ?_
  obtain ⟨O, m, st, env, rp, en, q⟩ := q
  exact q σ H m Ext.refl rp en
theorem PostF.seq {K : PySem.W.Frag} {O : List Addr} {H : Hp} {m : List Addr} {D : Ends} {f : F} {g : Ev → Sto → F} (h : PostF K er Wx O (seqF f g) D H m) : PostF K er Wx O f { D with nx := tS K er Wx g D } H m := by
  cases f with
  | nx env st => exact fun σ' H' m' e r n => tS_mk r n (PostF.fwd h e r)
  | bk env st => exact h
  | ct env st => exact h
  | ret w st => exact h
  | exc c p env st => exact h
  | bad => exact h
theorem ss_nil : PSs X [] (tS X.K er Wx fun env st => .nx env st) := by
  refine PSs.imp pss_nil fun D σ H q => ?_
  obtain ⟨O, m, st, env, rp, en, q⟩ := q
  exact PostF.nxt q rp en
theorem ss_cons {s : Stmt} {rest : List Stmt} {f g : Ev → Sto → F} (h1 : PS X s (tS X.K er Wx f)) (h2 : PSs X rest (tS X.K er Wx g)) : PSs X (s :: rest) (tS X.K er Wx fun env st => seqF (f env st) g) := by
  refine PSs.imp (pss_cons h1 h2) fun D σ H q => ?_
  obtain ⟨O, m, st, env, rp, en, q⟩ := q
  exact tS_mk rp en (PostF.seq q)
end
end LL

set_option Elab.async false
set_option linter.all false
set_option maxRecDepth 100000
set_option maxHeartbeats 4000000
set_option autoImplicit false
/-! LPx: raise and try keep what the evaluator says. -/
namespace LL
open PySem PySem.Spec PyProof.Rows L2
section
variable {nm : Nam} {T : Tab} {er : Er} {k : Nat} {C : Cal} {X : Cx} {Wx : WX}
theorem s_raise {c : Nat} {x : Str} {p pos pos2 : Pos} {e : Expr} {ce : CE} (g : GdS nm T er k C X) (tk : Takes X Wx) (hex : nm.ex = true) (hmk : nm.mkr c = true) (hx : x = nm.er c) (hg : glB X.env.scope x = true) (ho : okName x = true) (he : PX X er Wx e (ev T C ce)) (hs : noStar e = true) :
    PS X (.Raise (some (.Call (.Name x p) [e] [] pos)) none pos2) (tS X.K er Wx fun env st => (ev T C ce env st).thn env fun w st => (match w with
      | .d y => .exc c y env st
      | .ref _ => .bad)) := by
  have F := g.lk.emk hex c hmk
  rw [← hx] at F
  have hr : Room 2 X.A := g.room.mono (by omega)
  refine PS.imp (ps_raise g.calm tk (pmk_er hr tk F (show X.env.kindOf x = some .globalImplicit from is_of hg) (okN ho).1 (l_acons he (l_anil (T := T) (C := C)) hs) hs)) fun D σ H q => ?_
  obtain ⟨O, m, st, env, rp, en, q⟩ := q
  refine ⟨O, m, st, env, rp, en, ?_⟩
  dsimp only at q ⊢
  generalize ev T C ce env st = rr at q ⊢
  cases rr with
  | bad => exact q.elim
  | exc c' p' st' =>
    exact fun H' m' dd fs v e rp' d x l => q σ H' m' dd fs v e rp' (en.ext rp.mut e) d x l
  | ok w st1 =>
    cases w with
    | ref _ => exact q.elim
    | d y =>
      intro H1 m1 vs e1 r1 hvs
      obtain ⟨v, r, rfl, hw, hr2⟩ := hvs
      have : r = [] := hr2
      subst this
      refine ⟨(by show 1 ≤ 1000; decide), fun a ha => ⟨a, er.ca c, v, rfl, F.ox, F.no, upd_same, fun dx hdx hne => ?_⟩⟩
      have hd : H1 dx = none := by
        rw [upd_ne hne] at hdx
        exact hdx
      refine ⟨rfl, dx, [(er.an c, v)], upd_same, by rw [upd_ne hne, upd_same], hd, ?_⟩
      rw [made_heap ha hne]
      have ef : Ext H1 m1 (upd H1 dx (.xd [(er.an c, v)])) m1 := Ext.fresh hd
      refine q σ (upd H1 dx (.xd [(er.an c, v)])) m1 dx [(er.an c, v)] v (e1.trans ef r1) (r1.fresh hd) (en.ext rp.mut (e1.trans ef r1)) ?_ upd_same ?_
      · exact DV.ext r1.mut ef (fun _ z => .inl z) (fun _ z => List.mem_append_right _ z) y v hw
      · rw [List.lookup_cons_self]
/-! ### clauses -/
def slH : Hd → Option Nat
  | .pair i _ => some i
  | .val i => some i
  | .cst i _ => some i
  | .non => none
  | .isv i _ _ => some i
/-- the attribute of the caught error in slot i -/
def tFld (K : PySem.W.Frag) (f : Str) (a : Addr) (cls : Value) (d : Option Addr) (i : Nat) (C : Addr) : TE := tXf a cls d C f (tVar i)
/-- isinstance(e, the class at Ci) and e.f == z -/
def tIsv (K : PySem.W.Frag) (f : Str) (i : Nat) (Ci : Addr) (z : Str) (a : Addr) (cls : Value) (d : Option Addr) : TE :=
  tAndV (tCB (rIsH K a cls d) (tCons (tVar i) (tCons (tC (.ref Ci)) tNil))) (tOp rEq (tXfh K a cls d f (tVar i)) (tC (.str z)))
def suH (K : PySem.W.Frag) (er : Er) (f : Str) : Hd → Sui
  | .isv i h z => fun a cls d => tRet (tIsv K f i (er.ca h) z a cls d)
  | .pair i x => fun a cls d D σ H => ∃ C, XfC K C ∧ PySem.W.findIn K (.ref C) f = some none ∧ tRet (tTup (tCons (tC (.str x)) (tCons (tXf a cls d C f (tVar i)) tNil))) D σ H
  | .val i => fun a cls d D σ H => ∃ C, XfC K C ∧ PySem.W.findIn K (.ref C) f = some none ∧ tRet (tXf a cls d C f (tVar i)) D σ H
  | .cst _ x => fun _ _ _ => tRet (tC (.str x))
  | .non => fun _ _ _ => tRet (tC .non)
def nameH (N : List Str) (sc : Scope) (i : Nat) (n : Option Str) : Bool := match n with
  | some y => decide (N[i]? = some y) && lookIs sc y .local && okName y
  | none => false
def bodyV (nm : Nam) (sc : Scope) (an : Nat → Str) (f : Str) (h : Nat) (z : Str) : Option Str → List Stmt → Bool
  | some y, [.Return (some (.BoolOp .And [.Call (.Name g _) [.Name m _, .Name c _] [] _, .Compare (.Attribute (.Name m2 _) f2 _) [.Eq] [.Constant (.str z2) _ _] _] _)) _] =>
    decide (g = ("isinstance" : Str)) && glB sc g && decide (m = y) && decide (c = nm.er h) && glB sc c && okName c && decide (m2 = y) && decide (f2 = f) && decide (z2 = z) && decide (an h = f) && nm.lf h
  | _, _ => false
def bodyH (nm : Nam) (sc : Scope) (an : Nat → Str) (N : List Str) (f : Str) : Hd → Option Str → List Stmt → Bool
  | .pair i x, some y, [.Return (some (.Tuple [.Constant (.str z) _ _, .Attribute (.Name m _) g _] _ _)) _] => decide (m = y) && decide (z = x) && decide (g = f)
  | .val i, some y, [.Return (some (.Attribute (.Name m _) g _)) _] => decide (m = y) && decide (g = f)
  | .cst i x, some _, [.Return (some (.Constant (.str z) _ _)) _] => decide (z = x)
  | .non, none, [.Return (some (.Constant .none _ _)) _] => true
  | .isv _ h z, n, b => bodyV nm sc an f h z n b
  | _, _, _ => false
def fldH : Hd → Bool
  | .pair _ _ => true
  | .val _ => true
  | _ => false
def chkH (nm : Nam) (an0 : Nat → Str) (an : Str) (N : List Str) (sc : Scope) (h : Nat) (k : Hd) : ExceptHandler → Bool
  | .ExceptHandler (some (.Name x _)) n b _ => decide (x = nm.er h) && glB sc x && okName x && (!fldH k || nm.lf h) && (match slH k with
    | some i => nameH N sc i n
    | none => n.isNone) && bodyH nm sc an0 N an k n b
  | _ => false
theorem pss_ex {X : Cx} {b : List Stmt} {P : Addr → Prop} {t : Addr → TS} (h : ∀ C, P C → PSs X b (t C)) : PSs X b (fun D σ H => ∃ C, P C ∧ t C D σ H) := ⟨fun pins s σ H D I q => by
  obtain ⟨C, p, q⟩ := q
  exact (h C p).run pins s σ H D I q⟩
theorem body_pair {sc : Scope} {an : Nat → Str} {N : List Str} {f : Str} {i : Nat} {x : Str} {n : Option Str} {b : List Stmt} (h : bodyH nm sc an N f (.pair i x) n b = true) : ∃ (y : Str) (j : _) (p q r : Pos) (s : Nat) (t u : Pos), n = some y ∧ b = [.Return (some (.Tuple [.Constant (.str x) j p, .Attribute (.Name y q) f r] s t)) u] := by
  unfold bodyH at h
  split at h
  · rename_i e1
    cases e1
    obtain rfl := of_decide_eq_true (and1 (and1 h))
    obtain rfl := of_decide_eq_true (and2 (and1 h))
    obtain rfl := of_decide_eq_true (and2 h)
    exact ⟨_, _, _, _, _, _, _, _, rfl, rfl⟩
  all_goals first | (rename_i e; cases e) | cases h
theorem body_val {sc : Scope} {an : Nat → Str} {N : List Str} {f : Str} {i : Nat} {n : Option Str} {b : List Stmt} (h : bodyH nm sc an N f (.val i) n b = true) : ∃ (y : Str) (q r u : Pos), n = some y ∧ b = [.Return (some (.Attribute (.Name y q) f r)) u] := by
  unfold bodyH at h
  split at h
  all_goals first | (rename_i e; cases e; done) | skip
  all_goals first | cases h; done | skip
  · rename_i e1
    cases e1
    obtain rfl := of_decide_eq_true (and1 h)
    obtain rfl := of_decide_eq_true (and2 h)
    exact ⟨_, _, _, _, rfl, rfl⟩
theorem body_cst {sc : Scope} {an : Nat → Str} {N : List Str} {f : Str} {i : Nat} {x : Str} {n : Option Str} {b : List Stmt} (h : bodyH nm sc an N f (.cst i x) n b = true) : ∃ (y : Str) (j : _) (p u : Pos), n = some y ∧ b = [.Return (some (.Constant (.str x) j p)) u] := by
  unfold bodyH at h
  split at h
  all_goals first | (rename_i e; cases e; done) | skip
  all_goals first | cases h; done | skip
  · rename_i e1
    cases e1
    obtain rfl := of_decide_eq_true h
    exact ⟨_, _, _, _, rfl, rfl⟩
theorem body_non {sc : Scope} {an : Nat → Str} {N : List Str} {f : Str} {n : Option Str} {b : List Stmt} (h : bodyH nm sc an N f .non n b = true) : ∃ (j : _) (p u : Pos), n = none ∧ b = [.Return (some (.Constant .none j p)) u] := by
  unfold bodyH at h
  split at h
  all_goals first | (rename_i e; cases e; done) | skip
  all_goals first | cases h; done | skip
  exact ⟨_, _, _, rfl, rfl⟩
theorem body_isv {sc : Scope} {an : Nat → Str} {N : List Str} {f : Str} {i h : Nat} {z : Str} {n : Option Str} {b : List Stmt} (hb : bodyH nm sc an N f (.isv i h z) n b = true) : ∃ (y : Str) (p1 p2 p3 p4 p5 p6 p7 p8 p9 p10 : Pos) (j : _), n = some y ∧ b = [.Return (some (.BoolOp .And [.Call (.Name "isinstance" p1) [.Name y p2, .Name (nm.er h) p3] [] p4, .Compare (.Attribute (.Name y p5) f p6) [.Eq] [.Constant (.str z) j p7] p8] p9)) p10] ∧
    glB sc "isinstance" = true ∧ glB sc (nm.er h) = true ∧ okName (nm.er h) = true ∧ an h = f ∧ nm.lf h = true := by
  replace hb : bodyV nm sc an f h z n b = true := by
    unfold bodyH at hb
    exact hb
  unfold bodyV at hb
  split at hb
  · have h1 := and1 hb; have h2 := and1 h1; have h3 := and1 h2; have h4 := and1 h3; have h5 := and1 h4; have h6 := and1 h5; have h7 := and1 h6; have h8 := and1 h7; have h9 := and1 h8; have h10 := and1 h9
    obtain rfl := of_decide_eq_true h10
    obtain rfl := of_decide_eq_true (and2 h8)
    obtain rfl := of_decide_eq_true (and2 h7)
    obtain rfl := of_decide_eq_true (and2 h4)
    obtain rfl := of_decide_eq_true (and2 h3)
    obtain rfl := of_decide_eq_true (and2 h2)
    exact ⟨_, _, _, _, _, _, _, _, _, _, _, _, rfl, rfl, and2 h9, and2 h6, and2 h5, of_decide_eq_true (and2 h1), and2 hb⟩
  · cases hb
theorem suite_ok {N : List Str} {f : Str} {hk : Hd} {n : Option Str} {b : List Stmt} (hN : N = X.N) (hn : ∀ i, slH hk = some i → nameH N X.env.scope i n = true) {an : Nat → Str} (hi : X.mg "isinstance" = none) (hcl : ∀ h, X.mg (nm.er h) = some (.ref (er.ca h))) (hb : bodyH nm X.env.scope an N f hk n b = true) {a : Addr} {oe : Obj} {cls : Value} {d : Option Addr} {pn : List (Addr × Obj)} (hz : Zc cls d oe) (hf : ∃ vs, oe.data = .fields vs) :
    PSs (X.suite a ((a, oe) :: pn)) b (suH X.K er f hk a cls d) := by
  subst hN
  have vr : ∀ {i : Nat} {y : Str} {p : Pos}, nameH X.N X.env.scope i (some y) = true → PE (X.suite a ((a, oe) :: pn)) (.Name y p) (tVar i) := fun {i y p} h => by
    have h : (decide (X.N[i]? = some y) && lookIs X.env.scope y .local && okName y) = true := h
    have o := okN (and2 h)
    exact pv (X := X.suite a ((a, oe) :: pn)) i (of_decide_eq_true (and1 (and1 h))) (.inl (is_of (and2 (and1 h)))) o.1 o.2
  cases hk with
  | pair i x =>
    obtain ⟨y, j, p, q, r, s, t, u, rfl, rfl⟩ := body_pair hb
    refine PSs.imp (pss_ex (P := fun C => XfC X.K C ∧ PySem.W.findIn X.K (.ref C) f = some none) fun C hC => pss_one (ps_ret (pe_tup (pa_cons pe_str (pa_cons (pe_xf hC.1 hC.2 hz hf (vr (hn i rfl))) pa_nil))))) fun D σ H q => ?_
    obtain ⟨C, q1, q2, q3⟩ := q
    exact ⟨C, ⟨q1, q2⟩, q3⟩
  | val i =>
    obtain ⟨y, q, r, u, rfl, rfl⟩ := body_val hb
    refine PSs.imp (pss_ex (P := fun C => XfC X.K C ∧ PySem.W.findIn X.K (.ref C) f = some none) fun C hC => pss_one (ps_ret (pe_xf hC.1 hC.2 hz hf (vr (hn i rfl))))) fun D σ H q => ?_
    obtain ⟨C, q1, q2, q3⟩ := q
    exact ⟨C, ⟨q1, q2⟩, q3⟩
  | cst i x =>
    obtain ⟨y, j, p, u, rfl, rfl⟩ := body_cst hb
    exact pss_one (ps_ret pe_str)
  | non =>
    obtain ⟨j, p, u, rfl, rfl⟩ := body_non hb
    exact pss_one (ps_ret pe_non)
  | isv i h z =>
    obtain ⟨y, p1, p2, p3, p4, p5, p6, p7, p8, p9, p10, j, rfl, rfl, g1, g2, o2, _⟩ := body_isv hb
    have hv := fun p => vr (p := p) (hn i rfl)
    have G : (X.suite a ((a, oe) :: pn)).env.kindOf "isinstance" = some .globalImplicit := is_of g1
    have G2 : (X.suite a ((a, oe) :: pn)).env.kindOf (nm.er h) = some .globalImplicit := is_of g2
    refine pss_one (ps_ret (pe_and (pe_callB (call_isH hz hf) G hi (by decide +kernel) (pa_cons (hv _) (pa_cons (pe_glob G2 (hcl h) rfl (okN o2).1) pa_nil)) (by decide) (by decide) rfl rfl) (pe_one (pe_cmpR op_eq (pe_xfh hz hf (hv _) rfl) pe_str rfl))))
/-- the clauses' wishes -/
def clsH (K : PySem.W.Frag) (er : Er) (hs : List (Nat × Hd)) : List (Value × Option Nat × Sui) := hs.map fun p => (.ref (er.ca p.1), slH p.2, suH K er (er.an p.1) p.2)
theorem catch_ok {K : PySem.W.Frag} {O m m' : List Addr} {H H' : Hp} {c : Nat} {p : D} {env : Ev} {st : Sto} {D : Ends} {σ' : L2.St} {dd : Addr} {fs : List (Str × V)} {v : V}
    (e : Ext H m H' m') (r : Rep K H' O m' st) (n : EnvOk K H' O m' env σ') (dv : DV K H' (O ++ m') p v) (hx : H' dd = some (.xd fs)) (lk : fs.lookup (er.an c) = some v)
    (em : ∀ h, PySem.W.exmOne K (.ref (er.ca c)) (.ref (er.ca h)) = some (T.sub c h)) :
    ∀ (hs : List (Nat × Hd)), (∀ q ∈ hs, fldH q.2 = true → T.sub c q.1 = true → XfC K (er.ca c) ∧ PySem.W.findIn K (.ref (er.ca c)) (er.an q.1) = some none ∧ er.an c = er.an q.1) →
      (∀ q ∈ hs, ∀ i h z, q.2 = .isv i h z → er.an h = er.an q.1 ∧ (ExcC K (er.ca c) ∧ PySem.W.kitOne K (.ref (er.ca c)) (.ref (er.ca h)) = some (T.sub c h)) ∧ (T.sub c h = true → XfC K (er.ca c) ∧ PySem.W.findIn K (.ref (er.ca c)) (er.an h) = some none ∧ er.an c = er.an h)) →
      PostF K er Wx O (catchF T.sub c p env st hs) D H m → wAll K Wx D (clsH K er hs) (.ref (er.ca c)) (some dd) σ' H'
  | [], _, _, q => q σ' H' m' dd fs v e r n dv hx lk
  | (h, hk) :: hs, hf, hv, q => by
    refine ⟨T.sub c h, em h, fun hb a ha => ?_, fun hb => ?_⟩
    · unfold catchF at q
      rw [hb] at q
      dsimp only at q
      cases hl : hdL env.length hk with
      | false => rw [hl] at q; exact q.elim
      | true =>
        rw [hl] at q
        have q' := PostF.fwd q e r
        have at_ : ∀ i, slH hk = some i → fldH hk = true → (σ'.set i (some (.ref a)))[i]? = some (some (V.ref a)) := fun i hi hfl => by
          have : i < env.length := by
            cases hk with
            | pair j x => cases hi; exact of_decide_eq_true hl
            | val j => cases hi; exact of_decide_eq_true hl
            | cst j x => cases hfl
            | non => cases hfl
            | isv _ _ _ => cases hfl
          rw [List.getElem?_set_self (by rw [n.len]; exact this)]
        cases hk with
        | pair i x =>
          obtain ⟨xf, no, ea⟩ := hf _ List.mem_cons_self rfl hb
          refine ⟨er.ca c, xf, no, ?_⟩
          refine ⟨.ref a, at_ i rfl rfl, rfl, rfl, dd, fs, v, rfl, hx, by rw [← ea]; exact lk, (by show 2 ≤ sizeLine; rw [sizeLine_eq]; decide), ?_⟩
          intro pp hp
          have q2 : ∀ H2 m2 v2, Ext H' m' H2 m2 → Rep K H2 O m2 st → WV K H2 O m2 (.d (.tup [.str x, p])) v2 → D.rt v2 H2 := q'
          refine q2 _ m' (.ref pp) (Ext.fresh hp) (r.fresh hp) ?_
          unfold WV DV
          refine ⟨pp, [.str x, v], rfl, SqT.of upd_same, ?_⟩
          unfold DVs
          refine ⟨.str x, [v], rfl, ?_, ?_⟩
          · unfold DV; rfl
          · unfold DVs
            refine ⟨v, [], rfl, DV.ext r.mut (Ext.fresh hp) (fun _ z => .inl z) (fun _ z => List.mem_append_right _ z) p v dv, ?_⟩
            unfold DVs
            rfl
        | val i =>
          obtain ⟨xf, no, ea⟩ := hf _ List.mem_cons_self rfl hb
          refine ⟨er.ca c, xf, no, ?_⟩
          refine ⟨.ref a, at_ i rfl rfl, rfl, rfl, dd, fs, v, rfl, hx, by rw [← ea]; exact lk, ?_⟩
          have q2 : ∀ H2 m2 v2, Ext H' m' H2 m2 → Rep K H2 O m2 st → WV K H2 O m2 (.d p) v2 → D.rt v2 H2 := q'
          exact q2 H' m' v Ext.refl r dv
        | cst i x =>
          have q2 : ∀ H2 m2 v2, Ext H' m' H2 m2 → Rep K H2 O m2 st → WV K H2 O m2 (.d (.str x)) v2 → D.rt v2 H2 := q'
          exact q2 H' m' (.str x) Ext.refl r (by unfold WV DV; rfl)
        | non =>
          have q2 : ∀ H2 m2 v2, Ext H' m' H2 m2 → Rep K H2 O m2 st → WV K H2 O m2 (.d .non) v2 → D.rt v2 H2 := q'
          exact q2 H' m' .non Ext.refl r (by unfold WV DV; rfl)
        | isv i h2 z =>
          obtain ⟨ea, ⟨E, kt⟩, hx2⟩ := hv _ List.mem_cons_self i h2 z rfl
          have ai : (σ'.set i (some (.ref a)))[i]? = some (some (V.ref a)) := by
            rw [List.getElem?_set_self (by rw [n.len]; exact of_decide_eq_true hl)]
          refine ⟨.ref a, ai, er.ca c, dd, fs, .ref (er.ca h2), .ref (er.ca h2), T.sub c h2, rfl, rfl, rfl, hx, E, (fun u r => r), kt, T.sub c h2, rfl, ?_⟩
          cases hs2 : T.sub c h2 with
          | false =>
            have q2 : PostF K er Wx O (match hdW T.sub c p (.isv i h2 z) with
              | some w => .ret w st
              | none => .bad) D H' m' := q'
            unfold hdW at q2
            dsimp only at q2
            rw [hs2] at q2
            have q3 : ∀ H2 m2 v2, Ext H' m' H2 m2 → Rep K H2 O m2 st → WV K H2 O m2 (.d (.bl false)) v2 → D.rt v2 H2 := q2
            rw [if_neg (by simp)]
            exact q3 H' m' (.bl false) Ext.refl r (by unfold WV DV; rfl)
          | true =>
            have q2 : PostF K er Wx O (match hdW T.sub c p (.isv i h2 z) with
              | some w => .ret w st
              | none => .bad) D H' m' := q'
            unfold hdW at q2
            dsimp only at q2
            rw [hs2] at q2
            rw [if_pos rfl]
            obtain ⟨xf, no, e3⟩ := hx2 hs2
            cases p with
            | str y =>
              have q3 : ∀ H2 m2 v2, Ext H' m' H2 m2 → Rep K H2 O m2 st → WV K H2 O m2 (.d (.bl (decide (y = z)))) v2 → D.rt v2 H2 := q2
              have ev : v = .str y := by unfold DV at dv; exact dv
              subst ev
              refine ⟨.ref a, ai, rfl, er.ca c, dd, fs, .str y, rfl, rfl, hx, xf, by rw [← ea]; exact no, by rw [← ea, ← e3]; exact lk, rfl, ?_⟩
              have ed : decide (V.str y = V.str z) = decide (y = z) := by
                by_cases w : y = z
                · simp [w]
                · simp [w]
              rw [ed]
              exact q3 H' m' (.bl (decide (y = z))) Ext.refl r (by unfold WV DV; rfl)
            | _ => exact q2.elim
    · unfold catchF at q
      rw [hb] at q
      exact catch_ok e r n dv hx lk em hs (fun q hq => hf q (List.mem_cons_of_mem _ hq)) (fun q hq => hv q (List.mem_cons_of_mem _ hq)) q
/-- the clauses of a text -/
def chkHs (nm : Nam) (an : Nat → Str) (N : List Str) (sc : Scope) : List (Nat × Hd) → List ExceptHandler → Bool
  | [], [] => true
  | (h, k) :: r, x :: xs => chkH nm an (an h) N sc h k x && chkHs nm an N sc r xs
  | _, _ => false
theorem clauses_of (g : GdS nm T er k C X) (hex : nm.ex = true) : ∀ {hs : List (Nat × Hd)} {xs : List ExceptHandler}, chkHs nm er.an X.N X.env.scope hs xs = true → Clauses X xs (clsH X.K er hs) ∧ (∀ q ∈ hs, fldH q.2 = true → nm.lf q.1 = true) ∧ ∀ q ∈ hs, ∀ i h z, q.2 = .isv i h z → er.an h = er.an q.1 ∧ nm.lf h = true
  | [], [], _ => ⟨.nil, (fun _ h => nomatch h), fun _ h => nomatch h⟩
  | [], _ :: _, h => by cases h
  | _ :: _, [], h => by cases h
  | (h, hk) :: r, x :: xs, hh => by
    unfold chkHs at hh
    obtain ⟨c2, f2, v2⟩ := clauses_of g hex (and2 hh)
    have h1 := and1 hh
    unfold chkH at h1
    split at h1
    · rename_i y p n b q
      have a1 := and1 h1; have a2 := and1 a1; have a3 := and1 a2; have a4 := and1 a3; have a5 := and1 a4
      have ey := of_decide_eq_true a5
      have hsl : ∀ i, slH hk = some i → nameH X.N X.env.scope i n = true := fun i hi => by
        have := and2 a1
        rw [hi] at this
        exact this
      have cn : CName X n (slH hk) := by
        cases hsk : slH hk with
        | none =>
          have z := and2 a1
          rw [hsk] at z
          cases n with
          | none => trivial
          | some _ => cases z
        | some i =>
          have z := hsl i hsk
          cases n with
          | none => cases z
          | some y =>
            have z : (decide (X.N[i]? = some y) && lookIs X.env.scope y .local && okName y) = true := z
            exact ⟨of_decide_eq_true (and1 (and1 z)), show X.env.kindOf y = some .local from is_of (and2 (and1 z))⟩
      have bne : ∃ b0 bs, b = b0 :: bs := by
        have z := and2 h1
        cases b with
        | cons b0 bs => exact ⟨b0, bs, rfl⟩
        | nil =>
          exfalso
          cases hk with
          | pair i x => obtain ⟨_, _, _, _, _, _, _, _, _, e⟩ := body_pair z; cases e
          | val i => obtain ⟨_, _, _, _, _, e⟩ := body_val z; cases e
          | cst i x => obtain ⟨_, _, _, _, _, e⟩ := body_cst z; cases e
          | non => obtain ⟨_, _, _, _, e⟩ := body_non z; cases e
          | isv i h z0 => obtain ⟨_, _, _, _, _, _, _, _, _, _, _, _, _, e, _⟩ := body_isv z; cases e
      obtain ⟨b0, bs, rfl⟩ := bne
      refine ⟨.cons ⟨show X.env.kindOf y = some .globalImplicit from is_of (and2 a4), (okN (and2 a3)).1, .inl (by rw [ey]; exact g.lk.egl hex h)⟩ cn (fun a oe cls d pn hz hf => suite_ok rfl hsl g.lk.isi (g.lk.egl hex) (and2 h1) hz hf) c2, fun q hq hfl => ?_, fun q hq i h3 z0 hq2 => ?_⟩
      · rcases List.mem_cons.mp hq with rfl | hq
        · have z := and2 a2
          rw [hfl] at z
          exact z
        · exact f2 q hq hfl
      · rcases List.mem_cons.mp hq with rfl | hq
        · have hq2 : hk = .isv i h3 z0 := hq2
          subst hq2
          obtain ⟨_, _, _, _, _, _, _, _, _, _, _, _, _, _, _, _, _, e4, e5⟩ := body_isv (and2 h1)
          exact ⟨e4, e5⟩
        · exact v2 q hq i h3 z0 hq2
    · cases h1
theorem GdS.tr (g : GdS nm T er k C X) {pn : List (Addr × Obj)} {xe : Value → Shared → Prop} (po : PassesOwn (model X.prog X.w) X.A X.env xe) : GdS nm T er k C (X.tr pn xe) :=
  { calm := g.calm, nd := g.nd, room := g.room, lk := g.lk, grd := g.grd, kind := g.kind, po := po, stk := g.stk, frm := g.frm, fnc := g.fnc }
theorem s_try {b : CSs} {hs : List (Nat × Hd)} {body : List Stmt} {h₀ : ExceptHandler} {hds : List ExceptHandler} {pos : Pos} (g : GdS nm T er k C X) (tk : Takes X Wx) (hex : nm.ex = true) (hh : chkHs nm er.an X.N X.env.scope hs (h₀ :: hds) = true)
    (hb : ∀ {X' : Cx} {W : WX}, X'.N = X.N → X'.env.scope = X.env.scope → GdS nm T er k C X' → Takes X' W → PSs X' body (tS X'.K er W (execs T C b))) :
    PS X (.Try body (h₀ :: hds) [] [] pos) (tS X.K er Wx (exec T C (.tri b hs))) := by
  obtain ⟨cl, lf, lv⟩ := clauses_of g hex hh
  refine PS.imp (ps_try_all (tb := fun W => tS X.K er W (execs T C b)) g.stk g.frm g.nd tk (fun W pn xe tk' po => hb rfl rfl (g.tr po) tk') cl) fun D σ H q => ?_
  obtain ⟨O, m, st, env, rp, en, q⟩ := q
  refine ⟨O, m, st, env, rp, en, ?_⟩
  have q : PostF X.K er Wx O (match execs T C b env st with
    | .exc c p env' st' => catchF T.sub c p env' st' hs
    | .nx env' st' => .nx env' st'
    | .ret w st' => .ret w st'
    | .bk env' st' => .bk env' st'
    | .ct env' st' => .ct env' st'
    | .bad => .bad) D H m := by
    unfold exec at q
    exact q
  cases hf : execs T C b env st with
  | nx env' st' => rw [hf] at q; exact q
  | ret w st' => rw [hf] at q; exact q
  | bk env' st' => rw [hf] at q; exact q
  | ct env' st' => rw [hf] at q; exact q
  | bad => rw [hf] at q; exact q
  | exc c p env' st' =>
    rw [hf] at q
    exact fun σ' H' m' dd fs v e r n dv hx lk => catch_ok e r n dv hx lk (g.lk.exm hex c) hs (fun z hz hfl hsub => g.lk.elf hex c z.1 hsub (lf z hz hfl)) (fun z hz i h3 z0 hz2 => ⟨(lv z hz i h3 z0 hz2).1, g.lk.xs.ekt hex c h3 (lv z hz i h3 z0 hz2).2, fun hs => g.lk.elf hex c h3 hs (lv z hz i h3 z0 hz2).2⟩) q
end
end LL

set_option Elab.async false
set_option linter.all false
set_option maxRecDepth 100000
set_option maxHeartbeats 4000000
set_option autoImplicit false
/-! LQ: loops; the look over statements; a text that the look has passed keeps what the evaluator says. -/
namespace LL
open PySem PySem.Spec PyProof.Rows L2
section
variable {nm : Nam} {T : Tab} {er : Er} {k : Nat} {C : Cal} {X : Cx} {Wx : WX}
variable {e e' : Expr} {re : Ev → Sto → R W} {pos : Pos}
theorem PostF.turn {K : PySem.W.Frag} {O : List Addr} {H : Hp} {m : List Addr} {D : Ends} {f : F} {g : Ev → Sto → F} {N : L2.St → Hp → Prop} (h : PostF K er Wx O (turnF f g) D H m)
    (hN : ∀ env st σ' H' m', Ext H m H' m' → Rep K H' O m' st → EnvOk K H' O m' env σ' → PostF K er Wx O (g env st) D H' m' → N σ' H') : PostF K er Wx O f { D with nx := N, ct := N, bk := D.nx } H m := by
  cases f with
  | nx env st => exact fun σ' H' m' e r n => hN env st σ' H' m' e r n (PostF.fwd h e r)
  | ct env st => exact fun σ' H' m' e r n => hN env st σ' H' m' e r n (PostF.fwd h e r)
  | bk env st => exact h
  | ret w st => exact h
  | exc c p env st => exact h
  | bad => exact h
theorem s_whl {b : List Stmt} {rb : Ev → Sto → F} (g : GdS nm T er k C X) (hc : PX X er Wx e re) (hb : PSs X b (tS X.K er Wx rb)) : PS X (.While e b [] pos) (tS X.K er Wx fun env st => whlR (fun env st => (re env st).tst) (fun env st => rb env st) mostTurns env st) := by
  refine PS.imp (ps_while g.po hc.pt hb) fun D σ H q => ?_
  obtain ⟨O, m, st, env, rp, en, q⟩ := q
  refine ⟨fun n σ1 H1 => ∃ m1 st1 env1, Rep X.K H1 O m1 st1 ∧ EnvOk X.K H1 O m1 env1 σ1 ∧ PostF X.K er Wx O (whlR (fun env st => (re env st).tst) (fun env st => rb env st) n env1 st1) D H1 m1, ⟨mostTurns, m, st, env, rp, en, q⟩, ?_⟩
  rintro n σ1 H1 ⟨m1, st1, env1, r1, en1, q1⟩
  cases n with
  | zero => exact q1.elim
  | succ n =>
    have q1 : PostF X.K er Wx O ((re env1 st1).tst.thn env1 fun k st => match k with
      | true => turnF (rb env1 st) (whlR (fun env st => (re env st).tst) (fun env st => rb env st) n)
      | false => .nx env1 st) D H1 m1 := by
      unfold whlR at q1
      exact q1
    refine ⟨O, m1, st1, env1, r1, en1, (seqS (rel := relB) r1 en1 q1).imp fun kk H2 ⟨m2, st2, w, e2, r2, en2, rl, q2⟩ => ?_⟩
    have rl : kk = w := rl
    subst rl
    cases kk with
    | true =>
      exact iteT ⟨fun σ' H' => ∃ m1 st1 env1, Rep X.K H' O m1 st1 ∧ EnvOk X.K H' O m1 env1 σ' ∧ PostF X.K er Wx O (whlR (fun env st => (re env st).tst) (fun env st => rb env st) n env1 st1) D H' m1,
        fun σ' H' h => ⟨n, Nat.lt_succ_self n, h⟩, tS_mk r2 en2 (PostF.turn q2 fun env' st' σ' H' m' e r n q => ⟨m', st', env', r, n, q⟩)⟩
    | false => exact iteF (PostF.nxt q2 r2 en2)
theorem s_for {p : Pa} {tg it : Expr} {b : List Stmt} {ri : Ev → Sto → R (List W ⊕ Nat)} {rb : Ev → Sto → F} (g : GdS nm T er k C X) (hi : PI X tg it (tI X.K er Wx ri)) (hp : paB true X.N X.env.scope p tg = true) (hs : noSet it = true) (hb : PSs X b (tS X.K er Wx rb)) :
    PS X (.For tg it b [] pos) (tS X.K er Wx fun env st => (ri env st).thn env fun its st => (match its with
    | .inl ws => forR (fun w env st => match patV env p w with
      | some env' => rb env' st
      | none => .bad) ws env st
    | .inr i => forRef (fun w env st => match patV env p w with
      | some env' => rb env' st
      | none => .bad) i ((lenO st (.ref i)).getD 0) 0 env st)) := by
  refine PS.imp (ps_for g.po g.calm hi (pa_pg (p := p) (fun _ => g.fnc) g.calm g.nd rfl rfl hp) hb (fold_of hs)) fun D σ H q => ?_
  obtain ⟨O, m, st, env, rp, en, q⟩ := q
  refine ⟨O, m, st, env, rp, en, seqSI rp en q (fun ws st1 H1 m1 J e1 r1 en1 wk q1 => ?_) (fun i st1 H1 m1 a e1 r1 en1 ha q1 => ?_)⟩
  · refine ⟨fun i mt σ2 H2 => mt = ws.length - i ∧ i ≤ ws.length ∧ ∃ m2 st2 env2, Ext H1 m1 H2 m2 ∧ Rep X.K H2 O m2 st2 ∧ EnvOk X.K H2 O m2 env2 σ2 ∧ PostF X.K er Wx O (forR (fun w env st => match patV env p w with
      | some env' => rb env' st
      | none => .bad) (ws.drop i) env2 st2) D H2 m2, ⟨ws.length, rfl, Nat.zero_le _, m1, st1, env, Ext.refl, r1, en1, q1⟩, ?_⟩
    rintro i mt σ2 H2 ⟨rfl, hi2, m2, st2, env2, e2, r2, en2, q2⟩
    have wki := wk H2 O m2 e2.later i
    by_cases hlt : i < ws.length
    · obtain ⟨hgo, hy⟩ := wki.1 hlt
      refine .inr ⟨hgo, fun σ3 H3 => ∃ m2 st2 env2, Ext H1 m1 H3 m2 ∧ Rep X.K H3 O m2 st2 ∧ EnvOk X.K H3 O m2 env2 σ3 ∧ PostF X.K er Wx O (forR (fun w env st => match patV env p w with
        | some env' => rb env' st
        | none => .bad) (ws.drop (i + 1)) env2 st2) D H3 m2, fun σ3 H3 h => ⟨ws.length - (i + 1), by omega, rfl, hlt, h⟩, fun x H' y => ?_⟩
      obtain ⟨rfl, w, hw, hx⟩ := hy x H' y
      have ed : ws.drop i = w :: ws.drop (i + 1) := by
        rw [List.drop_eq_getElem_cons hlt]
        rw [List.getElem?_eq_getElem hlt] at hw
        cases hw; rfl
      rw [ed, forR_eq] at q2
      cases hpat : patV env2 p w with
      | none => simp only [hpat] at q2; exact q2.elim
      | some env' =>
        simp only [hpat] at q2
        refine pat_ok hpat en2 hx fun σ4 e4 _ => tS_mk r2 e4 (PostF.turn q2 fun env5 st5 σ5 H5 m5 e5 r5 n5 q5 => ?_)
        exact ⟨m5, st5, env5, e2.trans e5 r2, r5, n5, q5⟩
    · have e : i = ws.length := by omega
      subst e
      refine .inl ⟨wki.2 (Nat.le_refl _), ?_⟩
      rw [List.drop_length] at q2
      exact PostF.nxt q2 r2 en2
  · dsimp only at q1
    generalize hn0 : (lenO st1 (W.ref i)).getD 0 = n0 at q1
    let gg : W → Ev → Sto → F := fun w env st => match patV env p w with
      | some env' => rb env' st
      | none => .bad
    have q1 : PostF X.K er Wx O (forRef gg i n0 0 env st1) D H1 m1 := q1
    refine ⟨fun j mt σ2 H2 => mt = n0 - j ∧ j ≤ n0 ∧ ∃ m2 st2 env2, Ext H1 m1 H2 m2 ∧ Rep X.K H2 O m2 st2 ∧ EnvOk X.K H2 O m2 env2 σ2 ∧ PostF X.K er Wx O (forRef gg i (n0 - j) j env2 st2) D H2 m2, ⟨n0, rfl, Nat.zero_le _, m1, st1, env, Ext.refl, r1, en1, q1⟩, ?_⟩
    rintro j mt σ2 H2 ⟨rfl, hj, m2, st2, env2, e2, r2, en2, q2⟩
    have hm2 : m2[i]? = some a := by
      obtain ⟨ms, e, _⟩ := e2.more
      rw [e, List.getElem?_append_left (List.getElem?_eq_some_iff.mp ha).1]; exact ha
    unfold forRef at q2
    cases hs2 : st2[i]? with
    | none => simp only [hs2] at q2; exact q2.elim
    | some o =>
      have ob := r2.ob i a o hm2 hs2
      cases o with
      | dct _ => exact ob.elim
      | ins _ _ _ => simp only [hs2] at q2; exact q2.elim
      | lst ws =>
        simp only [hs2] at q2
        obtain ⟨vs, hv, hw⟩ := ob
        by_cases hl : ws.length = j + (n0 - j)
        · rw [if_pos hl] at q2
          by_cases hlt : j < n0
          · have hjw : j < ws.length := by omega
            have hjv : j < vs.length := by rw [← hw.length]; exact hjw
            have en3 : n0 - j = (n0 - (j + 1)) + 1 := by omega
            rw [en3] at q2
            simp only [List.getElem?_eq_getElem hjw] at q2
            have q2 : PostF X.K er Wx O (turnF (gg ws[j] env2 st2) (forRef gg i (n0 - (j + 1)) (j + 1))) D H2 m2 := by
              refine cast (congrArg (fun z => PostF X.K er Wx O z D H2 m2) ?_) q2
              cases gg ws[j] env2 st2 <;> rfl
            refine .inr ⟨⟨vs, vs[j], SqL.of hv, List.getElem?_eq_getElem hjv⟩, fun σ3 H3 => ∃ m2 st2 env2, Ext H1 m1 H3 m2 ∧ Rep X.K H3 O m2 st2 ∧ EnvOk X.K H3 O m2 env2 σ3 ∧ PostF X.K er Wx O (forRef gg i (n0 - (j + 1)) (j + 1) env2 st2) D H3 m2,
              fun σ3 H3 h => ⟨n0 - (j + 1), by omega, rfl, hlt, h⟩, fun x H' y => ?_⟩
            obtain ⟨rfl, hy⟩ := y
            have hxv := hy vs (SqL.of hv)
            obtain ⟨v0, hv0, d0⟩ := hw.get (List.getElem?_eq_getElem hjw)
            rw [hxv] at hv0; cases hv0
            cases hpat : patV env2 p ws[j] with
            | none => simp only [gg, hpat] at q2; exact q2.elim
            | some env' =>
              simp only [gg, hpat] at q2
              refine pat_ok hpat en2 d0 fun σ4 e4 _ => tS_mk r2 e4 (PostF.turn q2 fun env5 st5 σ5 H5 m5 e5 r5 n5 q5 => ?_)
              exact ⟨m5, st5, env5, e2.trans e5 r2, r5, n5, q5⟩
          · have e : j = n0 := by omega
            subst e
            rw [Nat.sub_self] at q2
            refine .inl ⟨⟨vs, SqL.of hv, by rw [← hw.length]; omega⟩, PostF.nxt q2 r2 en2⟩
        · rw [if_neg hl] at q2; exact q2.elim
end
/-! ### the look -/
section
variable (nm : Nam) (an : Nat → Str) (N : List Str)
mutual
def chkS : CS → Scope → Stmt → Bool
  | .asg i c, sc, s => (match s with
    | .Assign [.Name x _] v _ => decide (N[i]? = some x) && (lookIs sc x .local || lookIs sc x .cell) && okAsg v && chkE nm N c sc v
    | _ => false)
  | .asgT is c, sc, s => (match s with
    | .Assign [.Tuple ts _ _] v _ => nmsB true N sc is ts && decide (swS sc ts v = some none) && chkE nm N c sc v
    | _ => false)
  | .par is cs, sc, s => (match is, s with
    | [i, j], .Assign [.Tuple [.Name x px, .Name y py] _ _] (.Tuple [a, b] k2 p2) _ => decide (N[i]? = some x) && decide (N[j]? = some y) && decide (i ≠ j) && lookIs sc x .local && lookIs sc y .local &&
        decide (swS sc [.Name x px, .Name y py] (.Tuple [a, b] k2 p2) = some (some [x, y])) && chkEs nm N cs sc [a, b]
    | [i, j, l], .Assign [.Tuple [.Name x px, .Name y py, .Name z pz] _ _] (.Tuple [a, b, c] k2 p2) _ => decide (N[i]? = some x) && decide (N[j]? = some y) && decide (N[l]? = some z) && decide (i ≠ j) && decide (i ≠ l) && decide (j ≠ l) && lookIs sc x .local && lookIs sc y .local && lookIs sc z .local &&
        decide (swS sc [.Name x px, .Name y py, .Name z pz] (.Tuple [a, b, c] k2 p2) = some (some [x, y, z])) && chkEs nm N cs sc [a, b, c]
    | _, _ => false)
  | .aug i op c, sc, s => (match s with
    | .AugAssign (.Name x _) o v _ => decide (o = op) && decide (N[i]? = some x) && (lookIs sc x .local || lookIs sc x .cell) && chkE nm N c sc v
    | _ => false)
  | .setIx o i v, sc, s => (match s with
    | .Assign [.Subscript a b _] c _ => noSlice b && noComp c && chkE nm N o sc a && chkE nm N i sc b && chkE nm N v sc c
    | _ => false)
  | .ex c, sc, s => (match s with
    | .Expr e _ => noComp e && chkE nm N c sc e
    | _ => false)
  | .ret c, sc, s => (match s with
    | .Return (some e) _ => chkE nm N c sc e
    | _ => false)
  | .retN, _, s => (match s with
    | .Return none _ => true
    | _ => false)
  | .ifs c a b, sc, s => (match s with
    | .If e x y _ => chkE nm N c sc e && chkSs a sc x && chkSs b sc y
    | _ => false)
  | .fors p it b, sc, s => (match s with
    | .For tg e x [] _ => paB true N sc p tg && noSet e && chkI nm N it sc e && chkSs b sc x
    | _ => false)
  | .whl c b, sc, s => (match s with
    | .While e x [] _ => chkE nm N c sc e && chkSs b sc x
    | _ => false)
  | .un, _, _ => true
  | .raise c a, sc, s => (match s with
    | .Raise (some (.Call (.Name x _) [e] [] _)) none _ => nm.ex && nm.mkr c && decide (x = nm.er c) && glB sc x && okName x && noStar e && chkE nm N a sc e
    | _ => false)
  | .tri b hs, sc, s => (match s with
    | .Try x (h :: hds) [] [] _ => nm.ex && chkHs nm an N sc hs (h :: hds) && chkSs b sc x
    | _ => false)
  | .pass, _, s => (match s with
    | .Pass _ => true
    | .Expr (.Constant (.str _) _ _) _ => true
    | _ => false)
  | .brk, _, s => (match s with
    | .Break _ => true
    | _ => false)
  | .cont, _, s => (match s with
    | .Continue _ => true
    | _ => false)
def chkSs : CSs → Scope → List Stmt → Bool
  | .nil, _, ss => (match ss with
    | [] => true
    | _ => false)
  | .cons c cs, sc, ss => (match ss with
    | s :: ss => chkS c sc s && chkSs cs sc ss
    | [] => false)
end
end
section
variable {nm : Nam} {T : Tab} {er : Er} {k : Nat} {C : Cal}
mutual
theorem psS : ∀ (c : CS) {X : Cx} {Wx : WX} (g : GdS nm T er k C X) (tk : Takes X Wx) (s : Stmt), chkS nm er.an X.N c X.env.scope s = true → PS X s (tS X.K er Wx (exec T C c))
  | .asg i c, X, Wx, g, tk, s, h => by
    unfold chkS at h
    split at h
    · exact s_asg g tk (of_decide_eq_true (and1 (and1 (and1 h)))) (and2 (and1 (and1 h))) (and2 h) (and2 (and1 h))
    · cases h
  | .asgT is c, X, Wx, g, tk, s, h => by
    unfold chkS at h
    split at h
    · exact s_asgT g (and1 (and1 h)) (pxE c g.toGd tk _ (and2 h)) (of_decide_eq_true (and2 (and1 h)))
    · cases h
  | .par is cs, X, Wx, g, tk, s, h => by
    unfold chkS at h
    split at h
    · exact s_par2 g (of_decide_eq_true (and1 (and1 (and1 (and1 (and1 (and1 h))))))) (of_decide_eq_true (and2 (and1 (and1 (and1 (and1 (and1 h))))))) (of_decide_eq_true (and2 (and1 (and1 (and1 (and1 h)))))) (is_of (and2 (and1 (and1 (and1 h))))) (is_of (and2 (and1 (and1 h)))) (paE cs g.toGd tk _ (and2 h)).1 (of_decide_eq_true (and2 (and1 h)))
    · have h10 := and1 h
      have h9 := and1 h10
      have h8 := and1 h9
      have h7 := and1 h8
      have h6 := and1 h7
      have h5 := and1 h6
      have h4 := and1 h5
      have h3 := and1 h4
      have h2 := and1 h3
      exact s_par3 g (of_decide_eq_true (and1 h2)) (of_decide_eq_true (and2 h2)) (of_decide_eq_true (and2 h3)) (of_decide_eq_true (and2 h4)) (of_decide_eq_true (and2 h5)) (of_decide_eq_true (and2 h6)) (is_of (and2 h7)) (is_of (and2 h8)) (is_of (and2 h9)) (paE cs g.toGd tk _ (and2 h)).1 (of_decide_eq_true (and2 h10))
    · cases h
  | .aug i op c, X, Wx, g, tk, s, h => by
    unfold chkS at h
    split at h
    · have e1 := of_decide_eq_true (and1 (and1 (and1 h)))
      subst e1
      exact s_aug g (of_decide_eq_true (and2 (and1 (and1 h)))) (and2 (and1 h)) (pxE c g.toGd tk _ (and2 h))
    · cases h
  | .setIx o i v, X, Wx, g, tk, s, h => by
    unfold chkS at h
    split at h
    · exact s_setIx (pxE o g.toGd tk _ (and2 (and1 (and1 h)))) (pxE i g.toGd tk _ (and2 (and1 h))) (pxE v g.toGd tk _ (and2 h)) (and1 (and1 (and1 (and1 h)))) (and2 (and1 (and1 (and1 h))))
    · cases h
  | .ex c, X, Wx, g, tk, s, h => by
    unfold chkS at h
    split at h
    · exact s_ex (pxE c g.toGd tk _ (and2 h)) (and1 h)
    · cases h
  | .ret c, X, Wx, g, tk, s, h => by
    unfold chkS at h
    split at h
    · exact s_ret (pxE c g.toGd tk _ h)
    · cases h
  | .retN, X, Wx, g, tk, s, h => by
    unfold chkS at h
    split at h
    · exact s_retN
    · cases h
  | .ifs c a b, X, Wx, g, tk, s, h => by
    unfold chkS at h
    split at h
    · exact s_if (pxE c g.toGd tk _ (and1 (and1 h))) (psSs a g tk _ (and2 (and1 h))) (psSs b g tk _ (and2 h))
    · cases h
  | .fors p it b, X, Wx, g, tk, s, h => by
    unfold chkS at h
    split at h
    · exact s_for g (piE it g.toGd tk _ (and2 (and1 h))) (and1 (and1 (and1 h))) (and2 (and1 (and1 h))) (psSs b g tk _ (and2 h))
    · cases h
  | .whl c b, X, Wx, g, tk, s, h => by
    unfold chkS at h
    split at h
    · exact s_whl g (pxE c g.toGd tk _ (and1 h)) (psSs b g tk _ (and2 h))
    · cases h
  | .raise c a, X, Wx, g, tk, s, h => by
    unfold chkS at h
    split at h
    · have h1 := and1 h; have h2 := and1 h1; have h3 := and1 h2; have h4 := and1 h3; have h5 := and1 h4
      exact s_raise g tk (and1 h5) (and2 h5) (of_decide_eq_true (and2 h4)) (and2 h3) (and2 h2) (pxE a g.toGd tk _ (and2 h)) (and2 h1)
    · cases h
  | .tri b hs, X, Wx, g, tk, s, h => by
    unfold chkS at h
    split at h
    · exact s_try g tk (and1 (and1 h)) (and2 (and1 h)) fun {X' W} e1 e2 g' tk' => psSs b g' tk' _ (by rw [e1, e2]; exact and2 h)
    · cases h
  | .un, X, Wx, g, tk, s, h => ⟨fun pins s' σ H D I q => by
    obtain ⟨O, m, st, env, rp, en, q⟩ := q
    unfold exec at q
    exact q.elim⟩
  | .pass, X, Wx, g, tk, s, h => by
    unfold chkS at h
    split at h
    · exact s_pass
    · refine PS.imp ps_doc fun D σ H q => ?_
      obtain ⟨O, m, st, env, rp, en, q⟩ := q
      exact PostF.nxt q rp en
    · cases h
  | .brk, X, Wx, g, tk, s, h => by
    unfold chkS at h
    split at h
    · exact s_brk
    · cases h
  | .cont, X, Wx, g, tk, s, h => by
    unfold chkS at h
    split at h
    · exact s_cont
    · cases h
theorem psSs : ∀ (c : CSs) {X : Cx} {Wx : WX} (g : GdS nm T er k C X) (tk : Takes X Wx) (s : List Stmt), chkSs nm er.an X.N c X.env.scope s = true → PSs X s (tS X.K er Wx (execs T C c))
  | .nil, X, Wx, g, tk, s, h => by
    unfold chkSs at h
    split at h
    · exact ss_nil
    · cases h
  | .cons c cs, X, Wx, g, tk, s, h => by
    unfold chkSs at h
    split at h
    · exact ss_cons (psS c g tk _ (and1 h)) (psSs cs g tk _ (and2 h))
    · cases h
end
end
end LL

set_option Elab.async false
set_option linter.all false
set_option maxRecDepth 100000
set_option maxHeartbeats 4000000
set_option autoImplicit false
/-! LR: defs by levels; global data; the law's end. -/
namespace LL
open PySem PySem.Spec PyProof.Rows L2
section
variable {nm : Nam} {T : Tab} {er : Er} {P : Program} {w : World} {K : PySem.W.Frag} {mg : Str → Option Value} {base : Heap}
/-- what stands of a def: its text keeps the core text -/
structure DefC (nm : Nam) (an : Nat → Str) (K : PySem.W.Frag) (mg : Str → Option Value) (f : Nat) (fd : FD) (fa : Addr) (fdat : FuncData) (ps : List Str) (x qual : Str) (params : Arguments) (body : List Stmt) (scope : Scope) (N : List Str) : Prop where
  at_ : AtF nm K mg f fa
  fun_ : FunD K x qual params body scope [] [] fa fdat
  sc : FnScope N ps scope
  binds : Binds K fdat ps []
  chk : chkSs nm an N fd.body scope body = true
  np : fd.np = ps.length
  nv : fd.nv = N.length
def Defs (nm : Nam) (an : Nat → Str) (T : Tab) (K : PySem.W.Frag) (mg : Str → Option Value) : Prop := ∀ f fd, T.fn f = some fd → ∃ fa fdat ps x qual params body scope N, DefC nm an K mg f fd fa fdat ps x qual params body scope N
/-- the rest of what the text names -/
structure Glo (nm : Nam) (er : Er) (T : Tab) (P : Program) (w : World) (K : PySem.W.Frag) (mg : Str → Option Value) (base : Heap) : Prop where
  con : ∀ j x, T.cn j = some x → ∃ u v, mg (nm.cn j) = some u ∧ RelV v u ∧ ∀ H B, DV K H B x v
  blt : ∀ b, nm.bi b = true → b ≠ .gcd → mg (biN b) = none
  gcd : nm.bi .gcd = true → mg "gcd" = some (.builtin "math.gcd")
  isi : mg "isinstance" = none
  rng : mg "range" = none
  tys : ∀ t, tyB t = true → mg (tyN t) = none
  egl : nm.ex = true → ∀ c, mg (nm.er c) = some (.ref (er.ca c))
  exm : nm.ex = true → ∀ c h, PySem.W.exmOne K (.ref (er.ca c)) (.ref (er.ca h)) = some (T.sub c h)
  emk : nm.ex = true → ∀ c, nm.mkr c = true → ExF P w K mg base (er.ca c) (nm.er c) (er.an c)
  elf : nm.ex = true → ∀ c h, T.sub c h = true → nm.lf h = true → XfC K (er.ca c) ∧ PySem.W.findIn K (.ref (er.ca c)) (er.an h) = some none ∧ er.an c = er.an h
  xs : LkX nm T er K mg
theorem start_env {O m : List Addr} {H : Hp} {ws : List W} {vs : List V} {N : List Str} (h : WVs K H O m ws vs) (hl : ws.length ≤ N.length) : EnvOk K H O m (startE N.length ws) (L2.start N vs) := by
  have e := h.length
  refine ⟨by unfold L2.start startE; simp [e], fun i w q => ?_⟩
  unfold startE at q
  unfold L2.start
  by_cases hi : i < ws.length
  · rw [List.getElem?_append_left (by simpa using hi), List.getElem?_map] at q
    cases hw : ws[i]? with
    | none => rw [hw] at q; cases q
    | some u =>
      rw [hw] at q; cases q
      obtain ⟨v, h1, h2⟩ := h.get hw
      exact ⟨v, by rw [List.getElem?_append_left (by rw [List.length_map, ← e]; exact hi), List.getElem?_map, h1]; rfl, h2⟩
  · rw [List.getElem?_append_right (by simpa using Nat.le_of_not_lt hi), List.getElem?_replicate] at q
    split at q <;> cases q
/-- a body's end -/
theorem out_ok {Wx : WX} {O m : List Addr} {H : Hp} {f : F} {Q : VK} {σ : L2.St} (hW : ∀ c d σ σ' H, Wx c d σ H → Wx c d σ' H) (h : PostG K er Wx O (relW K O) f.out σ H m Q) : PostF K er Wx O f { nx := fun _ H' => Q .non H', rt := Q } H m := by
  cases f with
  | nx env st => exact fun σ' H' m' e r n => h H' m' .non e r rfl
  | ret w st => exact h
  | exc c p env st => exact fun σ' H' m' dd fs v e r n d x l => hW _ _ _ _ _ (h H' m' dd fs v e r d x l)
  | bk env st => exact h.elim
  | ct env st => exact h.elim
  | bad => exact h.elim
theorem run_ok (hgr : T.grd = false) (G : Glo nm er T P w K mg base) (D : Defs nm er.an T K mg) : ∀ (n : Nat) (f : Nat) (fd : FD), T.fn f = some fd → ∀ {fa fdat ps x qual params body scope N}, DefC nm er.an K mg f fd fa fdat ps x qual params body scope N → FnOk P w K mg base (L2.CX P w) (2 * n + 2) fa fdat ps (spC K er (run T n) f)
  | 0, f, fd, hf, fa, fdat, ps, x, qual, params, body, scope, N, d => ⟨fun vs H Q E h => by
      obtain ⟨O, m, st, ws, rp, hv, q⟩ := h
      exact q.elim, fun A outer s H args us vs Q E _ _ _ _ h => by
      obtain ⟨O, m, st, ws, rp, hv, q⟩ := h
      exact q.elim⟩
  | n + 1, f, fd, hf, fa, fdat, ps, x, qual, params, body, scope, N, d => by
    have lk : Lk nm T er (2 * n) (run T n) P w K mg base := ⟨G.con, G.blt, G.gcd, G.isi, G.rng, G.tys, fun f fd hf => by
      obtain ⟨fa, fdat, ps, x, qual, params, body, scope, N, d⟩ := D f fd hf
      exact ⟨fa, fdat, ps, d.at_, d.fun_.kp, run_ok hgr G D n f fd hf d, d.binds⟩, G.egl, G.exm, G.emk, G.elf, G.xs⟩
    refine d.fun_.ok d.sc (fun vs H Q E h => ?_) (fun cdv A outer s H vs Q E hr h => ?_)
    · obtain ⟨O, m, st, ws, rp, hv, q⟩ := h
      unfold run at q
      rw [hf] at q
      dsimp only at q
      by_cases hl : ws.length = fd.np
      · rw [← hv.length, hl, d.np]
      · rw [if_neg hl] at q; exact q.elim
    · have gs : GdS nm T er (2 * n) (run T n) (cxOf (L2.CX P w) P w K mg base N qual scope fa cdv A outer s H E) :=
        { calm := rfl, nd := d.sc.nd, room := hr.mono (by omega), lk := lk, grd := (fun z => Bool.noConfusion (hgr.symm.trans z)), kind := by
            show (if scope.kind.isAnnotationScope then ScopeKind.function else scope.kind) = .function
            rw [d.sc.kind]; rfl
          po := passes_of rfl, stk := rfl, frm := rfl, fnc := fun _ => rfl }
      refine ⟨_, psSs fd.body gs (takes_of rfl rfl rfl rfl) body d.chk, ?_⟩
      obtain ⟨O, m, st, ws, rp, hv, q⟩ := h
      unfold run at q
      rw [hf] at q
      dsimp only at q
      by_cases hl : ws.length = fd.np
      · rw [if_pos hl] at q
        have hN : ws.length ≤ N.length := by
          rw [hl, d.np]
          have e := d.sc.pre
          rw [← e, List.length_take]
          exact Nat.min_le_right _ _
        rw [d.nv] at q
        exact ⟨O, m, st, _, rp, start_env hv hN, out_ok (fun c d σ σ' H h => h) q⟩
      · rw [if_neg hl] at q; exact q.elim
end
/-! ### global data -/
section
mutual
/-- the value u of the written part is the data x -/
def datB (K : PySem.W.Frag) : D → Value → Bool
  | .non, u => (match u with | .none => true | _ => false)
  | .bl b, u => (match u with | .bool c => b == c | _ => false)
  | .int i, u => (match u with | .int j _ => decide (i = j) | _ => false)
  | .str s, u => (match u with | .str t _ => decide (s = t) | _ => false)
  | .tup xs, u => (match u with
    | .ref a => (match K.lookup a with
      | some ⟨.type c, _, .seq its _, _⟩ => decide (c = "tuple") && decide (its.size ≤ sizeLine) && datsB K xs its.toList
      | _ => false)
    | _ => false)
  | .frz xs, u => (match u with
    | .ref a => (match K.lookup a with
      | some ⟨.type c, none, .seq its _, _⟩ => decide (c = "list") && decide (its.size ≤ sizeLine) && datsB K xs its.toList
      | _ => false)
    | _ => false)
  | _, _ => false
def datsB (K : PySem.W.Frag) : List D → List Value → Bool
  | [], us => us.isEmpty
  | x :: xs, us => (match us with
    | [] => false
    | u :: us => datB K x u && datsB K xs us)
end
mutual
theorem datB_ok {K : PySem.W.Frag} : ∀ (x : D) (u : Value), datB K x u = true → ∃ v, RelV v u ∧ ∀ H B, DV K H B x v
  | .non, u, h => by
    cases u <;> first | exact ⟨.non, rfl, fun _ _ => rfl⟩ | cases h
  | .bl b, u, h => by
    cases u <;> first | cases h; done | skip
    rename_i c
    have h : (b == c) = true := h
    exact ⟨.bl b, by rw [eq_of_beq h]; rfl, fun _ _ => rfl⟩
  | .int i, u, h => by
    cases u <;> first | cases h; done | skip
    rename_i j t
    have h : decide (i = j) = true := h
    exact ⟨.int i, ⟨t, by rw [of_decide_eq_true h]⟩, fun _ _ => rfl⟩
  | .str s, u, h => by
    cases u <;> first | cases h; done | skip
    rename_i j t
    have h : decide (s = j) = true := h
    exact ⟨.str s, ⟨t, by rw [of_decide_eq_true h]⟩, fun _ _ => rfl⟩
  | .tup xs, u, h => by
    unfold datB at h
    split at h
    · rename_i a
      split at h
      · rename_i c od its n sl e
        obtain ⟨vs, h1, h2⟩ := datsB_ok xs its.toList (and2 h)
        refine ⟨.ref a, rfl, fun H B => ?_⟩
        unfold DV
        exact ⟨a, vs, rfl, .inr ⟨_, its, n, e, congrArg Value.type (of_decide_eq_true (and1 (and1 h))), rfl, of_decide_eq_true (and2 (and1 h)), h1⟩, h2 H B⟩
      · cases h
    · cases h
  | .frz xs, u, h => by
    unfold datB at h
    split at h
    · rename_i a
      split at h
      · rename_i c its n sl e
        obtain ⟨vs, h1, h2⟩ := datsB_ok xs its.toList (and2 h)
        refine ⟨.ref a, rfl, fun H B => ?_⟩
        unfold DV
        exact ⟨a, vs, rfl, .inr ⟨_, its, n, e, congrArg Value.type (of_decide_eq_true (and1 (and1 h))), rfl, rfl, of_decide_eq_true (and2 (and1 h)), h1⟩, h2 H B⟩
      · cases h
    · cases h
  | .lst _, _, h => by cases h
  | .dct _, _, h => by cases h
  | .obj _ _ _, _, h => by cases h
  | .exc _ _ _, _, h => by cases h
theorem datsB_ok {K : PySem.W.Frag} : ∀ (xs : List D) (us : List Value), datsB K xs us = true → ∃ vs, Vals vs us ∧ ∀ H B, DVs K H B xs vs
  | [], us, h => by
    unfold datsB at h
    cases us with
    | nil => exact ⟨[], .nil, fun _ _ => by unfold DVs; rfl⟩
    | cons _ _ => cases h
  | x :: xs, us, h => by
    unfold datsB at h
    cases us with
    | nil => cases h
    | cons u us =>
      obtain ⟨v, h1, h2⟩ := datB_ok x u (and1 h)
      obtain ⟨vs, h3, h4⟩ := datsB_ok xs us (and2 h)
      exact ⟨v :: vs, .cons h1 h3, fun H B => by unfold DVs; exact ⟨v, vs, rfl, h2 H B, h4 H B⟩⟩
end
/-- the name y stands for the data x -/
def conB (K : PySem.W.Frag) (y : Str) (x : D) : Bool := match PySem.W.nsIn K mainGlobals y with
  | some (some u) => datB K x u
  | _ => false
theorem conB_ok {K : PySem.W.Frag} {h : Heap} {mg : Str → Option Value} (X : K.In h) (G : h.Ns mainGlobals mg) {y : Str} {x : D} (c : conB K y x = true) : ∃ u v, mg y = some u ∧ RelV v u ∧ ∀ H B, DV K H B x v := by
  unfold conB at c
  split at c
  · rename_i u e
    obtain ⟨v, h1, h2⟩ := datB_ok x u c
    exact ⟨u, v, PySem.W.mg_of X G e, h1, h2⟩
  · cases c
def gcdB (K : PySem.W.Frag) : Bool := decide (PySem.W.nsIn K mainGlobals "gcd" = some (some (.builtin "math.gcd")))
theorem gcdB_ok {K : PySem.W.Frag} {h : Heap} {mg : Str → Option Value} (X : K.In h) (G : h.Ns mainGlobals mg) (c : gcdB K = true) : mg "gcd" = some (.builtin "math.gcd") := PySem.W.mg_of X G (of_decide_eq_true c)
end
/-! ### the law -/
/-- the script -/
abbrev scr (ns : List Int) : W := .d (.frz (ns.map .int))
theorem law_sp {K : PySem.W.Frag} {er : Er} {C : Cal} {f : Nat} {n : Nat} (h : ∀ ns : List Int, ns.length ≤ n → ∃ st, C f [scr ns] [] = .ok (.d (.bl true)) st) :
    ∀ (H : Hp) (a : Addr) (ns : List Int), ns.length ≤ n → Only H → SqL K H a (ns.map V.int) → spC K er C f [.ref a] H (fun v _ => v = .bl true) fun _ _ _ => False := by
  intro H a ns hl ho hs
  obtain ⟨st, e⟩ := h ns hl
  have hd : ∀ l : List Int, DVs K H [] (l.map .int) (l.map V.int) := fun l => by
    induction l with
    | nil => unfold DVs; rfl
    | cons x l ih => rw [List.map_cons, List.map_cons]; unfold DVs; exact ⟨.int x, l.map V.int, rfl, rfl, ih⟩
  refine ⟨[], [], [], [scr ns], ⟨rfl, List.nodup_nil, (fun _ h => nomatch h), (fun _ h => nomatch h), fun i a o h => by simp at h⟩, ⟨.ref a, [], rfl, ?_, rfl⟩, ?_⟩
  · unfold WV DV
    refine ⟨a, ns.map V.int, rfl, ?_, hd ns⟩
    rcases hs with (hs | ⟨o, hs⟩) | hs
    · rcases ho a with z | ⟨o, xs, z⟩
      · rw [z] at hs; cases hs
      · rw [z] at hs; cases hs
    · exact .inl ⟨o, hs⟩
    · exact .inr hs
  · rw [e]
    exact fun H' m' b _ _ hb => hb
theorem walk_ofX {l : PySem.W.OpenLaw} {n k : Nat} {q : Program} {loose : List Str} {XP : (Str → Option Value) → Heap → Prop} {YP : World → Heap → Prop} {d : DefRec} {x : Str}
    (hn : l.most = some n) (hn2 : n ≤ sizeLine) (hdf : d.params.defaults = []) (hr : Room k callerA)
    (F : ∀ (w : World) (mg : Str → Option Value) (fa : Addr) (h : Heap), YP w h → h.Ns mainGlobals mg → mg d.name = some (.ref fa) →
      ∃ (K : PySem.W.Frag) (fd : FuncData) (sp : Sp), K.In h ∧ (∀ (s : Shared) (u : Value), BindsTo s fd ⟨[u], []⟩ [(x, u)]) ∧
        (∀ (H : Hp) (a : Addr) (ns : List Int), ns.length ≤ n → Only H → SqL K H a (ns.map V.int) → sp [.ref a] H (fun v _ => v = .bl true) fun _ _ _ => False) ∧
        ∀ base : Heap, K.In base → base.Ns mainGlobals mg → FnOk l.prog w K mg base (L2.CX l.prog w) k fa fd [x] sp) :
    PySem.W.WalkO q loose XP YP l.row.toRowW d [] (fun f vs => PySem.call f vs) := by
  refine Att.attach_call hn hdf fun w s₀ s₁ mg mb fa o pm cd doc a vs ns G Y ho hd hcd hmg hobj hints hlen hg => ?_
  obtain ⟨K, fd, sp, KX, hb, hsp, hF⟩ := F w mg fa _ Y G.T.g hmg
  exact law_call KX G.T.g G.T.b G.T.builtins G.T.nolimit hg hobj hints (Nat.le_trans hlen hn2) hr hF hb (fun H hO hS => hsp H a ns hlen hO hS) fun H e s' h => by
    obtain ⟨_, _, _, _, _, _, _, _, _, _, _, _, z⟩ := h
    exact z
end LL

set_option Elab.async false
set_option linter.all false
set_option maxRecDepth 100000
set_option maxHeartbeats 4000000
set_option autoImplicit false
/-! LRx: own error classes, read off the written part. -/
namespace LL
open PySem PySem.Spec PyProof.Rows L2
def clsBody (s : Stmt) : List Stmt := match s with
  | .ClassDef _ _ _ b _ _ _ _ _ _ _ => b
  | _ => []
def oexB0 (K : PySem.W.Frag) (C : Addr) : Bool := match K.lookup C with
  | some ⟨.type t, dd, .cls cd, sl⟩ => (match cd.mro, sl.toList with
    | .ref C' :: bm, [_, _, _, _, some (.builtin n), _] => decide (t = "type") && decide (C' = C) && decide (n = "ValueError.__new__") && !cd.hasDel && cd.hasDict && PySem.HandSPX.refsVE bm
    | _, _ => false)
  | _ => false
def oexB (K : PySem.W.Frag) (C : Addr) : Bool := oexB0 K C && decide (PySem.W.findIn K (.ref C) "__setattr__" = some (some (.builtin "object.__setattr__"))) && decide (PySem.W.subIn K (.ref C) (.type "BaseException") = some true) &&
  decide (PySem.W.typeIn K (.ref C) = some (.type "type")) && PySem.W.keepIn K (.ref C)
theorem oexB_ok {K : PySem.W.Frag} {C : Addr} (h : oexB K C = true) : OexC K C := by
  unfold oexB at h
  have h1 := and1 h; have h2 := and1 h1; have h3 := and1 h2; have h4 := and1 h3
  refine ⟨?_, of_decide_eq_true (and2 h3), of_decide_eq_true (and2 h2), of_decide_eq_true (and2 h1), and2 h⟩
  unfold oexB0 at h4
  split at h4
  · rename_i t dd cd sl ho
    split at h4
    · rename_i C' bm k0 k1 k2 k3 n k5 hm hs
      have a1 := and1 h4; have a2 := and1 a1; have a3 := and1 a2; have a4 := and1 a3
      have e1 := of_decide_eq_true (and1 a4)
      have e2 := of_decide_eq_true (and2 a4)
      have e3 := of_decide_eq_true (and2 a3)
      have e4 := and2 a2
      have e5 := and2 a1
      subst e1 e2 e3
      obtain ⟨nm, bs, mro, ns, qn, hd, sn, sub, ab, col, del⟩ := cd
      dsimp only at hm e4 e5
      have e4 : del = false := by simpa using e4
      subst hm e4 e5
      have hsl : sl = #[k0, k1, k2, k3, some (.builtin "ValueError.__new__"), k5] := by
        obtain ⟨l⟩ := sl
        simp only at hs
        rw [hs]
      subst hsl
      exact ⟨nm, qn, ns, bs, bm, sn, sub, ab, col, dd, k0, k1, k2, k3, k5, ho, and2 h4⟩
    · cases h4
  · cases h4
def xcB (K : PySem.W.Frag) (x f : Str) : Bool := xfB K (He.ga K x) && decide (PySem.W.findIn K (.ref (He.ga K x)) f = some none)
def mkB (K : PySem.W.Frag) (x f : Str) : Bool := oexB K (He.ga K x) && xcB K x f && decide (PySem.W.findIn K (.ref (He.ga K x)) "__init__" = some (some (.ref (He.ma K (He.ga K x) "__init__")))) && decide (PySem.W.typeIn K (.ref (He.ma K (He.ga K x) "__init__")) = some (.type "function"))
theorem mkB_ok {P : Program} {w : World} {K : PySem.W.Frag} {mg : Str → Option Value} {base : Heap} {x f y z : Str} {fd : FuncData} (h : mkB K x f = true) (gl : mg x = some (.ref (He.ga K x))) (F : FnOk P w K mg base (L2.CX P w) 1 (He.ma K (He.ga K x) "__init__") fd [y, z] (spI K f)) (b : Binds K fd [y, z] []) :
    ExF P w K mg base (He.ga K x) x f := by
  unfold mkB at h
  have h1 := and1 h; have h2 := and1 h1
  have hx := and2 h2
  unfold xcB at hx
  exact ⟨gl, oexB_ok (and1 h2), of_decide_eq_true (and2 hx), xfB_ok (and1 hx), _, fd, y, z, of_decide_eq_true (and2 h1), of_decide_eq_true (and2 h), F, b⟩
/-- the error classes of a text: x stands under y -/
def exmB (K : PySem.W.Frag) (l : List Str) : Bool := l.all fun x => l.all fun y => decide (PySem.W.exmOne K (.ref (He.ga K x)) (.ref (He.ga K y)) = some (subN x y))
theorem exmB_ok {K : PySem.W.Frag} {l : List Str} (h : exmB K l = true) {x y : Str} (hx : x ∈ l) (hy : y ∈ l) : PySem.W.exmOne K (.ref (He.ga K x)) (.ref (He.ga K y)) = some (subN x y) := of_decide_eq_true (List.all_eq_true.mp (List.all_eq_true.mp h x hx) y hy)
def lfsB (K : PySem.W.Frag) (l : List Str) : Bool := l.all fun x => xcB K x (fldN x) && !decide (x = ("BookError" : Str))
theorem lfsB_ok {K : PySem.W.Frag} {l : List Str} (h : lfsB K l = true) {x y : Str} (hy : y ∈ l) (hs : subN x y = true) : XfC K (He.ga K x) ∧ PySem.W.findIn K (.ref (He.ga K x)) (fldN y) = some none ∧ fldN x = fldN y := by
  have h1 := List.all_eq_true.mp h y hy
  have h2 := and1 h1
  unfold xcB at h2
  have hb : decide (y = ("BookError" : Str)) = false := by simpa using and2 h1
  unfold subN at hs
  rw [hb, Bool.or_false] at hs
  have e := of_decide_eq_true hs
  subst e
  exact ⟨xfB_ok (and1 h2), of_decide_eq_true (and2 h2), rfl⟩
/-! ### own errors as values -/
def excB (K : PySem.W.Frag) (C : Addr) : Bool := decide (PySem.W.findIn K (.ref C) "__getattribute__" = some (some (.builtin "BaseException.__getattribute__"))) && decide (PySem.W.findIn K (.ref C) "__getattr__" = some none) &&
  decide (PySem.W.subIn K (.ref C) (.type "BaseException") = some true) && PySem.W.hasDictIn K C && decide (PySem.W.findIn K (.ref C) "__class__" = some (some (.builtin "object.__class__"))) &&
  decide (PySem.W.specialIn K (.builtin "object.__class__") "__get__" = some (some (.builtin "getset_descriptor.__get__"))) && decide (PySem.W.takesIn K (.builtin "object.__class__") = some true) && decide (PySem.W.mroIn K C (.type "object") = some true)
theorem excB_ok {K : PySem.W.Frag} {C : Addr} (h : excB K C = true) : ExcC K C := by
  unfold excB at h
  have h1 := and1 h; have h2 := and1 h1; have h3 := and1 h2; have h4 := and1 h3; have h5 := and1 h4; have h6 := and1 h5
  exact ⟨of_decide_eq_true (and1 h6), of_decide_eq_true (and2 h6), of_decide_eq_true (and2 h5), and2 h4, of_decide_eq_true (and2 h3), of_decide_eq_true (and2 h2), of_decide_eq_true (and2 h1), of_decide_eq_true (and2 h)⟩
/-- isinstance among the error classes of the list -/
def kitB (K : PySem.W.Frag) (l : List Str) : Bool := l.all fun x => excB K (He.ga K x) && decide (PySem.W.kitOne K (.ref (He.ga K x)) (.type "ValueError") = some true) && l.all fun y => decide (PySem.W.kitOne K (.ref (He.ga K x)) (.ref (He.ga K y)) = some (subN x y))
theorem kitB_ok {K : PySem.W.Frag} {l : List Str} (h : kitB K l = true) {x : Str} (hx : x ∈ l) : ExcC K (He.ga K x) ∧ PySem.W.kitOne K (.ref (He.ga K x)) (.type "ValueError") = some true ∧ ∀ y ∈ l, PySem.W.kitOne K (.ref (He.ga K x)) (.ref (He.ga K y)) = some (subN x y) := by
  have h1 := List.all_eq_true.mp h x hx
  exact ⟨excB_ok (and1 (and1 h1)), of_decide_eq_true (and2 (and1 h1)), fun y hy => of_decide_eq_true (List.all_eq_true.mp (and2 h1) y hy)⟩
/-- an own error of the class c is one of y -/
theorem contains_mem {l : List Str} {x : Str} (h : l.contains x = true) : x ∈ l := by simpa using h
/-- a class with an own __init__ -/
def nwB (K : PySem.W.Frag) (x : Str) : Bool := PySem.W.makesIn K (He.ga K x) && decide (PySem.W.findIn K (.ref (He.ga K x)) "__init__" = some (some (.ref (He.ma K (He.ga K x) "__init__")))) && PySem.W.isFn K (.ref (He.ma K (He.ga K x) "__init__")) && PySem.W.keepIn K (.ref (He.ga K x))
theorem nwB_ok {K : PySem.W.Frag} {x : Str} (h : nwB K x = true) : Mk K (He.ga K x) (He.ma K (He.ga K x) "__init__") := by
  unfold nwB at h
  exact ⟨and1 (and1 (and1 h)), of_decide_eq_true (and2 (and1 (and1 h))), and2 (and1 h), and2 h⟩
/-- what the table says of own errors -/
theorem lkx_of {nm : Nam} {T : Tab} {er : Er} {K : PySem.W.Frag} {mg : Str → Option Value} {l lf : List Str} (h1 : ∀ c, er.an c = nm.an c) (h2 : ∀ c, er.ca c = He.ga K (nm.er c)) (h3 : ∀ c f, T.xa c f = xaL lf c f) (h4 : ∀ c y, T.isa c y = isaL l c y) (h5 : lfsB K lf = true) (h6 : kitB K l = true)
    (h7 : ∀ y ∈ l, mg y = some (.ref (He.ga K y))) (h8 : mg "ValueError" = none) (h9 : ∀ y, nm.ky y = (decide (y = ("ValueError" : Str)) || l.contains y)) (h10 : ∀ c, nm.er c ∈ l) (h11 : ∀ c h, T.sub c h = subN (nm.er c) (nm.er h)) (h12 : ("ValueError" : Str) ∉ l) : LkX nm T er K mg := by
  refine ⟨h1, h2, fun c f h => ?_, fun y h => ?_, fun c y b h => ?_, fun _ c h _ => ?_⟩
  · rw [h3] at h
    unfold xaL at h
    have e := of_decide_eq_true (and2 h)
    subst e
    obtain ⟨a, b, _⟩ := lfsB_ok h5 (contains_mem (and1 h)) (x := c) (y := c) (by unfold subN; simp)
    exact ⟨a, b⟩
  · rw [h9] at h
    rcases Bool.or_eq_true_iff.mp h with h | h
    · exact .inr ⟨of_decide_eq_true h, by rw [of_decide_eq_true h]; exact h8⟩
    · exact .inl (h7 y (contains_mem h))
  · rw [h4] at h
    unfold isaL at h
    by_cases hc : l.contains c = true
    · rw [if_pos hc] at h
      obtain ⟨E, kv, kl⟩ := kitB_ok h6 (contains_mem hc)
      by_cases hv : y = ("ValueError" : Str)
      · rw [if_pos hv] at h
        cases h
        exact ⟨E, .inr ⟨hv, by rw [hv]; exact h8, kv⟩⟩
      · rw [if_neg hv] at h
        by_cases hy : l.contains y = true
        · rw [if_pos hy] at h
          cases h
          exact ⟨E, .inl ⟨h7 y (contains_mem hy), kl y (contains_mem hy)⟩⟩
        · rw [if_neg hy] at h
          cases h
    · rw [if_neg hc] at h
      cases h
  · obtain ⟨E, kv, kl⟩ := kitB_ok h6 (h10 c)
    rw [h2, h2, h11]
    exact ⟨E, kl _ (h10 h)⟩
end LL

set_option Elab.async false
set_option linter.all false
set_option maxRecDepth 100000
set_option maxHeartbeats 4000000
set_option autoImplicit false
/-! LHk: a look at the head that takes only what the law's names reach. -/
namespace LL
open PySem PySem.Spec PyProof.Rows L2
/-- n steps from these addresses -/
def stepY (g : Addr → Option Obj) : Nat → List Addr → List Addr
  | 0, as => as
  | n + 1, as => He.growD g (stepY g n as)
/-- the module's dict, and what the names' objects reach in n steps -/
def asY (g : Addr → Option Obj) (n : Nat) (nm : List Str) : List Addr := mainGlobals :: stepY g n (nm.map (He.ga (He.frG g [mainGlobals])))
def obsY (n : Nat) (nm : List Str) (fa : List He.Fa) (fn : List He.DefD) (ex : PySem.W.Frag → Bool) (g : Addr → Option Obj) : He.AlX :=
  (fun K : PySem.W.Frag => (He.obsT fa fn [] K, ex K)) (He.frT g (asY g n nm))
theorem saysY {n : Nat} {nm : List Str} {fa : List He.Fa} {fn : List He.DefD} {ex : PySem.W.Frag → Bool} {w : World} {h : Heap} (e : obsY n nm fa fn ex h.get? = He.valX fn [] w) : He.SaysX fa fn [] [] ex w h (He.frT h.get? (asY h.get? n nm)) :=
  ⟨congrArg Prod.fst e, congrArg Prod.snd e, (fun _ z => nomatch z), (fun _ z => nomatch z), fun _ z => nomatch z⟩
def hookY (n : Nat) (nm : List Str) (fa : List He.Fa) (fn : List He.DefD) (ex : PySem.W.Frag → Bool) : PySem.W.Hook where
  α := He.AlX
  obs := fun s => obsY n nm fa fn ex s.heap.get?
  val := fun w => He.valX fn [] w
  says := fun w h => ∃ K : PySem.W.Frag, K.In h ∧ He.SaysX fa fn [] [] ex w h K
  of := fun _ _ e => ⟨He.frT _ _, He.frT_in, saysY e⟩
  keeps := fun _ _ _ z k => by
    obtain ⟨K, hK, c⟩ := z
    exact ⟨K, PySem.W.Frag.In.keeps hK k, c.t, c.more, c.hd, c.out, fun p hp => k _ _ (c.empty p hp)⟩
theorem obsY_eq {n : Nat} {nm : List Str} {fa : List He.Fa} {fn : List He.DefD} {ex : PySem.W.Frag → Bool} {g : Addr → Option Obj} {s : Shared} (h : ∀ a, g a = s.heap.get? a) : obsY n nm fa fn ex g = (hookY n nm fa fn ex).obs s := by
  obtain rfl : g = s.heap.get? := funext h
  rfl
end LL

set_option Elab.async false
set_option linter.all false
set_option maxRecDepth 100000
set_option maxHeartbeats 0
set_option autoImplicit false
namespace LL
open PySem PySem.Spec PyProof.Rows L2
/-! core texts, printed by gen.py -/
/-- is_name -/
def b3 : CSs := (.cons (.ret (.conj (.isi .str (.var 0)) (.conj (.chain .LtE .LtE (.lit (.int 1)) (.bi .len false (.cons (.var 0) (.nil))) (.gc 0)) (.bi .all false (.cons (.comp false (.cmp .In (.var 1) (.gc 1)) (.v 1) (.e (.var 0)) [1]) (.nil)))))) (.nil))
def fd3 : FD := ⟨1, 2, b3⟩
/-- is_person -/
def b72 : CSs := (.cons (.ret (.conj (.call 3 .pure (.cons (.var 0) (.nil))) (.cmp .NotEq (.var 0) (.gc 23)))) (.nil))
def fd72 : FD := ⟨1, 1, b72⟩
/-- Book.__init__ -/
def b73 : CSs := (.cons (.ifs (.bnot (.call 72 .pure (.cons (.var 1) (.nil)))) (.cons (.raise 2 (.var 1)) (.nil)) (.nil)) (.cons .un (.cons .un (.cons .un (.cons .un (.cons .un (.cons .un (.cons .un (.cons .un (.cons .un (.cons .un (.nil))))))))))))
def fd73 : FD := ⟨6, 6, b73⟩
/-- _law_box -/
def b24 : CSs := (.cons (.asg 2 (.bin .Add false (.bin .Mult false (.lit (.int 7919)) (.var 1)) (.lit (.int 101)))) (.cons (.ifs (.cmp .Lt (.var 1) (.bi .len false (.cons (.var 0) (.nil)))) (.cons (.asg 2 (.bi .abs false (.cons (.ix (.var 0) (.var 1)) (.nil)))) (.nil)) (.cons (.ifs (.cmp .Gt (.bi .len false (.cons (.var 0) (.nil))) (.lit (.int 0))) (.cons (.asg 2 (.bin .Add false (.bin .Mult false (.bin .Mod false (.bi .int false (.cons (.bi .abs false (.cons (.ix (.var 0) (.bin .Mod false (.bi .int false (.cons (.var 1) (.nil))) (.bi .len false (.cons (.var 0) (.nil))))) (.nil))) (.nil))) (.lit (.int 1000000007))) (.lit (.int 31))) (.bin .Mult false (.lit (.int 7919)) (.var 1)))) (.nil)) (.nil)) (.nil))) (.cons (.asg 3 (.ix (.lst false (.cons (.lit (.int 0)) (.cons (.var 2) (.nil)))) (.bi .int false (.cons (.cmp .GtE (.var 2) (.bin .Pow false (.lit (.int 10)) (.lit (.int 18)))) (.nil))))) (.cons (.ret (.lst true (.cons (.var 3) (.cons (.bin .Add false (.bin .Mod false (.bi .int false (.cons (.bin .Add false (.bin .Mult false (.bin .Mod false (.bi .int false (.cons (.var 2) (.nil))) (.lit (.int 1000000007))) (.lit (.int 48271))) (.bin .Mult false (.lit (.int 613)) (.var 1))) (.nil))) (.lit (.int 2147483647))) (.lit (.int 1))) (.nil))))) (.nil)))))
def fd24 : FD := ⟨2, 4, b24⟩
/-- _law_take -/
def b16 : CSs := (.cons (.ifs (.cmp .Gt (.ix (.var 0) (.lit (.int 0))) (.lit (.int 0))) (.cons (.asg 2 (.bin .Mod false (.bi .int false (.cons (.ix (.var 0) (.lit (.int 0))) (.nil))) (.var 1))) (.cons (.setIx (.var 0) (.lit (.int 0)) (.bin .FloorDiv false (.ix (.var 0) (.lit (.int 0))) (.var 1))) (.cons (.ret (.var 2)) (.nil)))) (.nil)) (.cons (.setIx (.var 0) (.lit (.int 1)) (.bin .Mod false (.bi .int false (.cons (.bin .Add false (.bin .Mult false (.ix (.var 0) (.lit (.int 1))) (.lit (.int 39373))) (.lit (.int 69621))) (.nil))) (.lit (.int 2147483647)))) (.cons (.ret (.bin .Mod false (.bi .int false (.cons (.bin .FloorDiv false (.ix (.var 0) (.lit (.int 1))) (.lit (.int 8191))) (.nil))) (.var 1))) (.nil))))
def fd16 : FD := ⟨2, 3, b16⟩
/-- _law_pick -/
def b18 : CSs := (.cons (.ret (.ix (.var 1) (.call 16 .sh (.cons (.var 0) (.cons (.bi .len false (.cons (.var 1) (.nil))) (.nil)))))) (.nil))
def fd18 : FD := ⟨2, 2, b18⟩
/-- _law_ones -/
def b75 : CSs := (.cons (.asg 1 (.lst false (.cons (.mke 9 "InvalidNumber" "value" (.var 0)) (.cons (.mke 2 "InvalidName" "value" (.var 0)) (.cons (.mke 0 "InvalidValue" "value" (.var 0)) (.cons (.mke 10 "InvalidTree" "value" (.var 0)) (.cons (.mke 1 "InvalidText" "value" (.var 0)) (.cons (.mke 11 "InvalidSheets" "value" (.var 0)) (.cons (.mke 12 "InvalidViews" "value" (.var 0)) (.nil)))))))))) (.cons (.ret (.bin .Add false (.var 1) (.lst false (.cons (.mke 3 "InvalidRights" "value" (.var 0)) (.cons (.mke 4 "InvalidCell" "value" (.var 0)) (.cons (.mke 5 "InvalidDeed" "value" (.var 0)) (.cons (.mke 6 "InvalidStamp" "value" (.var 0)) (.cons (.mke 7 "InvalidMark" "value" (.var 0)) (.cons (.mke 8 "InvalidBytes" "value" (.var 0)) (.nil)))))))))) (.nil)))
def fd75 : FD := ⟨1, 2, b75⟩
/-- _law_kinds -/
def b74 : CSs := (.cons (.asg 1 (.lst false (.cons (.isx "InvalidNumber" (.var 0)) (.cons (.isx "InvalidName" (.var 0)) (.cons (.isx "InvalidValue" (.var 0)) (.cons (.isx "InvalidTree" (.var 0)) (.nil))))))) (.cons (.asg 1 (.bin .Add false (.var 1) (.lst false (.cons (.isx "InvalidText" (.var 0)) (.cons (.isx "InvalidSheets" (.var 0)) (.cons (.isx "InvalidViews" (.var 0)) (.cons (.isx "InvalidRights" (.var 0)) (.nil)))))))) (.cons (.asg 1 (.bin .Add false (.var 1) (.lst false (.cons (.isx "InvalidCell" (.var 0)) (.cons (.isx "InvalidDeed" (.var 0)) (.cons (.isx "InvalidStamp" (.var 0)) (.cons (.isx "InvalidMark" (.var 0)) (.nil)))))))) (.cons (.asg 1 (.bin .Add false (.var 1) (.lst false (.cons (.isx "InvalidBytes" (.var 0)) (.cons (.isx "Undefined" (.var 0)) (.nil)))))) (.cons (.ret (.bin .Add false (.var 1) (.lst false (.cons (.isx "BookError" (.var 0)) (.cons (.isx "ValueError" (.var 0)) (.nil)))))) (.nil))))))
def fd74 : FD := ⟨1, 2, b74⟩
/-- law -/
def b76 : CSs := (.cons (.asg 1 (.call 24 .new (.cons (.var 0) (.cons (.lit (.int 0)) (.nil))))) (.cons (.asg 2 (.lst false (.cons (.bin .Sub false (.call 16 .sh (.cons (.var 1) (.cons (.bin .Pow false (.lit (.int 10)) (.lit (.int 6))) (.nil)))) (.lit (.int 500000))) (.cons (.bin .Add false (.lit (.str "text ")) (.bi .str false (.cons (.call 16 .sh (.cons (.var 1) (.cons (.lit (.int 99)) (.nil)))) (.nil)))) (.cons (.tup (.cons (.lit (.int 1)) (.cons (.call 16 .sh (.cons (.var 1) (.cons (.lit (.int 9)) (.nil)))) (.nil)))) (.nil)))))) (.cons (.asg 2 (.bin .Add false (.var 2) (.lst false (.cons (.lst false (.cons (.call 16 .sh (.cons (.var 1) (.cons (.lit (.int 9)) (.nil)))) (.nil))) (.cons (.lit .none) (.cons (.lit (.bool true)) (.cons (.tup (.nil)) (.nil)))))))) (.cons (.asg 3 (.call 18 .sh (.cons (.var 1) (.cons (.var 2) (.nil))))) (.cons (.asg 4 (.call 75 .pure (.cons (.var 3) (.nil)))) (.cons (.fors (.v 5) (.e (.var 4)) (.cons (.ifs (.cmp .NotEq (.att "value" (.var 5)) (.var 3)) (.cons (.ret (.lit (.bool false))) (.nil)) (.nil)) (.nil))) (.cons (.asg 6 (.call 18 .sh (.cons (.var 1) (.cons (.var 2) (.nil))))) (.cons (.asg 7 (.call 75 .pure (.cons (.var 6) (.nil)))) (.cons (.ifs (.cmp .NotEq (.compIf false (.var 9) (.v 9) (.rng1 (.bi .len false (.cons (.var 4) (.nil)))) (.disj (.cmp .NotEq (.att "value" (.ix (.var 4) (.var 9))) (.var 3)) (.cmp .NotEq (.att "value" (.ix (.var 7) (.var 9))) (.var 6))) [9]) (.lst false (.nil))) (.cons (.ret (.lit (.bool false))) (.nil)) (.nil)) (.cons (.asg 8 (.call 18 .sh (.cons (.var 1) (.cons (.lst false (.cons (.lit (.str "veiled")) (.cons (.lit (.str "void")) (.nil)))) (.nil))))) (.cons (.par [11, 12] (.cons (.mke 14 "Undefined" "what" (.var 8)) (.cons (.mke 14 "Undefined" "what" (.lit (.str "veiled"))) (.nil)))) (.cons (.ifs (.disj (.cmp .NotEq (.att "what" (.var 11)) (.var 8)) (.cmp .NotEq (.att "what" (.var 12)) (.lit (.str "veiled")))) (.cons (.ret (.lit (.bool false))) (.nil)) (.nil)) (.cons (.asg 4 (.bin .Add false (.var 4) (.lst false (.cons (.var 11) (.nil))))) (.cons (.fors (.v 9) (.rng1 (.bi .len false (.cons (.var 4) (.nil)))) (.cons (.ifs (.cmp .NotEq (.call 74 .pure (.cons (.ix (.var 4) (.var 9)) (.nil))) (.comp false (.disj (.cmp .Eq (.var 13) (.var 9)) (.cmp .GtE (.var 13) (.bi .len false (.cons (.var 4) (.nil))))) (.v 13) (.rng1 (.bin .Add false (.bi .len false (.cons (.var 4) (.nil))) (.lit (.int 2)))) [13])) (.cons (.ret (.lit (.bool false))) (.nil)) (.nil)) (.nil))) (.cons (.tri (.cons (.ex (.new 73 "Book" (.cons (.lit (.str "all")) (.cons (.tup (.nil)) (.cons (.tup (.nil)) (.cons (.tup (.nil)) (.cons (.tup (.nil)) (.nil)))))))) (.cons (.ret (.lit (.bool false))) (.nil))) [(13, .isv 10 2 "all")]) (.nil))))))))))))))))
def fd76 : FD := ⟨1, 14, b76⟩
def fnT (i : Nat) : Option FD := match i with
  | 3 => some fd3
  | 72 => some fd72
  | 73 => some fd73
  | 24 => some fd24
  | 16 => some fd16
  | 18 => some fd18
  | 75 => some fd75
  | 74 => some fd74
  | 76 => some fd76
  | _ => none
def cnT (i : Nat) : Option D := match i with
  | 1 => some (.str "abcdefghijklmnopqrstuvwxyz")
  | 0 => some (.int 8)
  | 23 => some (.str "all")
  | _ => none
/-- the error classes -/
def erN (i : Nat) : Str := match i with
  | 9 => "InvalidNumber"
  | 2 => "InvalidName"
  | 0 => "InvalidValue"
  | 10 => "InvalidTree"
  | 1 => "InvalidText"
  | 11 => "InvalidSheets"
  | 12 => "InvalidViews"
  | 3 => "InvalidRights"
  | 4 => "InvalidCell"
  | 5 => "InvalidDeed"
  | 6 => "InvalidStamp"
  | 7 => "InvalidMark"
  | 8 => "InvalidBytes"
  | 14 => "Undefined"
  | _ => "BookError"
def exl : List Str := ["BookError", "InvalidNumber", "InvalidName", "InvalidValue", "InvalidTree", "InvalidText", "InvalidSheets", "InvalidViews", "InvalidRights", "InvalidCell", "InvalidDeed", "InvalidStamp", "InvalidMark", "InvalidBytes", "Undefined"]
def lfl : List Str := ["InvalidNumber", "InvalidName", "InvalidValue", "InvalidTree", "InvalidText", "InvalidSheets", "InvalidViews", "InvalidRights", "InvalidCell", "InvalidDeed", "InvalidStamp", "InvalidMark", "InvalidBytes", "Undefined"]
def tabT : Tab := ⟨fnT, cnT, fun c h => subN (erN c) (erN h), false, xaL lfl, isaL exl⟩
end LL

set_option Elab.async false
set_option linter.all false
set_option maxRecDepth 100000
set_option maxHeartbeats 0
set_option autoImplicit false
namespace LL
open PySem PySem.Spec PyProof.Rows L2
def fnN (i : Nat) : Str := match i with
  | 3 => "is_name"
  | 72 => "is_person"
  | 73 => "Book.__init__"
  | 24 => "_law_box"
  | 16 => "_law_take"
  | 18 => "_law_pick"
  | 75 => "_law_ones"
  | 74 => "_law_kinds"
  | 76 => "law"
  | _ => ""
def cnN (i : Nat) : Str := match i with
  | 1 => "LETTERS"
  | 0 => "MOST_LETTERS"
  | 23 => "ALL"
  | _ => ""
def biB : Bi → Bool
  | .abs => true
  | .all => true
  | .int => true
  | .len => true
  | .str => true
  | _ => false
def mkT (i : Nat) : Bool := match i with
  | 9 => true
  | 2 => true
  | 0 => true
  | 10 => true
  | 1 => true
  | 11 => true
  | 12 => true
  | 3 => true
  | 4 => true
  | 5 => true
  | 6 => true
  | 7 => true
  | 8 => true
  | 14 => true
  | _ => false
def lfT (i : Nat) : Bool := match i with
  | 9 => true
  | 2 => true
  | 0 => true
  | 10 => true
  | 1 => true
  | 11 => true
  | 12 => true
  | 3 => true
  | 4 => true
  | 5 => true
  | 6 => true
  | 7 => true
  | 8 => true
  | 14 => true
  | _ => false
def anT (i : Nat) : Str := fldN (erN i)
def clT (i : Nat) : Option Str := match i with
  | 73 => some "Book"
  | _ => none
def nmT : Nam := ⟨fnN, cnN, erN, biB, true, mkT, lfT, anT, clT, fun y => decide (y = ("ValueError" : Str)) || exl.contains y⟩
def erT (K : PySem.W.Frag) : Er := ⟨fun i => He.ga K (erN i), anT⟩
theorem exl_all {p : Str → Prop} (h : ∀ i, p (erN i)) : ∀ y ∈ exl, p y := fun y hy => by
  unfold exl at hy
  rcases List.mem_cons.mp hy with rfl | hy
  · exact h 13
  rcases List.mem_cons.mp hy with rfl | hy
  · exact h 9
  rcases List.mem_cons.mp hy with rfl | hy
  · exact h 2
  rcases List.mem_cons.mp hy with rfl | hy
  · exact h 0
  rcases List.mem_cons.mp hy with rfl | hy
  · exact h 10
  rcases List.mem_cons.mp hy with rfl | hy
  · exact h 1
  rcases List.mem_cons.mp hy with rfl | hy
  · exact h 11
  rcases List.mem_cons.mp hy with rfl | hy
  · exact h 12
  rcases List.mem_cons.mp hy with rfl | hy
  · exact h 3
  rcases List.mem_cons.mp hy with rfl | hy
  · exact h 4
  rcases List.mem_cons.mp hy with rfl | hy
  · exact h 5
  rcases List.mem_cons.mp hy with rfl | hy
  · exact h 6
  rcases List.mem_cons.mp hy with rfl | hy
  · exact h 7
  rcases List.mem_cons.mp hy with rfl | hy
  · exact h 8
  rcases List.mem_cons.mp hy with rfl | hy
  · exact h 14
  cases hy
theorem exl_mem (i : Nat) : erN i ∈ exl := by
  unfold erN
  split
  · exact List.mem_of_getElem? (i := 1) rfl
  · exact List.mem_of_getElem? (i := 2) rfl
  · exact List.mem_of_getElem? (i := 3) rfl
  · exact List.mem_of_getElem? (i := 4) rfl
  · exact List.mem_of_getElem? (i := 5) rfl
  · exact List.mem_of_getElem? (i := 6) rfl
  · exact List.mem_of_getElem? (i := 7) rfl
  · exact List.mem_of_getElem? (i := 8) rfl
  · exact List.mem_of_getElem? (i := 9) rfl
  · exact List.mem_of_getElem? (i := 10) rfl
  · exact List.mem_of_getElem? (i := 11) rfl
  · exact List.mem_of_getElem? (i := 12) rfl
  · exact List.mem_of_getElem? (i := 13) rfl
  · exact List.mem_of_getElem? (i := 14) rfl
  · exact List.mem_of_getElem? (i := 0) rfl
theorem lfl_mem (i : Nat) (h : lfT i = true) : erN i ∈ lfl := by
  unfold lfT at h
  split at h
  · exact List.mem_of_getElem? (i := 0) rfl
  · exact List.mem_of_getElem? (i := 1) rfl
  · exact List.mem_of_getElem? (i := 2) rfl
  · exact List.mem_of_getElem? (i := 3) rfl
  · exact List.mem_of_getElem? (i := 4) rfl
  · exact List.mem_of_getElem? (i := 5) rfl
  · exact List.mem_of_getElem? (i := 6) rfl
  · exact List.mem_of_getElem? (i := 7) rfl
  · exact List.mem_of_getElem? (i := 8) rfl
  · exact List.mem_of_getElem? (i := 9) rfl
  · exact List.mem_of_getElem? (i := 10) rfl
  · exact List.mem_of_getElem? (i := 11) rfl
  · exact List.mem_of_getElem? (i := 12) rfl
  · exact List.mem_of_getElem? (i := 13) rfl
  · cases h
def top (i : Nat) : Stmt := PySem.Challenge.pw_ledgerloom_k01_errors.main.body.getD i (.Pass ⟨0, 0, 0, 0⟩)
def n3 : List Str := ["value", "sign"]
def p3 : List Str := ["value"]
def d3 : He.DefD := ⟨("is_name", none), "is_name", "is_name", defArgs (top 29), defBody (top 29), defScope (top 29), [], []⟩
theorem sc3 : C8.scC n3 p3 (defScope (top 29)) = true := by decide +kernel
theorem ck3 : chkSs nmT anT n3 b3 (defScope (top 29)) (defBody (top 29)) = true := by decide +kernel
def n72 : List Str := ["value"]
def p72 : List Str := ["value"]
def d72 : He.DefD := ⟨("is_person", none), "is_person", "is_person", defArgs (top 30), defBody (top 30), defScope (top 30), [], []⟩
theorem sc72 : C8.scC n72 p72 (defScope (top 30)) = true := by decide +kernel
theorem ck72 : chkSs nmT anT n72 b72 (defScope (top 30)) (defBody (top 30)) = true := by decide +kernel
def n73 : List Str := ["self", "owner", "sheets", "views", "summaries", "rights"]
def p73 : List Str := ["self", "owner", "sheets", "views", "summaries", "rights"]
def md73 : Stmt := (clsBody (top 84)).getD 0 (.Pass ⟨0, 0, 0, 0⟩)
def d73 : He.DefD := ⟨("Book", some "__init__"), "__init__", "Book.__init__", defArgs md73, defBody md73, defScope md73, [], []⟩
theorem sc73 : C8.scC n73 p73 (defScope md73) = true := by decide +kernel
theorem ck73 : chkSs nmT anT n73 b73 (defScope md73) (defBody md73) = true := by decide +kernel
def n24 : List Str := ["script", "k", "cell", "great"]
def p24 : List Str := ["script", "k"]
def d24 : He.DefD := ⟨("_law_box", none), "_law_box", "_law_box", defArgs (top 86), defBody (top 86), defScope (top 86), [], []⟩
theorem sc24 : C8.scC n24 p24 (defScope (top 86)) = true := by decide +kernel
theorem ck24 : chkSs nmT anT n24 b24 (defScope (top 86)) (defBody (top 86)) = true := by decide +kernel
def n16 : List Str := ["box", "many", "got"]
def p16 : List Str := ["box", "many"]
def d16 : He.DefD := ⟨("_law_take", none), "_law_take", "_law_take", defArgs (top 87), defBody (top 87), defScope (top 87), [], []⟩
theorem sc16 : C8.scC n16 p16 (defScope (top 87)) = true := by decide +kernel
theorem ck16 : chkSs nmT anT n16 b16 (defScope (top 87)) (defBody (top 87)) = true := by decide +kernel
def n18 : List Str := ["box", "some"]
def p18 : List Str := ["box", "some"]
def d18 : He.DefD := ⟨("_law_pick", none), "_law_pick", "_law_pick", defArgs (top 88), defBody (top 88), defScope (top 88), [], []⟩
theorem sc18 : C8.scC n18 p18 (defScope (top 88)) = true := by decide +kernel
theorem ck18 : chkSs nmT anT n18 b18 (defScope (top 88)) (defBody (top 88)) = true := by decide +kernel
def n75 : List Str := ["v", "found"]
def p75 : List Str := ["v"]
def d75 : He.DefD := ⟨("_law_ones", none), "_law_ones", "_law_ones", defArgs (top 89), defBody (top 89), defScope (top 89), [], []⟩
theorem sc75 : C8.scC n75 p75 (defScope (top 89)) = true := by decide +kernel
theorem ck75 : chkSs nmT anT n75 b75 (defScope (top 89)) (defBody (top 89)) = true := by decide +kernel
def n74 : List Str := ["e", "found"]
def p74 : List Str := ["e"]
def d74 : He.DefD := ⟨("_law_kinds", none), "_law_kinds", "_law_kinds", defArgs (top 90), defBody (top 90), defScope (top 90), [], []⟩
theorem sc74 : C8.scC n74 p74 (defScope (top 90)) = true := by decide +kernel
theorem ck74 : chkSs nmT anT n74 b74 (defScope (top 90)) (defBody (top 90)) = true := by decide +kernel
def n76 : List Str := ["script", "box", "some", "v", "errors", "one", "other", "later", "word", "k", "e", "what", "second", "j"]
def p76 : List Str := ["script"]
def d76 : He.DefD := ⟨("law", none), "law", "law", defArgs (top 91), defBody (top 91), defScope (top 91), [], []⟩
theorem sc76 : C8.scC n76 p76 (defScope (top 91)) = true := by decide +kernel
theorem ck76 : chkSs nmT anT n76 b76 (defScope (top 91)) (defBody (top 91)) = true := by decide +kernel
def mt9 : Stmt := (clsBody (top 4)).getD 0 (.Pass ⟨0, 0, 0, 0⟩)
def di9 : He.DefD := ⟨("InvalidNumber", some "__init__"), "__init__", "InvalidNumber.__init__", defArgs mt9, defBody mt9, defScope mt9, [], []⟩
def ni9 : List Str := ["self", "value"]
theorem si9 : C8.scC ni9 ni9 (defScope mt9) = true := by decide +kernel
theorem ci9 : initB ni9 ni9 (fldN "InvalidNumber") (defScope mt9) (defBody mt9) = true := by decide +kernel
def mt2 : Stmt := (clsBody (top 5)).getD 0 (.Pass ⟨0, 0, 0, 0⟩)
def di2 : He.DefD := ⟨("InvalidName", some "__init__"), "__init__", "InvalidName.__init__", defArgs mt2, defBody mt2, defScope mt2, [], []⟩
def ni2 : List Str := ["self", "value"]
theorem si2 : C8.scC ni2 ni2 (defScope mt2) = true := by decide +kernel
theorem ci2 : initB ni2 ni2 (fldN "InvalidName") (defScope mt2) (defBody mt2) = true := by decide +kernel
def mt0 : Stmt := (clsBody (top 6)).getD 0 (.Pass ⟨0, 0, 0, 0⟩)
def di0 : He.DefD := ⟨("InvalidValue", some "__init__"), "__init__", "InvalidValue.__init__", defArgs mt0, defBody mt0, defScope mt0, [], []⟩
def ni0 : List Str := ["self", "value"]
theorem si0 : C8.scC ni0 ni0 (defScope mt0) = true := by decide +kernel
theorem ci0 : initB ni0 ni0 (fldN "InvalidValue") (defScope mt0) (defBody mt0) = true := by decide +kernel
def mt10 : Stmt := (clsBody (top 7)).getD 0 (.Pass ⟨0, 0, 0, 0⟩)
def di10 : He.DefD := ⟨("InvalidTree", some "__init__"), "__init__", "InvalidTree.__init__", defArgs mt10, defBody mt10, defScope mt10, [], []⟩
def ni10 : List Str := ["self", "value"]
theorem si10 : C8.scC ni10 ni10 (defScope mt10) = true := by decide +kernel
theorem ci10 : initB ni10 ni10 (fldN "InvalidTree") (defScope mt10) (defBody mt10) = true := by decide +kernel
def mt1 : Stmt := (clsBody (top 8)).getD 0 (.Pass ⟨0, 0, 0, 0⟩)
def di1 : He.DefD := ⟨("InvalidText", some "__init__"), "__init__", "InvalidText.__init__", defArgs mt1, defBody mt1, defScope mt1, [], []⟩
def ni1 : List Str := ["self", "value"]
theorem si1 : C8.scC ni1 ni1 (defScope mt1) = true := by decide +kernel
theorem ci1 : initB ni1 ni1 (fldN "InvalidText") (defScope mt1) (defBody mt1) = true := by decide +kernel
def mt11 : Stmt := (clsBody (top 9)).getD 0 (.Pass ⟨0, 0, 0, 0⟩)
def di11 : He.DefD := ⟨("InvalidSheets", some "__init__"), "__init__", "InvalidSheets.__init__", defArgs mt11, defBody mt11, defScope mt11, [], []⟩
def ni11 : List Str := ["self", "value"]
theorem si11 : C8.scC ni11 ni11 (defScope mt11) = true := by decide +kernel
theorem ci11 : initB ni11 ni11 (fldN "InvalidSheets") (defScope mt11) (defBody mt11) = true := by decide +kernel
def mt12 : Stmt := (clsBody (top 10)).getD 0 (.Pass ⟨0, 0, 0, 0⟩)
def di12 : He.DefD := ⟨("InvalidViews", some "__init__"), "__init__", "InvalidViews.__init__", defArgs mt12, defBody mt12, defScope mt12, [], []⟩
def ni12 : List Str := ["self", "value"]
theorem si12 : C8.scC ni12 ni12 (defScope mt12) = true := by decide +kernel
theorem ci12 : initB ni12 ni12 (fldN "InvalidViews") (defScope mt12) (defBody mt12) = true := by decide +kernel
def mt3 : Stmt := (clsBody (top 11)).getD 0 (.Pass ⟨0, 0, 0, 0⟩)
def di3 : He.DefD := ⟨("InvalidRights", some "__init__"), "__init__", "InvalidRights.__init__", defArgs mt3, defBody mt3, defScope mt3, [], []⟩
def ni3 : List Str := ["self", "value"]
theorem si3 : C8.scC ni3 ni3 (defScope mt3) = true := by decide +kernel
theorem ci3 : initB ni3 ni3 (fldN "InvalidRights") (defScope mt3) (defBody mt3) = true := by decide +kernel
def mt4 : Stmt := (clsBody (top 12)).getD 0 (.Pass ⟨0, 0, 0, 0⟩)
def di4 : He.DefD := ⟨("InvalidCell", some "__init__"), "__init__", "InvalidCell.__init__", defArgs mt4, defBody mt4, defScope mt4, [], []⟩
def ni4 : List Str := ["self", "value"]
theorem si4 : C8.scC ni4 ni4 (defScope mt4) = true := by decide +kernel
theorem ci4 : initB ni4 ni4 (fldN "InvalidCell") (defScope mt4) (defBody mt4) = true := by decide +kernel
def mt5 : Stmt := (clsBody (top 13)).getD 0 (.Pass ⟨0, 0, 0, 0⟩)
def di5 : He.DefD := ⟨("InvalidDeed", some "__init__"), "__init__", "InvalidDeed.__init__", defArgs mt5, defBody mt5, defScope mt5, [], []⟩
def ni5 : List Str := ["self", "value"]
theorem si5 : C8.scC ni5 ni5 (defScope mt5) = true := by decide +kernel
theorem ci5 : initB ni5 ni5 (fldN "InvalidDeed") (defScope mt5) (defBody mt5) = true := by decide +kernel
def mt6 : Stmt := (clsBody (top 14)).getD 0 (.Pass ⟨0, 0, 0, 0⟩)
def di6 : He.DefD := ⟨("InvalidStamp", some "__init__"), "__init__", "InvalidStamp.__init__", defArgs mt6, defBody mt6, defScope mt6, [], []⟩
def ni6 : List Str := ["self", "value"]
theorem si6 : C8.scC ni6 ni6 (defScope mt6) = true := by decide +kernel
theorem ci6 : initB ni6 ni6 (fldN "InvalidStamp") (defScope mt6) (defBody mt6) = true := by decide +kernel
def mt7 : Stmt := (clsBody (top 15)).getD 0 (.Pass ⟨0, 0, 0, 0⟩)
def di7 : He.DefD := ⟨("InvalidMark", some "__init__"), "__init__", "InvalidMark.__init__", defArgs mt7, defBody mt7, defScope mt7, [], []⟩
def ni7 : List Str := ["self", "value"]
theorem si7 : C8.scC ni7 ni7 (defScope mt7) = true := by decide +kernel
theorem ci7 : initB ni7 ni7 (fldN "InvalidMark") (defScope mt7) (defBody mt7) = true := by decide +kernel
def mt8 : Stmt := (clsBody (top 16)).getD 0 (.Pass ⟨0, 0, 0, 0⟩)
def di8 : He.DefD := ⟨("InvalidBytes", some "__init__"), "__init__", "InvalidBytes.__init__", defArgs mt8, defBody mt8, defScope mt8, [], []⟩
def ni8 : List Str := ["self", "value"]
theorem si8 : C8.scC ni8 ni8 (defScope mt8) = true := by decide +kernel
theorem ci8 : initB ni8 ni8 (fldN "InvalidBytes") (defScope mt8) (defBody mt8) = true := by decide +kernel
def mt14 : Stmt := (clsBody (top 17)).getD 0 (.Pass ⟨0, 0, 0, 0⟩)
def di14 : He.DefD := ⟨("Undefined", some "__init__"), "__init__", "Undefined.__init__", defArgs mt14, defBody mt14, defScope mt14, [], []⟩
def ni14 : List Str := ["self", "what"]
theorem si14 : C8.scC ni14 ni14 (defScope mt14) = true := by decide +kernel
theorem ci14 : initB ni14 ni14 (fldN "Undefined") (defScope mt14) (defBody mt14) = true := by decide +kernel
def fnL : List He.DefD := [d3, d72, d73, d24, d16, d18, d75, d74, d76, di9, di2, di0, di10, di1, di11, di12, di3, di4, di5, di6, di7, di8, di14]
def faL : List He.Fa := [.glo "is_name", .glo "is_person", .glo "Book", .glo "_law_box", .glo "_law_take", .glo "_law_pick", .glo "_law_ones", .glo "_law_kinds", .glo "law", .free "isinstance", .free "range", .free "len", .free "abs", .free "int", .free "str", .free "all", .free "bool", .free "tuple", .free "list", .free "ValueError", .glo "BookError", .glo "InvalidNumber", .glo "InvalidName", .glo "InvalidValue", .glo "InvalidTree", .glo "InvalidText", .glo "InvalidSheets", .glo "InvalidViews", .glo "InvalidRights", .glo "InvalidCell", .glo "InvalidDeed", .glo "InvalidStamp", .glo "InvalidMark", .glo "InvalidBytes", .glo "Undefined"]
def exs (K : PySem.W.Frag) : List Bool := [conB K "LETTERS" (.str "abcdefghijklmnopqrstuvwxyz"), conB K "MOST_LETTERS" (.int 8), conB K "ALL" (.str "all"), exmB K exl, lfsB K lfl, kitB K exl, mkB K "InvalidNumber" (fldN "InvalidNumber"), mkB K "InvalidName" (fldN "InvalidName"), mkB K "InvalidValue" (fldN "InvalidValue"), mkB K "InvalidTree" (fldN "InvalidTree"), mkB K "InvalidText" (fldN "InvalidText"), mkB K "InvalidSheets" (fldN "InvalidSheets"), mkB K "InvalidViews" (fldN "InvalidViews"), mkB K "InvalidRights" (fldN "InvalidRights"), mkB K "InvalidCell" (fldN "InvalidCell"), mkB K "InvalidDeed" (fldN "InvalidDeed"), mkB K "InvalidStamp" (fldN "InvalidStamp"), mkB K "InvalidMark" (fldN "InvalidMark"), mkB K "InvalidBytes" (fldN "InvalidBytes"), mkB K "Undefined" (fldN "Undefined"), nwB K "Book"]
def exL (K : PySem.W.Frag) : Bool := (exs K).all id
theorem all_at {l : List Bool} {k : Nat} {b : Bool} (h : l.all id = true) (e : l[k]? = some b) : b = true := List.all_eq_true.mp h b (List.mem_of_getElem? e)
abbrev R0 : PySem.W.OpenRow := PySem.W.OpenLaw.row PySem.Challenge.rw_ledgerloom_k01_errors
def loose0 : List Str := ["_wall", "BookError", "InvalidNumber", "InvalidName", "InvalidValue", "InvalidTree", "InvalidText", "InvalidSheets", "InvalidViews", "InvalidRights", "InvalidCell", "InvalidDeed", "InvalidStamp", "InvalidMark", "InvalidBytes", "Undefined"]
def loose1 : List Str := ["LETTERS", "MOST_LETTERS", "MOST_CLOCK", "MOST_LIFE", "ALL", "is_integer", "is_integer_in", "is_tuple_of", "is_tuple_in", "is_word_of", "is_name", "is_person", "is_mark", "ascending", "NUMBER", "TEXT"]
def loose2 : List Str := ["TRUTH", "ERROR", "ERRORS", "SIGNS", "MOST_AMOUNT", "MOST_TEXT", "QUOTE", "BACK", "PERCENT", "is_plain_text", "is_number_value", "is_value", "MOST_TREES", "MOST_DEEP", "MOST_MEMBERS", "WORDS"]
def loose3 : List Str := ["VALUE_KINDS", "is_cell_tree", "is_area", "is_leaf", "members_of", "size_of", "is_formula", "is_condition", "is_content", "Places", "MOST_ROWS", "MOST_COLUMNS", "MOST_SHEETS", "MOST_PLACES", "MOST_ORDERS", "MOST_VIEWS"]
def loose4 : List Str := ["MOST_RULES", "RIGHT_WORDS", "are_marks", "are_cells", "is_sheet", "are_by_name", "are_sheets", "is_order", "is_view", "is_summary", "are_views", "are_summaries", "is_rule", "are_rights", "Book", "_law_box"]
def loose5 : List Str := ["_law_take", "_law_pick", "_law_ones", "_law_kinds"]
abbrev loose : List Str := loose0 ++ loose1 ++ loose2 ++ loose3 ++ loose4 ++ loose5
def nmp0 : List Str := ["is_name", "is_person", "Book", "_law_box", "_law_take", "_law_pick", "_law_ones", "_law_kinds", "law", "LETTERS", "MOST_LETTERS", "ALL", "BookError", "InvalidNumber", "InvalidName", "InvalidValue"]
def nmp1 : List Str := ["InvalidTree", "InvalidText", "InvalidSheets", "InvalidViews", "InvalidRights", "InvalidCell", "InvalidDeed", "InvalidStamp", "InvalidMark", "InvalidBytes", "Undefined"]
def nmL : List Str := nmp0 ++ nmp1
abbrev hk : PySem.W.Hook := hookY 4 nmL faL fnL exL
def ob (s : PySem.W.SharedT) : He.AlX := obsY 4 nmL faL fnL exL (HandSHeadRun.getT s)
theorem ob_eq (s : PySem.W.SharedT) : ob s = hk.obs s.abs := obsY_eq (HandSHeadRun.getT_eq s)
theorem run_top (w : World) : HandSHeadRun.RunEqI R0 (PySem.W.view R0.prog [0, 91]) hk ob 12000 loose w := by
  unfold HandSHeadRun.RunEqI
  kernel_rfl
theorem facts {w : World} {K : PySem.W.Frag} {h : Heap} {mg : Str → Option Value} (X : K.In h) (G : h.Ns mainGlobals mg) (c0 : He.SaysX faL fnL [] [] exL w h K) (P : Program) (base : Heap) : Glo nmT (erT K) tabT P w K mg base ∧ Defs nmT anT tabT K mg := by
  have c := c0.t.d
  have hm := c0.more
  have egl0 : ∀ i, mg (erN i) = some (.ref (He.ga K (erN i))) := by
    intro i
    unfold erN
    split
    · exact He.glo_ok X G (c.fact 21 (f := .glo "InvalidNumber") rfl)
    · exact He.glo_ok X G (c.fact 22 (f := .glo "InvalidName") rfl)
    · exact He.glo_ok X G (c.fact 23 (f := .glo "InvalidValue") rfl)
    · exact He.glo_ok X G (c.fact 24 (f := .glo "InvalidTree") rfl)
    · exact He.glo_ok X G (c.fact 25 (f := .glo "InvalidText") rfl)
    · exact He.glo_ok X G (c.fact 26 (f := .glo "InvalidSheets") rfl)
    · exact He.glo_ok X G (c.fact 27 (f := .glo "InvalidViews") rfl)
    · exact He.glo_ok X G (c.fact 28 (f := .glo "InvalidRights") rfl)
    · exact He.glo_ok X G (c.fact 29 (f := .glo "InvalidCell") rfl)
    · exact He.glo_ok X G (c.fact 30 (f := .glo "InvalidDeed") rfl)
    · exact He.glo_ok X G (c.fact 31 (f := .glo "InvalidStamp") rfl)
    · exact He.glo_ok X G (c.fact 32 (f := .glo "InvalidMark") rfl)
    · exact He.glo_ok X G (c.fact 33 (f := .glo "InvalidBytes") rfl)
    · exact He.glo_ok X G (c.fact 34 (f := .glo "Undefined") rfl)
    · exact He.glo_ok X G (c.fact 20 (f := .glo "BookError") rfl)
  refine ⟨⟨fun j x hj => ?_, fun b hb hg => ?_, fun hb => ?_, He.free_ok X G (c.fact 9 (f := .free "isinstance") rfl), He.free_ok X G (c.fact 10 (f := .free "range") rfl), fun t ht => ?_, fun hx => ?_, fun hx => ?_, fun hx => ?_, fun hx => ?_, ?_⟩, fun f fd hf => ?_⟩
  · unfold tabT cnT at hj
    dsimp only at hj
    split at hj
    · cases hj; exact conB_ok X G (all_at (k := 0) hm rfl)
    · cases hj; exact conB_ok X G (all_at (k := 1) hm rfl)
    · cases hj; exact conB_ok X G (all_at (k := 2) hm rfl)
    · cases hj
  · cases b with
    | len => exact He.free_ok X G (c.fact 11 (f := .free "len") rfl)
    | abs => exact He.free_ok X G (c.fact 12 (f := .free "abs") rfl)
    | int => exact He.free_ok X G (c.fact 13 (f := .free "int") rfl)
    | str => exact He.free_ok X G (c.fact 14 (f := .free "str") rfl)
    | ord => cases hb
    | tup => cases hb
    | lst => cases hb
    | gcd => exact absurd rfl hg
    | all => exact He.free_ok X G (c.fact 15 (f := .free "all") rfl)
    | any => cases hb
    | sum => cases hb
    | max2 => cases hb
    | min2 => cases hb
    | sorted => cases hb
  · cases hb
  · cases t with
    | int => exact He.free_ok X G (c.fact 13 (f := .free "int") rfl)
    | bool => exact He.free_ok X G (c.fact 16 (f := .free "bool") rfl)
    | str => exact He.free_ok X G (c.fact 14 (f := .free "str") rfl)
    | tup => exact He.free_ok X G (c.fact 17 (f := .free "tuple") rfl)
    | lst => exact He.free_ok X G (c.fact 18 (f := .free "list") rfl)
    | own _ => cases ht
  · exact egl0
  · exact fun i j => exmB_ok (all_at (k := 3) hm rfl) (exl_mem i) (exl_mem j)
  · intro i hi
    have hi : mkT i = true := hi
    unfold mkT at hi
    split at hi
    · obtain ⟨fdat, F⟩ := c.def_ 9 (d := di9) rfl
      exact mkB_ok (x := "InvalidNumber") (all_at (k := 6) hm rfl) (He.glo_ok X G (c.fact 21 (f := .glo "InvalidNumber") rfl)) (init_ok F (C8.fnScope_by si9) ci9) (FunD.bindsN F fun _ _ _ _ _ _ us hl => match us, hl with | [_, _], _ => rfl)
    · obtain ⟨fdat, F⟩ := c.def_ 10 (d := di2) rfl
      exact mkB_ok (x := "InvalidName") (all_at (k := 7) hm rfl) (He.glo_ok X G (c.fact 22 (f := .glo "InvalidName") rfl)) (init_ok F (C8.fnScope_by si2) ci2) (FunD.bindsN F fun _ _ _ _ _ _ us hl => match us, hl with | [_, _], _ => rfl)
    · obtain ⟨fdat, F⟩ := c.def_ 11 (d := di0) rfl
      exact mkB_ok (x := "InvalidValue") (all_at (k := 8) hm rfl) (He.glo_ok X G (c.fact 23 (f := .glo "InvalidValue") rfl)) (init_ok F (C8.fnScope_by si0) ci0) (FunD.bindsN F fun _ _ _ _ _ _ us hl => match us, hl with | [_, _], _ => rfl)
    · obtain ⟨fdat, F⟩ := c.def_ 12 (d := di10) rfl
      exact mkB_ok (x := "InvalidTree") (all_at (k := 9) hm rfl) (He.glo_ok X G (c.fact 24 (f := .glo "InvalidTree") rfl)) (init_ok F (C8.fnScope_by si10) ci10) (FunD.bindsN F fun _ _ _ _ _ _ us hl => match us, hl with | [_, _], _ => rfl)
    · obtain ⟨fdat, F⟩ := c.def_ 13 (d := di1) rfl
      exact mkB_ok (x := "InvalidText") (all_at (k := 10) hm rfl) (He.glo_ok X G (c.fact 25 (f := .glo "InvalidText") rfl)) (init_ok F (C8.fnScope_by si1) ci1) (FunD.bindsN F fun _ _ _ _ _ _ us hl => match us, hl with | [_, _], _ => rfl)
    · obtain ⟨fdat, F⟩ := c.def_ 14 (d := di11) rfl
      exact mkB_ok (x := "InvalidSheets") (all_at (k := 11) hm rfl) (He.glo_ok X G (c.fact 26 (f := .glo "InvalidSheets") rfl)) (init_ok F (C8.fnScope_by si11) ci11) (FunD.bindsN F fun _ _ _ _ _ _ us hl => match us, hl with | [_, _], _ => rfl)
    · obtain ⟨fdat, F⟩ := c.def_ 15 (d := di12) rfl
      exact mkB_ok (x := "InvalidViews") (all_at (k := 12) hm rfl) (He.glo_ok X G (c.fact 27 (f := .glo "InvalidViews") rfl)) (init_ok F (C8.fnScope_by si12) ci12) (FunD.bindsN F fun _ _ _ _ _ _ us hl => match us, hl with | [_, _], _ => rfl)
    · obtain ⟨fdat, F⟩ := c.def_ 16 (d := di3) rfl
      exact mkB_ok (x := "InvalidRights") (all_at (k := 13) hm rfl) (He.glo_ok X G (c.fact 28 (f := .glo "InvalidRights") rfl)) (init_ok F (C8.fnScope_by si3) ci3) (FunD.bindsN F fun _ _ _ _ _ _ us hl => match us, hl with | [_, _], _ => rfl)
    · obtain ⟨fdat, F⟩ := c.def_ 17 (d := di4) rfl
      exact mkB_ok (x := "InvalidCell") (all_at (k := 14) hm rfl) (He.glo_ok X G (c.fact 29 (f := .glo "InvalidCell") rfl)) (init_ok F (C8.fnScope_by si4) ci4) (FunD.bindsN F fun _ _ _ _ _ _ us hl => match us, hl with | [_, _], _ => rfl)
    · obtain ⟨fdat, F⟩ := c.def_ 18 (d := di5) rfl
      exact mkB_ok (x := "InvalidDeed") (all_at (k := 15) hm rfl) (He.glo_ok X G (c.fact 30 (f := .glo "InvalidDeed") rfl)) (init_ok F (C8.fnScope_by si5) ci5) (FunD.bindsN F fun _ _ _ _ _ _ us hl => match us, hl with | [_, _], _ => rfl)
    · obtain ⟨fdat, F⟩ := c.def_ 19 (d := di6) rfl
      exact mkB_ok (x := "InvalidStamp") (all_at (k := 16) hm rfl) (He.glo_ok X G (c.fact 31 (f := .glo "InvalidStamp") rfl)) (init_ok F (C8.fnScope_by si6) ci6) (FunD.bindsN F fun _ _ _ _ _ _ us hl => match us, hl with | [_, _], _ => rfl)
    · obtain ⟨fdat, F⟩ := c.def_ 20 (d := di7) rfl
      exact mkB_ok (x := "InvalidMark") (all_at (k := 17) hm rfl) (He.glo_ok X G (c.fact 32 (f := .glo "InvalidMark") rfl)) (init_ok F (C8.fnScope_by si7) ci7) (FunD.bindsN F fun _ _ _ _ _ _ us hl => match us, hl with | [_, _], _ => rfl)
    · obtain ⟨fdat, F⟩ := c.def_ 21 (d := di8) rfl
      exact mkB_ok (x := "InvalidBytes") (all_at (k := 18) hm rfl) (He.glo_ok X G (c.fact 33 (f := .glo "InvalidBytes") rfl)) (init_ok F (C8.fnScope_by si8) ci8) (FunD.bindsN F fun _ _ _ _ _ _ us hl => match us, hl with | [_, _], _ => rfl)
    · obtain ⟨fdat, F⟩ := c.def_ 22 (d := di14) rfl
      exact mkB_ok (x := "Undefined") (all_at (k := 19) hm rfl) (He.glo_ok X G (c.fact 34 (f := .glo "Undefined") rfl)) (init_ok F (C8.fnScope_by si14) ci14) (FunD.bindsN F fun _ _ _ _ _ _ us hl => match us, hl with | [_, _], _ => rfl)
    · cases hi
  · exact fun i j hs hj => lfsB_ok (all_at (k := 4) hm rfl) (lfl_mem j hj) hs
  · exact lkx_of (l := exl) (lf := lfl) (fun _ => rfl) (fun _ => rfl) (fun _ _ => rfl) (fun _ _ => rfl) (all_at (k := 4) hm rfl) (all_at (k := 5) hm rfl) (exl_all egl0) (He.free_ok X G (c.fact 19 (f := .free "ValueError") rfl)) (fun _ => rfl) exl_mem (fun _ _ => rfl) (by decide)
  · unfold tabT fnT at hf
    dsimp only at hf
    split at hf
    · cases hf
      obtain ⟨fdat, F⟩ := c.def_ 0 (d := d3) rfl
      exact ⟨_, fdat, p3, _, _, _, _, _, n3, He.glo_ok X G (c.fact 0 (f := .glo "is_name") rfl), F, C8.fnScope_by sc3, FunD.bindsN F fun _ _ _ _ _ _ us hl => match us, hl with | [_], _ => rfl, ck3, rfl, rfl⟩
    · cases hf
      obtain ⟨fdat, F⟩ := c.def_ 1 (d := d72) rfl
      exact ⟨_, fdat, p72, _, _, _, _, _, n72, He.glo_ok X G (c.fact 1 (f := .glo "is_person") rfl), F, C8.fnScope_by sc72, FunD.bindsN F fun _ _ _ _ _ _ us hl => match us, hl with | [_], _ => rfl, ck72, rfl, rfl⟩
    · cases hf
      obtain ⟨fdat, F⟩ := c.def_ 2 (d := d73) rfl
      exact ⟨_, fdat, p73, _, _, _, _, _, n73, ⟨He.glo_ok X G (c.fact 2 (f := .glo "Book") rfl), nwB_ok (all_at (k := 20) hm rfl)⟩, F, C8.fnScope_by sc73, FunD.bindsN F fun _ _ _ _ _ _ us hl => match us, hl with | [_, _, _, _, _, _], _ => rfl, ck73, rfl, rfl⟩
    · cases hf
      obtain ⟨fdat, F⟩ := c.def_ 3 (d := d24) rfl
      exact ⟨_, fdat, p24, _, _, _, _, _, n24, He.glo_ok X G (c.fact 3 (f := .glo "_law_box") rfl), F, C8.fnScope_by sc24, FunD.bindsN F fun _ _ _ _ _ _ us hl => match us, hl with | [_, _], _ => rfl, ck24, rfl, rfl⟩
    · cases hf
      obtain ⟨fdat, F⟩ := c.def_ 4 (d := d16) rfl
      exact ⟨_, fdat, p16, _, _, _, _, _, n16, He.glo_ok X G (c.fact 4 (f := .glo "_law_take") rfl), F, C8.fnScope_by sc16, FunD.bindsN F fun _ _ _ _ _ _ us hl => match us, hl with | [_, _], _ => rfl, ck16, rfl, rfl⟩
    · cases hf
      obtain ⟨fdat, F⟩ := c.def_ 5 (d := d18) rfl
      exact ⟨_, fdat, p18, _, _, _, _, _, n18, He.glo_ok X G (c.fact 5 (f := .glo "_law_pick") rfl), F, C8.fnScope_by sc18, FunD.bindsN F fun _ _ _ _ _ _ us hl => match us, hl with | [_, _], _ => rfl, ck18, rfl, rfl⟩
    · cases hf
      obtain ⟨fdat, F⟩ := c.def_ 6 (d := d75) rfl
      exact ⟨_, fdat, p75, _, _, _, _, _, n75, He.glo_ok X G (c.fact 6 (f := .glo "_law_ones") rfl), F, C8.fnScope_by sc75, FunD.bindsN F fun _ _ _ _ _ _ us hl => match us, hl with | [_], _ => rfl, ck75, rfl, rfl⟩
    · cases hf
      obtain ⟨fdat, F⟩ := c.def_ 7 (d := d74) rfl
      exact ⟨_, fdat, p74, _, _, _, _, _, n74, He.glo_ok X G (c.fact 7 (f := .glo "_law_kinds") rfl), F, C8.fnScope_by sc74, FunD.bindsN F fun _ _ _ _ _ _ us hl => match us, hl with | [_], _ => rfl, ck74, rfl, rfl⟩
    · cases hf
      obtain ⟨fdat, F⟩ := c.def_ 8 (d := d76) rfl
      exact ⟨_, fdat, p76, _, _, _, _, _, n76, He.glo_ok X G (c.fact 8 (f := .glo "law") rfl), F, C8.fnScope_by sc76, FunD.bindsN F fun _ _ _ _ _ _ us hl => match us, hl with | [_], _ => rfl, ck76, rfl, rfl⟩
    · cases hf
theorem law_ok {P : Program} {w : World} {K : PySem.W.Frag} {h : Heap} {mg : Str → Option Value} {fa : Addr} {k : Nat} (X : K.In h) (G : h.Ns mainGlobals mg) (c0 : He.SaysX faL fnL [] [] exL w h K) (hfa : mg ("law" : Str) = some (.ref fa)) :
    ∃ fdat : FuncData, (∀ (s : Shared) (u : Value), BindsTo s fdat ⟨[u], []⟩ [("script", u)]) ∧ ∀ base : Heap, FnOk P w K mg base (L2.CX P w) (2 * k + 2) fa fdat ["script"] (spC K (erT K) (run tabT k) 76) := by
  have c := c0.t.d
  obtain ⟨fdat, F⟩ := c.def_ 8 (d := d76) rfl
  have hg := He.glo_ok X G (c.fact 8 (f := .glo "law") rfl)
  have e := hfa.symm.trans hg
  cases e
  have b := FunD.bindsA (ps := ["script"]) F fun _ _ _ _ _ _ us hl => match us, hl with | [_], _ => rfl
  refine ⟨fdat, fun s u => b s [u] rfl, fun base => run_ok rfl (facts X G c0 P base).1 (facts X G c0 P base).2 k 76 fd76 rfl ⟨hg, F, C8.fnScope_by sc76, FunD.bindsN F fun _ _ _ _ _ _ us hl => match us, hl with | [_], _ => rfl, ck76, rfl, rfl⟩⟩
end LL

set_option Elab.async false
set_option linter.all false
set_option maxRecDepth 100000
set_option maxHeartbeats 400000
set_option autoImplicit false
/-! MA: the evaluator's equations, for simp. -/
namespace LL
open PySem PySem.Spec PyProof.Rows L2
/-- by a truth -/
def condR {α : Type} (o : Option Bool) (a b : R α) : R α := match o with
  | some true => a
  | some false => b
  | none => .bad
@[simp] theorem condR_true {α : Type} (a b : R α) : condR (some true) a b = a := rfl
@[simp] theorem condR_false {α : Type} (a b : R α) : condR (some false) a b = b := rfl
@[simp] theorem condR_none {α : Type} (a b : R α) : condR none a b = .bad := rfl
@[simp] theorem truth_bl (st : Sto) (b : Bool) : truth st (.d (.bl b)) = some b := rfl
@[simp] theorem truth_non (st : Sto) : truth st (.d .non) = some false := rfl
@[simp] theorem truth_int (st : Sto) (i : Int) : truth st (.d (.int i)) = some (i != 0) := rfl
@[simp] theorem tst_bad : (R.bad : R W).tst = .bad := rfl
@[simp] theorem tst_exc (c : Nat) (p : D) (st : Sto) : (R.exc c p st : R W).tst = .exc c p st := rfl
@[simp] theorem tst_blk (b : Bool) (st : Sto) : (R.ok (.d (.bl b)) st).tst = .ok b st := rfl
theorem tst_okw (w : W) (st : Sto) : (R.ok w st).tst = ofO (truth st w) st := rfl
@[simp] theorem allD_nil : allD [] = some [] := rfl
@[simp] theorem allD_cons (x : D) (ws : List W) : allD (.d x :: ws) = (allD ws).map (x :: ·) := rfl
@[simp] theorem frz_d (k : Nat) (st : Sto) (x : D) : frz k st (.d x) = some x := by cases k <;> rfl
@[simp] theorem arg1_one (w : W) (f : W → R W) : arg1 [w] f = f w := rfl
@[simp] theorem arg2_two (w u : W) (f : W → W → R W) : arg2 [w, u] f = f w u := rfl
@[simp] theorem seqF_nx (env : Ev) (st : Sto) (g : Ev → Sto → F) : seqF (.nx env st) g = g env st := rfl
@[simp] theorem seqF_ret (w : W) (st : Sto) (g : Ev → Sto → F) : seqF (.ret w st) g = .ret w st := rfl
@[simp] theorem seqF_bk (env : Ev) (st : Sto) (g : Ev → Sto → F) : seqF (.bk env st) g = .bk env st := rfl
@[simp] theorem seqF_ct (env : Ev) (st : Sto) (g : Ev → Sto → F) : seqF (.ct env st) g = .ct env st := rfl
@[simp] theorem seqF_bad (g : Ev → Sto → F) : seqF .bad g = .bad := rfl
@[simp] theorem seqF_exc (c : Nat) (p : D) (env : Ev) (st : Sto) (g : Ev → Sto → F) : seqF (.exc c p env st) g = .exc c p env st := rfl
@[simp] theorem turnF_nx (env : Ev) (st : Sto) (g : Ev → Sto → F) : turnF (.nx env st) g = g env st := rfl
@[simp] theorem turnF_ret (w : W) (st : Sto) (g : Ev → Sto → F) : turnF (.ret w st) g = .ret w st := rfl
@[simp] theorem turnF_bk (env : Ev) (st : Sto) (g : Ev → Sto → F) : turnF (.bk env st) g = .nx env st := rfl
@[simp] theorem turnF_ct (env : Ev) (st : Sto) (g : Ev → Sto → F) : turnF (.ct env st) g = g env st := rfl
@[simp] theorem turnF_bad (g : Ev → Sto → F) : turnF .bad g = .bad := rfl
@[simp] theorem turnF_exc (c : Nat) (p : D) (env : Ev) (st : Sto) (g : Ev → Sto → F) : turnF (.exc c p env st) g = .exc c p env st := rfl
@[simp] theorem out_ret (w : W) (st : Sto) : (F.ret w st).out = .ok w st := rfl
@[simp] theorem out_nx (env : Ev) (st : Sto) : (F.nx env st).out = .ok (.d .non) st := rfl
@[simp] theorem out_exc (c : Nat) (p : D) (env : Ev) (st : Sto) : (F.exc c p env st).out = .exc c p st := rfl
@[simp] theorem forR_nil (g : W → Ev → Sto → F) (env : Ev) (st : Sto) : forR g [] env st = .nx env st := rfl
@[simp] theorem compR_nil (g : W → Sto → R (Option W)) (acc : List W) (st : Sto) : compR g [] acc st = .ok acc st := rfl
@[simp] theorem patV_v (env : Ev) (i : Nat) (w : W) : patV env (.v i) w = some (setV env i w) := rfl
@[simp] theorem setV_zero (a : Option W) (env : Ev) (w : W) : setV (a :: env) 0 w = some w :: env := rfl
@[simp] theorem setV_succ (a : Option W) (env : Ev) (i : Nat) (w : W) : setV (a :: env) (i + 1) w = a :: setV env i w := rfl
@[simp] theorem setI_ref (st : Sto) (r : Nat) (k : Int) (v : W) : setI (.ref r) (.d (.int k)) v st = match st[r]? with
    | some (.lst ws) => (ixN ws.length k).map fun j => setL st r (ws.set j v)
    | _ => none := rfl
section
variable {T : Tab} {C : Cal} {env : Ev} {st : Sto}
theorem run_eq {n f : Nat} {fd : FD} {ws : List W} (h : T.fn f = some fd) (hl : ws.length = fd.np) : run T (n + 1) f ws st = (execs T (run T n) fd.body (startE fd.nv ws) st).out := by
  show (match T.fn f with
    | some fd => if ws.length = fd.np then (execs T (run T n) fd.body (startE fd.nv ws) st).out else .bad
    | none => .bad) = _
  rw [h]
  dsimp only
  rw [if_pos hl]
/-- a slot -/
def getV (env : Ev) (i : Nat) (st : Sto) : R W := match env[i]? with
    | some (some w) => .ok w st
    | _ => .bad
@[simp] theorem getV_zero (w : W) (env : Ev) (st : Sto) : getV (some w :: env) 0 st = .ok w st := rfl
@[simp] theorem getV_succ (a : Option W) (env : Ev) (i : Nat) (st : Sto) : getV (a :: env) (i + 1) st = getV env i st := rfl
@[simp] theorem ev_var (i : Nat) : ev T C (.var i) env st = getV env i st := rfl
@[simp] theorem ev_gc (k : Nat) : ev T C (.gc k) env st = ofO ((T.cn k).map .d) st := rfl
@[simp] theorem ev_int (i : Int) : ev T C (.lit (.int i)) env st = .ok (.d (.int i)) st := rfl
@[simp] theorem ev_str (i : Str) : ev T C (.lit (.str i)) env st = .ok (.d (.str i)) st := rfl
@[simp] theorem ev_bool (i : Bool) : ev T C (.lit (.bool i)) env st = .ok (.d (.bl i)) st := rfl
@[simp] theorem ev_none : ev T C (.lit .none) env st = .ok (.d .non) st := rfl
@[simp] theorem ev_tup (es : CEs) : ev T C (.tup es) env st = (evs T C es env st).bind fun ws st => (match allD ws with
    | some ds => if ds.length ≤ sizeLine then .ok (.d (.tup ds)) st else .bad
    | none => .bad) := rfl
@[simp] theorem ev_lst (m : Bool) (es : CEs) : ev T C (.lst m es) env st = (evs T C es env st).bind fun ws st => newL m ws st := rfl
@[simp] theorem ev_bin (op : Operator) (m : Bool) (a b : CE) : ev T C (.bin op m a b) env st = (ev T C a env st).bind fun x st => (ev T C b env st).bind fun y st => binW op m x y st := rfl
@[simp] theorem ev_neg (a : CE) : ev T C (.neg a) env st = (ev T C a env st).bind fun x st => (match x with
    | .d (.int i) => .ok (.d (.int (-i))) st
    | _ => .bad) := rfl
@[simp] theorem ev_bnot (a : CE) : ev T C (.bnot a) env st = (ev T C a env st).tst.bind fun b st => .ok (.d (.bl (!b))) st := rfl
@[simp] theorem ev_conj (a b : CE) : ev T C (.conj a b) env st = (ev T C a env st).bind fun x st => condR (truth st x) (ev T C b env st) (.ok x st) := by
  show (ev T C a env st).bind _ = _
  congr 1
@[simp] theorem ev_disj (a b : CE) : ev T C (.disj a b) env st = (ev T C a env st).bind fun x st => condR (truth st x) (.ok x st) (ev T C b env st) := by
  show (ev T C a env st).bind _ = _
  congr 1
@[simp] theorem ev_cmp (op : CmpOp) (a b : CE) : ev T C (.cmp op a b) env st = (ev T C a env st).bind fun x st => (ev T C b env st).bind fun y st => cmpW op x y st := rfl
@[simp] theorem ev_ifx (c a b : CE) : ev T C (.ifx c a b) env st = (ev T C c env st).tst.bind fun k st => condR (some k) (ev T C a env st) (ev T C b env st) := by
  show (ev T C c env st).tst.bind _ = _
  congr 1
  funext x st
  cases x <;> rfl
/-- the second half of a chain -/
def chainK (r : R W) (g : Sto → R W) : R W := r.bind fun k st => (match k with
    | .d (.bl true) => g st
    | .d (.bl false) => .ok (.d (.bl false)) st
    | _ => .bad)
@[simp] theorem chainK_true (st : Sto) (g : Sto → R W) : chainK (.ok (.d (.bl true)) st) g = g st := rfl
@[simp] theorem chainK_false (st : Sto) (g : Sto → R W) : chainK (.ok (.d (.bl false)) st) g = .ok (.d (.bl false)) st := rfl
theorem chainK_bl (k : Bool) (st : Sto) (g : Sto → R W) : chainK (.ok (.d (.bl k)) st) g = condR (some k) (g st) (.ok (.d (.bl false)) st) := by cases k <;> rfl
@[simp] theorem ev_chain (op op' : CmpOp) (a b c : CE) : ev T C (.chain op op' a b c) env st = (ev T C a env st).bind fun x st => (ev T C b env st).bind fun y st => chainK (cmpW op x y st) fun st => (ev T C c env st).bind fun z st => cmpW op' y z st := rfl
@[simp] theorem ev_ix (a i : CE) : ev T C (.ix a i) env st = (ev T C a env st).bind fun x st => (ev T C i env st).bind fun y st => ixW x y st := rfl
@[simp] theorem ev_sl (m : Bool) (a : CE) (lo hi : CO) : ev T C (.sl m a lo hi) env st = (ev T C a env st).bind fun x st => (evO T C lo env st).bind fun l st => (evO T C hi env st).bind fun h st => slW m x l h st := rfl
theorem ev_call {f : Nat} {md : Md} {es : CEs} {fd : FD} (h : T.fn f = some fd) : ev T C (.call f md es) env st = (evs T C es env st).bind fun ws st => callW C f md ws st := by
  show (match (T.fn f).isSome with
    | true => (evs T C es env st).bind fun ws st => callW C f md ws st
    | false => .bad) = _
  rw [h]
  rfl
@[simp] theorem ev_bi (b : Bi) (m : Bool) (es : CEs) : ev T C (.bi b m es) env st = (evs T C es env st).bind fun ws st => biW b m ws st := rfl
@[simp] theorem ev_isi (t : Ty) (a : CE) : ev T C (.isi t a) env st = (ev T C a env st).bind fun x st => ofO ((isiO t st x).map fun k => .d (.bl k)) st := rfl
@[simp] theorem evs_nil : evs T C .nil env st = .ok [] st := rfl
@[simp] theorem evs_cons (e : CE) (es : CEs) : evs T C (.cons e es) env st = (ev T C e env st).bind fun w st => (evs T C es env st).bind fun ws st => .ok (w :: ws) st := rfl
@[simp] theorem evO_no : evO T C .no env st = .ok none st := rfl
@[simp] theorem evO_yes (e : CE) : evO T C (.yes e) env st = (ev T C e env st).bind fun w st => (match w with
    | .d (.int i) => .ok (some i) st
    | _ => .bad) := rfl
@[simp] theorem evI_e (a : CE) : evI T C (.e a) env st = (ev T C a env st).bind fun w st => iterW w st := rfl
@[simp] theorem evI_rng1 (a : CE) : evI T C (.rng1 a) env st = (ev T C a env st).bind fun w st => (match w with
    | .d (.int j) => if -(2 ^ 62) ≤ j ∧ j < 2 ^ 62 then .ok (.inl (rngL 0 j)) st else .bad
    | _ => .bad) := rfl
@[simp] theorem evI_rng2 (a b : CE) : evI T C (.rng2 a b) env st = (ev T C a env st).bind fun v st => (ev T C b env st).bind fun w st => (match v, w with
    | .d (.int i), .d (.int j) => if -(2 ^ 62) ≤ i ∧ i < 2 ^ 62 ∧ -(2 ^ 62) ≤ j ∧ j < 2 ^ 62 then .ok (.inl (rngL i j)) st else .bad
    | _, _ => .bad) := rfl
@[simp] theorem ex_asg (i : Nat) (e : CE) : exec T C (.asg i e) env st = (ev T C e env st).thn env fun w st => .nx (setV env i w) st := rfl
@[simp] theorem ex_ret (e : CE) : exec T C (.ret e) env st = (ev T C e env st).thn env fun w st => .ret w st := rfl
@[simp] theorem ex_retN : exec T C .retN env st = .ret (.d .non) st := rfl
@[simp] theorem ex_ex (e : CE) : exec T C (.ex e) env st = (ev T C e env st).thn env fun _ st => .nx env st := rfl
@[simp] theorem ex_pass : exec T C .pass env st = .nx env st := rfl
@[simp] theorem ex_brk : exec T C .brk env st = .bk env st := rfl
@[simp] theorem ex_cont : exec T C .cont env st = .ct env st := rfl
/-- by a bool -/
def condF (k : Bool) (a b : F) : F := match k with
  | true => a
  | false => b
@[simp] theorem condF_true (a b : F) : condF true a b = a := rfl
@[simp] theorem condF_false (a b : F) : condF false a b = b := rfl
@[simp] theorem ex_ifs (c : CE) (a b : CSs) : exec T C (.ifs c a b) env st = (ev T C c env st).tst.thn env fun k st => condF k (execs T C a env st) (execs T C b env st) := by
  show (ev T C c env st).tst.thn env _ = _
  congr 1
@[simp] theorem exs_nil : execs T C .nil env st = .nx env st := rfl
@[simp] theorem exs_cons (s : CS) (r : CSs) : execs T C (.cons s r) env st = seqF (exec T C s env st) (execs T C r) := rfl
theorem call_pure {f : Nat} {ws : List W} {ds : List D} {y : D} {st' : Sto} (h : allD ws = some ds) (hc : C f ws [] = .ok (.d y) st') : callW C f .pure ws st = .ok (.d y) st := by
  unfold callW
  dsimp only
  rw [h, hc]
  simp
/-! ### comprehensions that make nothing in the store -/
theorem compR_pure {g : W → Sto → R (Option W)} {f : W → Option W} : ∀ {ws acc : List W}, (∀ x ∈ ws, g x st = .ok (f x) st) → acc.length + ws.length ≤ sizeLine → compR g ws acc st = .ok (acc ++ ws.filterMap f) st
  | [], acc, _, _ => by simp
  | x :: xs, acc, h, hl => by
    have hl : acc.length + (xs.length + 1) ≤ sizeLine := hl
    have hx := h x List.mem_cons_self
    have hr := fun y hy => h y (List.mem_cons_of_mem x hy)
    unfold compR
    rw [hx]
    cases e : f x with
    | none =>
      dsimp only
      rw [compR_pure hr (by omega), List.filterMap_cons_none e]
    | some y =>
      dsimp only
      rw [if_pos (by omega), compR_pure hr (by rw [List.length_append]; simp; omega), List.filterMap_cons_some e]
      simp
theorem newL_d {m : Bool} {ds : List D} (h : ds.length ≤ sizeLine) : newL false (ds.map .d) st = .ok (.d (.lst ds)) st := by
  unfold newL
  rw [if_pos (by simpa using h)]
  have e : allD (ds.map .d) = some ds := by
    induction ds with
    | nil => rfl
    | cons x xs ih =>
      rw [List.map_cons, allD_cons, ih (by simp at h; omega)]
      rfl
  rw [if_neg Bool.false_ne_true, e]
theorem newL_m {ws : List W} (h : ws.length ≤ sizeLine) : newL true ws st = .ok (.ref st.length) (st ++ [.lst ws]) := by
  unfold newL
  rw [if_pos h, if_pos rfl]
@[simp] theorem wipeE_nil : wipeE env [] = env := rfl
@[simp] theorem wipeE_cons (v : Nat) (vs : List Nat) : wipeE env (v :: vs) = (wipeE env vs).set v none := rfl
theorem ev_comp_pure {m : Bool} {elt : CE} {p : Pa} {it : CI} {own : List Nat} {ws : List W} {f : W → W} (h : evI T C it env st = .ok (.inl ws) st) (hl : ws.length ≤ sizeLine)
    (hg : ∀ x ∈ ws, ∃ env', patV (wipeE env own) p x = some env' ∧ ev T C elt env' st = .ok (f x) st) : ev T C (.comp m elt p it own) env st = newL m (ws.map f) st := by
  show (evI T C it env st).bind _ = _
  rw [h]
  show (compR _ ws [] st).bind _ = _
  rw [compR_pure (f := fun x => some (f x)) (fun x hx => ?_) (by simpa using hl)]
  · simp
  · obtain ⟨env', e1, e2⟩ := hg x hx
    rw [e1]
    dsimp only
    rw [e2]
    rfl
theorem fmap_if {α β : Type} (q : α → Bool) (f : α → β) : ∀ ws : List α, ws.filterMap (fun x => if q x = true then some (f x) else none) = (ws.filter q).map f
  | [] => rfl
  | x :: xs => by
    by_cases c : q x = true
    · simp [c, fmap_if q f xs]
    · simp [c, fmap_if q f xs]
theorem ev_compIf_pure {m : Bool} {elt c : CE} {p : Pa} {it : CI} {own : List Nat} {ws : List W} {f : W → W} {q : W → Bool} (h : evI T C it env st = .ok (.inl ws) st) (hl : ws.length ≤ sizeLine)
    (hg : ∀ x ∈ ws, ∃ env', patV (wipeE env own) p x = some env' ∧ (ev T C c env' st).tst = .ok (q x) st ∧ (q x = true → ev T C elt env' st = .ok (f x) st)) : ev T C (.compIf m elt p it c own) env st = newL m ((ws.filter q).map f) st := by
  show (evI T C it env st).bind _ = _
  rw [h]
  show (compR _ ws [] st).bind _ = _
  rw [compR_pure (f := fun x => if q x = true then some (f x) else none) (fun x hx => ?_) (by simpa using hl)]
  · have e := fmap_if q f ws
    simp [e]
  · obtain ⟨env', e1, e2, e3⟩ := hg x hx
    rw [e1]
    dsimp only
    rw [e2]
    cases hq : q x with
    | true =>
      show ((ev T C elt env' st).bind _) = _
      rw [e3 hq]
      simp
    | false => simp
@[simp] theorem iter_str (s : Str) : iterW (.d (.str s)) st = .ok (.inl (strL s)) st := rfl
@[simp] theorem iter_tup (xs : List D) : iterW (.d (.tup xs)) st = .ok (.inl (xs.map .d)) st := rfl
@[simp] theorem iter_lst (xs : List D) : iterW (.d (.lst xs)) st = .ok (.inl (xs.map .d)) st := rfl
theorem blsO_map {α : Type} (f : α → Bool) : ∀ l : List α, blsO (l.map fun c => .bl (f c)) = some (l.map f)
  | [] => rfl
  | c :: l => by
    rw [List.map_cons, List.map_cons]
    show (blsO _).map _ = _
    rw [blsO_map f l]
    rfl
theorem bi_all {α : Type} {m : Bool} (f : α → Bool) (l : List α) : biW .all m [.d (.lst (l.map fun c => .bl (f c)))] st = .ok (.d (.bl (l.all f))) st := by
  show ofO ((blsO (l.map fun c => .bl (f c))).map fun l => W.d (.bl (l.all id))) st = _
  rw [blsO_map]
  simp
theorem len_tup {m : Bool} {xs : List D} : biW .len m [.d (.tup xs)] st = .ok (.d (.int xs.length)) st := rfl
theorem len_lst {m : Bool} {xs : List D} : biW .len m [.d (.lst xs)] st = .ok (.d (.int xs.length)) st := rfl
theorem len_str {m : Bool} {s : Str} (h : s.length ≤ sizeLine) : biW .len m [.d (.str s)] st = .ok (.d (.int s.length)) st := by
  simp [biW, lenO, h]
/-! ### by parts -/
theorem ev_and {a b : CE} {p q : Bool} (ha : ev T C a env st = .ok (.d (.bl p)) st) (hb : p = true → ev T C b env st = .ok (.d (.bl q)) st) : ev T C (.conj a b) env st = .ok (.d (.bl (p && q))) st := by
  rw [ev_conj, ha]
  cases p with
  | true => exact hb rfl
  | false => rfl
theorem ev_or {a b : CE} {p q : Bool} (ha : ev T C a env st = .ok (.d (.bl p)) st) (hb : p = false → ev T C b env st = .ok (.d (.bl q)) st) : ev T C (.disj a b) env st = .ok (.d (.bl (p || q))) st := by
  rw [ev_disj, ha]
  cases p with
  | true => rfl
  | false => exact hb rfl
theorem ev_no {a : CE} {p : Bool} (ha : ev T C a env st = .ok (.d (.bl p)) st) : ev T C (.bnot a) env st = .ok (.d (.bl (!p))) st := by
  rw [ev_bnot, ha]
  rfl
theorem ev_if {c a b : CE} {p : Bool} {r : R W} (hc : ev T C c env st = .ok (.d (.bl p)) st) (ha : p = true → ev T C a env st = r) (hb : p = false → ev T C b env st = r) : ev T C (.ifx c a b) env st = r := by
  rw [ev_ifx, hc]
  cases p with
  | true => exact ha rfl
  | false => exact hb rfl
theorem ev_le2 {a b c : CE} {i j l : Int} (ha : ev T C a env st = .ok (.d (.int i)) st) (hb : ev T C b env st = .ok (.d (.int j)) st) (hc : ev T C c env st = .ok (.d (.int l)) st) : ev T C (.chain .LtE .LtE a b c) env st = .ok (.d (.bl (decide (i ≤ j) && decide (j ≤ l)))) st := by
  rw [ev_chain, ha, R.bind_ok, hb, R.bind_ok]
  show chainK (.ok (.d (.bl (decide (i ≤ j)))) st) _ = _
  rw [chainK_bl]
  by_cases z : i ≤ j
  · rw [decide_eq_true z, condR_true, hc]
    rfl
  · rw [decide_eq_false z]
    rfl
theorem ev_lt2 {a b c : CE} {i j l : Int} (ha : ev T C a env st = .ok (.d (.int i)) st) (hb : ev T C b env st = .ok (.d (.int j)) st) (hc : ev T C c env st = .ok (.d (.int l)) st) : ev T C (.chain .Lt .Lt a b c) env st = .ok (.d (.bl (decide (i < j) && decide (j < l)))) st := by
  rw [ev_chain, ha, R.bind_ok, hb, R.bind_ok]
  show chainK (.ok (.d (.bl (decide (i < j)))) st) _ = _
  rw [chainK_bl]
  by_cases z : i < j
  · rw [decide_eq_true z, condR_true, hc]
    rfl
  · rw [decide_eq_false z]
    rfl
theorem ret_ok {e : CE} {r : CSs} {w : W} {st' : Sto} (h : ev T C e env st = .ok w st') : execs T C (.cons (.ret e) r) env st = .ret w st' := by
  rw [exs_cons, ex_ret, h]
  rfl
theorem if_ok {c : CE} {a b r : CSs} {k : Bool} {st' : Sto} (h : ev T C c env st = .ok (.d (.bl k)) st') : execs T C (.cons (.ifs c a b) r) env st = seqF (condF k (execs T C a env st') (execs T C b env st')) (execs T C r) := by
  rw [exs_cons, ex_ifs, h]
  rfl
/-- if c: return a; the rest -/
theorem ifr_ok {c e : CE} {r : CSs} {k : Bool} {o : R W} (h : ev T C c env st = .ok (.d (.bl k)) st) (h1 : k = true → (execs T C (.cons (.ret e) .nil) env st).out = o) (h2 : k = false → (execs T C r env st).out = o) : (execs T C (.cons (.ifs c (.cons (.ret e) .nil) .nil) r) env st).out = o := by
  rw [if_ok h]
  cases k with
  | false => exact h2 rfl
  | true =>
    rw [← h1 rfl, exs_cons, ex_ret]
    cases ev T C e env st <;> rfl
theorem retO {e : CE} {r : CSs} {w : W} {st' : Sto} (h : ev T C e env st = .ok w st') : (execs T C (.cons (.ret e) r) env st).out = .ok w st' := by
  rw [ret_ok h]; rfl
theorem asg_ok {i : Nat} {e : CE} {r : CSs} {w : W} {st' : Sto} (h : ev T C e env st = .ok w st') : execs T C (.cons (.asg i e) r) env st = execs T C r (setV env i w) st' := by
  rw [exs_cons, ex_asg, h]
  rfl
theorem ev_pure {f : Nat} {es : CEs} {fd : FD} {ds : List D} {y : D} {st' : Sto} (hf : T.fn f = some fd) (ha : evs T C es env st = .ok (ds.map .d) st) (hc : C f (ds.map .d) [] = .ok (.d y) st') : ev T C (.call f .pure es) env st = .ok (.d y) st := by
  rw [ev_call hf, ha, R.bind_ok]
  refine call_pure (ds := ds) ?_ hc
  clear hc ha
  induction ds with
  | nil => rfl
  | cons x xs ih => rw [List.map_cons, allD_cons, ih]; rfl
/-! ### signs -/
abbrev sg (c : Nat) : D := .str ⟨#[c]⟩
theorem one_lt (c d : Nat) : decide ([c] < [d]) = decide (c < d) := by
  apply decide_eq_decide.mpr
  constructor
  · intro h
    cases h with
    | rel h => exact h
    | cons h => cases h
  · intro h
    exact List.Lex.rel h
theorem sg_lt {c : Nat} {z : Str} {d : Nat} (h : z.cps.toList = [d]) : cmpW .Lt (.d (sg c)) (.d (.str z)) st = .ok (.d (.bl (decide (c < d)))) st := by
  show ofO (some (W.d (.bl (decide ([c] < z.cps.toList))))) st = _
  rw [h, one_lt]
  rfl
theorem sg_gt {c : Nat} {z : Str} {d : Nat} (h : z.cps.toList = [d]) : cmpW .Gt (.d (sg c)) (.d (.str z)) st = .ok (.d (.bl (decide (d < c)))) st := by
  show ofO (some (W.d (.bl (decide (z.cps.toList < [c]))))) st = _
  rw [h, one_lt]
  rfl
theorem sg_le {c : Nat} {z : Str} {d : Nat} (h : z.cps.toList = [d]) : cmpW .LtE (.d (sg c)) (.d (.str z)) st = .ok (.d (.bl (decide (c ≤ d)))) st := by
  show ofO (some (W.d (.bl (!decide (z.cps.toList < [c]))))) st = _
  rw [h, one_lt, show (!decide (d < c)) = decide (c ≤ d) by by_cases z : d < c <;> simp [z] <;> omega]
  rfl
theorem le_sg {c : Nat} {z : Str} {d : Nat} (h : z.cps.toList = [d]) : cmpW .LtE (.d (.str z)) (.d (sg c)) st = .ok (.d (.bl (decide (d ≤ c)))) st := by
  show ofO (some (W.d (.bl (!decide ([c] < z.cps.toList))))) st = _
  rw [h, one_lt, show (!decide (c < d)) = decide (d ≤ c) by by_cases z : c < d <;> simp [z] <;> omega]
  rfl
theorem sg_in {c : Nat} {z : Str} : cmpW .In (.d (sg c)) (.d (.str z)) st = .ok (.d (.bl (decide (c ∈ z.cps.toList)))) st := rfl
@[simp] theorem sg_ord {m : Bool} {c : Nat} : biW .ord m [.d (sg c)] st = .ok (.d (.int c)) st := rfl
end
end LL

set_option Elab.async false
set_option linter.all false
set_option maxRecDepth 100000
set_option maxHeartbeats 400000
set_option autoImplicit false
/-! MD: plain data: nested at most k deep, its texts and lists at most 1000 long. -/
namespace LL
open PySem PySem.Spec PyProof.Rows L2
def pl : Nat → D → Bool
  | _, .non => true
  | _, .bl _ => true
  | _, .int _ => true
  | _, .str s => decide (s.length ≤ 5000) && PyData.strOk s
  | k + 1, .tup xs => decide (xs.length ≤ 5000) && xs.all (pl k)
  | k + 1, .lst xs => decide (xs.length ≤ 5000) && xs.all (pl k)
  | _, _ => false
theorem pl_mono : ∀ {k : Nat} {x : D}, pl k x = true → pl (k + 1) x = true
  | 0, x, h => by cases x <;> first | exact h | cases h
  | k + 1, x, h => by
    cases x with
    | tup xs =>
      simp only [pl, Bool.and_eq_true, List.all_eq_true] at h ⊢
      exact ⟨h.1, fun x hx => pl_mono (h.2 x hx)⟩
    | lst xs =>
      simp only [pl, Bool.and_eq_true, List.all_eq_true] at h ⊢
      exact ⟨h.1, fun x hx => pl_mono (h.2 x hx)⟩
    | _ => exact h
theorem pl_le {k m : Nat} {x : D} (h : pl k x = true) (hk : k ≤ m) : pl m x = true := by
  induction hk with
  | refl => exact h
  | step _ ih => exact pl_mono ih
theorem canLayAll_of : ∀ {xs : List D}, (∀ x ∈ xs, x.py.canLay0 = true) → PyData.canLayAll0 (D.pys xs) = true
  | [], _ => rfl
  | x :: xs, h => by
    show (x.py.canLay0 && PyData.canLayAll0 (D.pys xs)) = true
    rw [h x List.mem_cons_self, canLayAll_of fun y hy => h y (List.mem_cons_of_mem _ hy)]
    rfl
theorem depthAll_of {k : Nat} : ∀ {xs : List D}, (∀ x ∈ xs, x.py.depth ≤ k) → PyData.depthAll (D.pys xs) ≤ k
  | [], _ => Nat.zero_le _
  | x :: xs, h => by
    show max x.py.depth (PyData.depthAll (D.pys xs)) ≤ k
    exact Nat.max_le.mpr ⟨h x List.mem_cons_self, depthAll_of fun y hy => h y (List.mem_cons_of_mem _ hy)⟩
theorem pl_lay : ∀ {k : Nat} {x : D}, pl k x = true → x.py.canLay0 = true ∧ x.py.depth ≤ k
  | k, .non, _ => ⟨rfl, Nat.zero_le _⟩
  | k, .bl _, _ => ⟨rfl, Nat.zero_le _⟩
  | k, .int _, _ => ⟨rfl, Nat.zero_le _⟩
  | k, .str s, h => by
    have h : (decide (s.length ≤ 5000) && PyData.strOk s) = true := by cases k <;> exact h
    exact ⟨(Bool.and_eq_true_iff.mp h).2, Nat.zero_le _⟩
  | k + 1, .tup xs, h => by
    simp only [pl, Bool.and_eq_true, List.all_eq_true] at h
    have a := fun x (hx : x ∈ xs) => pl_lay (h.2 x hx)
    exact ⟨canLayAll_of fun x hx => (a x hx).1, Nat.succ_le_succ (depthAll_of fun x hx => (a x hx).2)⟩
  | k + 1, .lst xs, h => by
    simp only [pl, Bool.and_eq_true, List.all_eq_true] at h
    have a := fun x (hx : x ∈ xs) => pl_lay (h.2 x hx)
    exact ⟨canLayAll_of fun x hx => (a x hx).1, Nat.succ_le_succ (depthAll_of fun x hx => (a x hx).2)⟩
  | 0, .tup _, h => by cases h
  | 0, .lst _, h => by cases h
  | 0, .frz _, h => by cases h
  | 0, .dct _, h => by cases h
  | 0, .obj _ _ _, h => by cases h
  | 0, .exc _ _ _, h => by cases h
  | _ + 1, .frz _, h => by cases h
  | _ + 1, .dct _, h => by cases h
  | _ + 1, .obj _ _ _, h => by cases h
  | _ + 1, .exc _ _ _, h => by cases h
theorem pl_shp {k : Nat} {x : D} (h : pl k x = true) (hk : k ≤ 64) : x.shp = true := by
  obtain ⟨a, b⟩ := pl_lay h
  unfold D.shp SeqAt.shaped
  rw [a, decide_eq_true (Nat.le_trans b hk)]
  rfl
/-- the members of plain data are plain -/
theorem pl_tup {k : Nat} {xs : List D} : pl (k + 1) (.tup xs) = true ↔ xs.length ≤ 5000 ∧ ∀ x ∈ xs, pl k x = true := by
  simp only [pl, Bool.and_eq_true, List.all_eq_true, decide_eq_true_eq]
theorem pl_lst {k : Nat} {xs : List D} : pl (k + 1) (.lst xs) = true ↔ xs.length ≤ 5000 ∧ ∀ x ∈ xs, pl k x = true := by
  simp only [pl, Bool.and_eq_true, List.all_eq_true, decide_eq_true_eq]
theorem pl_str {k : Nat} {s : Str} : pl k (.str s) = true ↔ s.length ≤ 5000 ∧ PyData.strOk s = true := by
  cases k <;> simp only [pl, Bool.and_eq_true, decide_eq_true_eq]
@[simp] theorem pl_non {k : Nat} : pl k .non = true := by cases k <;> rfl
@[simp] theorem pl_int {k : Nat} {i : Int} : pl k (.int i) = true := by cases k <;> rfl
@[simp] theorem pl_bl {k : Nat} {b : Bool} : pl k (.bl b) = true := by cases k <;> rfl
/-- a value is this text -/
def isS (x : D) (s : Str) : Bool := match x with
  | .str t => t == s
  | _ => false
@[simp] theorem isS_str (t s : Str) : isS (.str t) s = (t == s) := rfl
theorem isS_eq {x : D} {s : Str} : isS x s = true ↔ x = .str s := by
  cases x <;> simp [isS]
theorem eqv_str (x : D) (s : Str) : PyData.eqv x.py (.str s) = isS x s := by
  cases x <;> rfl
theorem eqv_str' (x : D) (s : Str) : PyData.eqv (.str s) x.py = isS x s := by
  cases x with
  | str t =>
    show (s == t) = (t == s)
    by_cases h : s = t
    · rw [h]
    · rw [beq_eq_false_iff_ne.mpr h, beq_eq_false_iff_ne.mpr (Ne.symm h)]
  | _ => rfl
theorem eqO_dd {st : Sto} {x y : D} (h1 : x.shp = true) (h2 : y.shp = true) : eqO st (.d x) (.d y) = some (PyData.eqv x.py y.py) := by
  unfold eqO
  rw [frz_d, frz_d]
  dsimp only
  rw [if_pos ⟨h1, h2⟩]
theorem eqO_s {st : Sto} {x : D} {s : Str} (h1 : x.shp = true) (h2 : (D.str s).shp = true) : eqO st (.d x) (.d (.str s)) = some (isS x s) := by
  rw [eqO_dd h1 h2]
  exact congrArg some (eqv_str x s)
theorem cmp_eq {st : Sto} {a b : W} : cmpW .Eq a b st = ofO ((eqO st a b).map fun k => .d (.bl k)) st := rfl
theorem cmp_ne {st : Sto} {a b : W} : cmpW .NotEq a b st = ofO (((eqO st a b).map (!·)).map fun k => .d (.bl k)) st := rfl
theorem cmp_in {st : Sto} {a b : W} : cmpW .In a b st = ofO ((inO st a b).map fun k => .d (.bl k)) st := rfl
theorem cmp_nin {st : Sto} {a b : W} : cmpW .NotIn a b st = ofO (((inO st a b).map (!·)).map fun k => .d (.bl k)) st := rfl
theorem cmp_is {st : Sto} {a b : W} : cmpW .Is a b st = ofO ((isO a b).map fun k => .d (.bl k)) st := rfl
theorem cmp_isn {st : Sto} {a b : W} : cmpW .IsNot a b st = ofO (((isO a b).map (!·)).map fun k => .d (.bl k)) st := rfl
theorem cmp_lt {st : Sto} {i j : Int} : cmpW .Lt (.d (.int i)) (.d (.int j)) st = .ok (.d (.bl (decide (i < j)))) st := rfl
theorem cmp_le {st : Sto} {i j : Int} : cmpW .LtE (.d (.int i)) (.d (.int j)) st = .ok (.d (.bl (decide (i ≤ j)))) st := rfl
theorem cmp_gt {st : Sto} {i j : Int} : cmpW .Gt (.d (.int i)) (.d (.int j)) st = .ok (.d (.bl (decide (j < i)))) st := rfl
theorem cmp_ge {st : Sto} {i j : Int} : cmpW .GtE (.d (.int i)) (.d (.int j)) st = .ok (.d (.bl (decide (j ≤ i)))) st := rfl
/-- a text among texts -/
theorem in_tup {st : Sto} {s : Str} {ys : List Str} (h : (D.str s).shp = true) (hy : (D.tup (ys.map .str)).shp = true) : inO st (.d (.str s)) (.d (.tup (ys.map .str))) = some (ys.any (· == s)) := by
  show (if (D.str s).shp = true ∧ (D.tup (ys.map .str)).shp = true then some ((D.pys (ys.map .str)).any fun z => PyData.eqv z (.str s)) else none) = _
  rw [if_pos ⟨h, hy⟩, D.pys_map, List.map_map, List.any_map]
  rfl
theorem in_lst {st : Sto} {s : Str} {ys : List Str} (h : (D.str s).shp = true) (hy : (D.lst (ys.map .str)).shp = true) : inO st (.d (.str s)) (.d (.lst (ys.map .str))) = some (ys.any (· == s)) := by
  show (if (D.str s).shp = true ∧ (D.lst (ys.map .str)).shp = true then some ((D.pys (ys.map .str)).any fun z => PyData.eqv z (.str s)) else none) = _
  rw [if_pos ⟨h, hy⟩, D.pys_map, List.map_map, List.any_map]
  rfl
end LL

set_option Elab.async false
set_option linter.all false
set_option maxRecDepth 100000
set_option maxHeartbeats 1000000
set_option autoImplicit false
/-! M5a: what the forms' small defs answer. -/
namespace LL
open PySem PySem.Spec PyProof.Rows L2
theorem fnT_def (i : Nat) : tabT.fn i = fnT i := rfl
theorem cnT_def (i : Nat) : tabT.cn i = cnT i := rfl
def isInt : D → Bool
  | .int _ => true
  | _ => false
def inR (x : D) (a b : Int) : Bool := match x with
  | .int i => decide (a ≤ i) && decide (i ≤ b)
  | _ => false
def tupN (x : D) (n : Int) : Bool := match x with
  | .tup xs => decide ((xs.length : Int) = n)
  | _ => false
def lcB (c : Nat) : Bool := decide (97 ≤ c) && decide (c ≤ 122)
def isName (x : D) : Bool := match x with
  | .str s => decide (1 ≤ s.length) && decide (s.length ≤ 8) && s.cps.toList.all lcB
  | _ => false
def isMark (x : D) : Bool := match x with
  | .tup [a, b, c, d] => inR a 0 999999 && (isS b "" || isName b) && inR c 0 99 && inR d 0 99
  | _ => false
theorem pl_iso {k : Nat} {x : D} (h : pl k x = true) (t : Ty) (st : Sto) : ∃ b, isiO t st (.d x) = some b := by
  cases x with
  | dct _ => cases k <;> cases h
  | obj _ _ _ => cases k <;> cases h
  | exc _ _ _ => cases k <;> cases h
  | _ => exact ⟨_, rfl⟩
theorem cmp_eqi {st : Sto} {i j : Int} : cmpW .Eq (.d (.int i)) (.d (.int j)) st = .ok (.d (.bl (decide (i = j)))) st := by
  rw [cmp_eq, eqO_dd rfl rfl]
  show ofO (some (W.d (.bl (i == j)))) st = _
  by_cases h : i = j
  · subst h; simp
  · rw [beq_eq_false_iff_ne.mpr h, decide_eq_false h]; rfl
theorem cmp_nei {st : Sto} {i j : Int} : cmpW .NotEq (.d (.int i)) (.d (.int j)) st = .ok (.d (.bl (!decide (i = j)))) st := by
  rw [cmp_ne, eqO_dd rfl rfl]
  show ofO (some (W.d (.bl (!(i == j))))) st = _
  by_cases h : i = j
  · subst h; simp
  · rw [beq_eq_false_iff_ne.mpr h, decide_eq_false h]; rfl
theorem sz {s : Str} (h : s.length ≤ 5000) : s.length ≤ sizeLine := by rw [sizeLine_eq]; omega
theorem all_dec {l : List Nat} {f g : Nat → Bool} (h : ∀ c ∈ l, f c = g c) : l.all f = l.all g := by
  induction l with
  | nil => rfl
  | cons c l ih => rw [List.all_cons, List.all_cons, h c List.mem_cons_self, ih fun d hd => h d (List.mem_cons_of_mem _ hd)]
theorem letters (c : Nat) : decide (c ∈ ("abcdefghijklmnopqrstuvwxyz" : Str).cps.toList) = lcB c := by
  have e : ("abcdefghijklmnopqrstuvwxyz" : Str).cps.toList = (List.range 26).map (97 + ·) := by decide +kernel
  rw [e]
  unfold lcB
  by_cases h : 97 ≤ c ∧ c ≤ 122
  · rw [decide_eq_true h.1, decide_eq_true h.2]
    refine decide_eq_true (List.mem_map.mpr ⟨c - 97, List.mem_range.mpr (by omega), by omega⟩)
  · have : ¬ c ∈ (List.range 26).map (97 + ·) := fun z => by
      obtain ⟨i, hi, e⟩ := List.mem_map.mp z
      have := List.mem_range.mp hi
      omega
    rw [decide_eq_false this]
    by_cases a : 97 ≤ c
    · rw [decide_eq_true a, decide_eq_false (fun b => h ⟨a, b⟩)]; rfl
    · rw [decide_eq_false a]; rfl
theorem r3 {n k : Nat} {x : D} {st : Sto} (h : pl k x = true) : run tabT (n + 1) 3 [.d x] st = .ok (.d (.bl (isName x))) st := by
  rw [run_eq (fd := fd3) rfl rfl]
  cases x with
  | dct _ => cases k <;> cases h
  | obj _ _ _ => cases k <;> cases h
  | exc _ _ _ => cases k <;> cases h
  | str s =>
    have hs := (pl_str.mp h).1
    have hc : ∀ st, ev tabT (run tabT n) (.comp false (.cmp .In (.var 1) (.gc 1)) (.v 1) (.e (.var 0)) [1]) [some (.d (.str s)), none] st = .ok (.d (.lst (s.cps.toList.map fun c => .bl (lcB c)))) st := fun st => by
      rw [ev_comp_pure (ws := strL s) (f := fun x => match x with | .d (.str z) => .d (.bl (decide (z.cps.toList.head?.getD 0 ∈ ("abcdefghijklmnopqrstuvwxyz" : Str).cps.toList))) | w => w) (by simp) (by unfold strL; rw [List.length_map, Array.length_toList]; exact sz hs) (fun x hx => ?_)]
      · unfold strL
        rw [List.map_map]
        have e : ((fun x : W => match x with | .d (.str z) => W.d (.bl (decide (z.cps.toList.head?.getD 0 ∈ ("abcdefghijklmnopqrstuvwxyz" : Str).cps.toList))) | w => w) ∘ fun c => W.d (sg c)) = W.d ∘ fun c => D.bl (lcB c) := by
          funext c
          show W.d (.bl (decide (c ∈ ("abcdefghijklmnopqrstuvwxyz" : Str).cps.toList))) = _
          rw [letters]
          rfl
        rw [e, ← List.map_map]
        exact newL_d (m := false) (by rw [List.length_map, Array.length_toList]; exact sz hs)
      · obtain ⟨c, _, rfl⟩ := List.mem_map.mp hx
        refine ⟨_, rfl, ?_⟩
        simp [cnT_def, cnT, sg_in, setV]
    simp [fd3, b3, startE, isiO, len_str (sz hs), cmp_le, cnT_def, cnT, chainK_bl, isName]
    by_cases c1 : 1 ≤ s.length
    · by_cases c2 : s.length ≤ 8
      · have a1 : (1 : Int) ≤ s.length := by omega
        have a2 : (s.length : Int) ≤ 8 := by omega
        simp [c1, c2, a1, a2, hc, bi_all]
      · have a1 : (1 : Int) ≤ s.length := by omega
        have a2 : ¬ (s.length : Int) ≤ 8 := by omega
        simp [c1, c2, a1, a2]
    · have a1 : ¬ (1 : Int) ≤ s.length := by omega
      simp [c1, a1]
  | _ => simp [fd3, b3, startE, isiO, isName]
end LL

set_option Elab.async false
set_option linter.all false
set_option maxRecDepth 100000
set_option maxHeartbeats 1000000
set_option autoImplicit false
/-! M5b: names, texts, marks by the law's own words; gcd. -/
namespace LL
open PySem PySem.Spec PyProof.Rows L2
section
variable {T : Tab} {C : Cal} {env : Ev} {st : Sto}
theorem getV_set : ∀ {env : Ev} {i : Nat} {w : W}, i < env.length → getV (setV env i w) i st = .ok w st
  | [], i, w, h => by simp at h
  | a :: env, 0, w, _ => rfl
  | a :: env, i + 1, w, h => by
    rw [setV_succ, getV_succ]
    exact getV_set (by simpa using h)
theorem eq_nil {ds : List D} (h : (D.lst ds).shp = true) : cmpW .Eq (.d (.lst ds)) (.d (.lst [])) st = .ok (.d (.bl ds.isEmpty)) st := by
  rw [cmp_eq, eqO_dd h rfl]
  cases ds <;> rfl
theorem sgs_shp {s : Str} {l : List Nat} (h : s.length ≤ 5000 ∧ PyData.strOk s = true) (hl : ∀ c ∈ l, c ∈ s.cps.toList) (hn : l.length ≤ 5000) : (D.lst (l.map sg)).shp = true := by
  refine pl_shp (k := 1) (pl_lst.mpr ⟨by rw [List.length_map]; exact hn, fun x hx => ?_⟩) (by omega)
  obtain ⟨c, hc, rfl⟩ := List.mem_map.mp hx
  refine pl_str.mpr ⟨by show (1 : Nat) ≤ 5000; omega, ?_⟩
  have h2 := h.2
  unfold PyData.strOk at h2 ⊢
  rw [← Array.all_toList] at h2 ⊢
  have := List.all_eq_true.mp h2 c (hl c hc)
  simpa using this
/-- no sign of a text that q tells -/
theorem comp_none {s : Str} {i j : Nat} {c : CE} {q : Nat → Bool} (hs : s.length ≤ 5000 ∧ PyData.strOk s = true) (hj : getV env j st = .ok (.d (.str s)) st) (hi : i < env.length)
    (ht : ∀ x ∈ s.cps.toList, (ev T C c (setV (wipeE env [i]) i (.d (sg x))) st).tst = .ok (q x) st) : ev T C (.cmp .Eq (.compIf false (.var i) (.v i) (.e (.var j)) c [i]) (.lst false .nil)) env st = .ok (.d (.bl (s.cps.toList.all fun x => !q x))) st := by
  rw [ev_cmp, ev_compIf_pure (ws := strL s) (f := id) (q := fun x => match x with | .d (.str z) => q (z.cps.toList.head?.getD 0) | _ => false) (by rw [evI_e, ev_var, hj]; rfl) (by unfold strL; rw [List.length_map, Array.length_toList]; exact sz hs.1) (fun x hx => ?_)]
  · have e : ((strL s).filter (fun x => match x with | .d (.str z) => q (z.cps.toList.head?.getD 0) | _ => false)).map id = ((s.cps.toList.filter q).map sg).map W.d := by
      unfold strL
      rw [List.map_id, List.filter_map, List.map_map]
      rfl
    rw [e, newL_d (m := false) (by rw [List.length_map]; exact Nat.le_trans (List.length_filter_le _ _) (by rw [Array.length_toList]; exact sz hs.1))]
    have hn : (s.cps.toList.filter q).length ≤ 5000 := Nat.le_trans (List.length_filter_le _ _) (by rw [Array.length_toList]; exact hs.1)
    show cmpW .Eq (.d (.lst ((s.cps.toList.filter q).map sg))) (.d (.lst [])) st = _
    rw [eq_nil (sgs_shp hs (fun c hc => (List.mem_filter.mp hc).1) hn)]
    congr 3
    generalize s.cps.toList = l
    induction l with
    | nil => rfl
    | cons c l ih =>
      by_cases z : q c = true
      · simp [z]
      · rw [List.filter_cons_of_neg z, ih]
        simp [z]
  · obtain ⟨c, hc, rfl⟩ := List.mem_map.mp hx
    refine ⟨_, rfl, ht c hc, fun _ => ?_⟩
    rw [ev_var, getV_set (by simpa using hi)]
    rfl
theorem sg_shp {s : Str} {c : Nat} (h : PyData.strOk s = true) (hc : c ∈ s.cps.toList) : (sg c).shp = true := by
  refine pl_shp (k := 0) (pl_str.mpr ⟨by show (1 : Nat) ≤ 5000; omega, ?_⟩) (by omega)
  unfold PyData.strOk at h ⊢
  rw [← Array.all_toList] at h ⊢
  have := List.all_eq_true.mp h c hc
  simpa using this
/-- all signs of a text -/
theorem comp_all {s : Str} {i j : Nat} {e : CE} {q : Nat → Bool} (hs : s.length ≤ sizeLine) (hj : getV env j st = .ok (.d (.str s)) st)
    (ht : ∀ x ∈ s.cps.toList, ev T C e (setV (wipeE env [i]) i (.d (sg x))) st = .ok (.d (.bl (q x))) st) : ev T C (.bi .all false (.cons (.comp false e (.v i) (.e (.var j)) [i]) .nil)) env st = .ok (.d (.bl (s.cps.toList.all q))) st := by
  have hc : ev T C (.comp false e (.v i) (.e (.var j)) [i]) env st = .ok (.d (.lst (s.cps.toList.map fun c => .bl (q c)))) st := by
    rw [ev_comp_pure (ws := strL s) (f := fun x => match x with | .d (.str z) => .d (.bl (q (z.cps.toList.head?.getD 0))) | w => w) (by rw [evI_e, ev_var, hj]; rfl) (by unfold strL; rw [List.length_map, Array.length_toList]; exact hs) (fun x hx => ?_)]
    · unfold strL
      rw [List.map_map]
      have e : ((fun x : W => match x with | .d (.str z) => W.d (.bl (q (z.cps.toList.head?.getD 0))) | w => w) ∘ fun c => W.d (sg c)) = W.d ∘ fun c => D.bl (q c) := by
        funext c
        rfl
      rw [e, ← List.map_map]
      exact newL_d (m := false) (by rw [List.length_map, Array.length_toList]; exact hs)
    · obtain ⟨c, hc, rfl⟩ := List.mem_map.mp hx
      exact ⟨_, rfl, ht c hc⟩
  rw [ev_bi, evs_cons, hc]
  exact bi_all (m := false) q _
theorem sg_is {c d : Nat} {z : Str} (h : z.cps = #[d]) : isS (sg c) z = decide (c = d) := by
  show ((⟨#[c]⟩ : Str) == z) = _
  obtain ⟨zc⟩ := z
  have h : zc = #[d] := h
  subst h
  by_cases e : c = d
  · subst e; simp
  · rw [decide_eq_false e]
    refine beq_eq_false_iff_ne.mpr fun x => e ?_
    have := congrArg (fun s : Str => s.cps[0]?) x
    simpa using this
theorem ev_sg2 {a b c : CE} {x z : Str} {l m : Nat} {k : Nat} (ha : ev T C a env st = .ok (.d (.str x)) st) (hb : ev T C b env st = .ok (.d (sg k)) st) (hc : ev T C c env st = .ok (.d (.str z)) st) (hx : x.cps.toList = [l]) (hz : z.cps.toList = [m]) : ev T C (.chain .LtE .LtE a b c) env st = .ok (.d (.bl (decide (l ≤ k) && decide (k ≤ m)))) st := by
  rw [ev_chain, ha, R.bind_ok, hb, R.bind_ok, le_sg hx, chainK_bl]
  by_cases h : l ≤ k
  · rw [decide_eq_true h, condR_true, hc, R.bind_ok, sg_le hz]
    rfl
  · rw [decide_eq_false h]
    rfl
theorem in_ints {i : Int} {js : List Int} : inO st (.d (.int i)) (.d (.lst (js.map .int))) = if (D.lst (js.map .int)).shp = true then some (js.any (· == i)) else none := by
  show (if (D.int i).shp = true ∧ (D.lst (js.map .int)).shp = true then some ((D.pys (js.map .int)).any fun z => PyData.eqv z (.int i)) else none) = _
  rw [D.pys_map, List.map_map, List.any_map]
  have e : (D.int i).shp = true := rfl
  rw [e]
  by_cases h : (D.lst (js.map .int)).shp = true
  · rw [if_pos ⟨rfl, h⟩, if_pos h]
    rfl
  · rw [if_neg (fun z => h z.2), if_neg h]
end
end LL

set_option Elab.async false
set_option linter.all false
set_option maxRecDepth 100000
set_option maxHeartbeats 1000000
set_option autoImplicit false
/-! M5c: marks, texts, numbers, values. -/
namespace LL
open PySem PySem.Spec PyProof.Rows L2
theorem tup4 {x : D} (h : tupN x 4 = true) : ∃ a b c d, x = .tup [a, b, c, d] := by
  unfold tupN at h
  split at h
  · rename_i xs
    have h := of_decide_eq_true h
    match xs, h with
    | [a, b, c, d], _ => exact ⟨a, b, c, d, rfl⟩
    | [], h => simp at h
    | [_], h => simp at h
    | [_, _], h => simp at h
    | [_, _, _], h => simp at h
    | _ :: _ :: _ :: _ :: _ :: _, h => simp at h; omega
  · cases h
theorem not_mark {x : D} (h : tupN x 4 = false) : isMark x = false := by
  unfold isMark
  split
  · rename_i a b c d
    have : tupN (.tup [a, b, c, d]) 4 = true := rfl
    rw [this] at h; cases h
  · rfl
theorem ne_s {st : Sto} {x : D} {s : Str} (h1 : x.shp = true) (h2 : (D.str s).shp = true := by decide +kernel) : cmpW .NotEq (.d x) (.d (.str s)) st = .ok (.d (.bl (!isS x s))) st := by
  rw [cmp_ne, eqO_s h1 h2]; rfl
theorem eq_s {st : Sto} {x : D} {s : Str} (h1 : x.shp = true) (h2 : (D.str s).shp = true := by decide +kernel) : cmpW .Eq (.d x) (.d (.str s)) st = .ok (.d (.bl (isS x s))) st := by
  rw [cmp_eq, eqO_s h1 h2]; rfl
end LL

set_option Elab.async false
set_option linter.all false
set_option maxRecDepth 100000
set_option maxHeartbeats 1000000
set_option autoImplicit false
/-! M5d: texts, gcd. -/
namespace LL
open PySem PySem.Spec PyProof.Rows L2
def ptB (c : Nat) : Bool := (decide (32 ≤ c) && decide (c ≤ 126)) && (!decide (c = 34) && (!decide (c = 92) && !decide (c = 37)))
def isText (x : D) (m : Int) : Bool := match x with
  | .str s => decide ((s.length : Int) ≤ m) && s.cps.toList.all ptB
  | _ => false
end LL

set_option Elab.async false
set_option linter.all false
set_option maxRecDepth 100000
set_option maxHeartbeats 1000000
set_option autoImplicit false
/-! M5e: gcd, numbers, values. -/
namespace LL
open PySem PySem.Spec PyProof.Rows L2
/-- the body of a for over items known -/
def forG (T : Tab) (C : Cal) (p : Pa) (b : CSs) : W → Ev → Sto → F := fun w env st => match patV env p w with
  | some env' => execs T C b env' st
  | none => .bad
theorem exec_for {T : Tab} {C : Cal} {env : Ev} {st st' : Sto} {p : Pa} {it : CI} {b : CSs} {ws : List W} (h : evI T C it env st = .ok (.inl ws) st') : exec T C (.fors p it b) env st = forR (forG T C p b) ws env st' := by
  show (evI T C it env st).thn env _ = _
  rw [h]
  rfl
theorem rng_len (i j : Int) : (rngL i j).length = (j - i).toNat := by unfold rngL; simp
def gcdB20 : CSs := (.cons (.ifs (.cmp .Eq (.var 1) (.lit (.int 0))) (.cons (.ret (.var 0)) (.nil)) (.nil)) (.cons (.par [0, 1] (.cons (.var 1) (.cons (.bin .Mod false (.bi .int false (.cons (.var 0) (.nil))) (.var 1)) (.nil)))) (.nil)))
section
variable {C : Cal} {st : Sto}
theorem gcd_turn0 (x : W) (a : Int) (o : Option W) : forG tabT C (.v 2) gcdB20 x [some (.d (.int a)), some (.d (.int 0)), o] st = .ret (.d (.int a)) st := rfl
theorem gcd_turn (x : W) (a b : Nat) (o : Option W) (hb : 0 < b) : forG tabT C (.v 2) gcdB20 x [some (.d (.int a)), some (.d (.int b)), o] st = .nx [some (.d (.int b)), some (.d (.int (a % b : Nat))), some x] st := by
  show execs tabT C gcdB20 [some (.d (.int a)), some (.d (.int b)), some x] st = _
  unfold gcdB20
  rw [if_ok (k := decide ((b : Int) = 0)) (by exact cmp_eqi), decide_eq_false (by omega), condF_false]
  show execs tabT C (.cons (.par [0, 1] _) .nil) _ st = _
  have e : binI .Mod (a : Int) (b : Int) = some ((a % b : Nat) : Int) := by
    show (if 0 < (b : Int) then some ((a : Int) % (b : Int)) else none) = _
    rw [if_pos (by omega)]
    rfl
  have h : evs tabT C (.cons (.var 1) (.cons (.bin .Mod false (.bi .int false (.cons (.var 0) (.nil))) (.var 1)) (.nil))) [some (.d (.int a)), some (.d (.int b)), some x] st = .ok [.d (.int b), .d (.int (a % b : Nat))] st := by
    show ((ofO ((binI .Mod (a : Int) (b : Int)).map fun k => W.d (.int k)) st).bind fun w st => R.ok [w] st).bind (fun ws st => R.ok (W.d (.int b) :: ws) st) = _
    rw [e]
    rfl
  show seqF ((evs tabT C _ _ st).thn _ _) _ = _
  rw [h]
  rfl
theorem gcd_loop : ∀ (k : Nat) (ws : List W) (a b : Nat) (o : Option W), b < 2 ^ k → 2 * k + 1 ≤ ws.length → forR (forG tabT C (.v 2) gcdB20) ws [some (.d (.int a)), some (.d (.int b)), o] st = .ret (.d (.int (Nat.gcd a b))) st
  | k, [], a, b, o, _, h => by simp at h
  | 0, x :: ws, a, b, o, hb, _ => by
    have : b = 0 := by omega
    subst this
    rw [forR_eq, Nat.gcd_zero_right]
    exact congrArg (fun f => turnF f _) (gcd_turn0 x a o)
  | k + 1, x :: ws, a, b, o, hb, hl => by
    by_cases z : b = 0
    · subst z
      rw [forR_eq, Nat.gcd_zero_right]
      exact congrArg (fun f => turnF f _) (gcd_turn0 x a o)
    · rw [forR_eq, gcd_turn x a b o (by omega), turnF_nx]
      have g1 : Nat.gcd a b = Nat.gcd b (a % b) := by rw [Nat.gcd_comm a b, Nat.gcd_rec b a, Nat.gcd_comm]
      have hr : a % b < b := Nat.mod_lt _ (by omega)
      match ws, hl with
      | y :: ws, hl =>
        by_cases z2 : a % b = 0
        · rw [z2, forR_eq, g1, z2, Nat.gcd_zero_right]
          exact congrArg (fun f => turnF f _) (gcd_turn0 y b (some x))
        · rw [forR_eq, gcd_turn y b (a % b) (some x) (by omega), turnF_nx]
          have g2 : Nat.gcd b (a % b) = Nat.gcd (a % b) (b % (a % b)) := by rw [Nat.gcd_comm b (a % b), Nat.gcd_rec (a % b) b, Nat.gcd_comm]
          rw [g1, g2]
          refine gcd_loop k ws _ _ _ ?_ (by simp at hl; omega)
          have h1 : b % (a % b) < a % b := Nat.mod_lt _ (by omega)
          have h2 : b % (a % b) + (a % b) ≤ b := by
            have e := Nat.div_add_mod b (a % b)
            have q : 1 ≤ b / (a % b) := Nat.div_pos (by omega) (by omega)
            have m : (a % b) * 1 ≤ (a % b) * (b / (a % b)) := Nat.mul_le_mul_left _ q
            omega
          have e2 : 2 ^ (k + 1) = 2 * 2 ^ k := by rw [Nat.pow_succ]; omega
          omega
      | [], hl => simp at hl
end
end LL

set_option Elab.async false
set_option linter.all false
set_option maxRecDepth 100000
set_option maxHeartbeats 1000000
set_option autoImplicit false
/-! M5f: numbers, values. -/
namespace LL
open PySem PySem.Spec PyProof.Rows L2
def isW (x : D) (ys : List Str) : Bool := match x with
  | .str s => ys.any (· == s)
  | _ => false
def gcd1 (b c : D) : Bool := match b, c with
  | .int p, .int q => decide (Nat.gcd p.natAbs q.natAbs = 1)
  | _, _ => false
def isNum (x : D) : Bool := match x with
  | .tup [a, b, c] => isS a "number" && (inR b (-999999999999999) 999999999999999 && (inR c 1 999999999999999 && gcd1 b c))
  | _ => false
theorem tup3 {x : D} (h : tupN x 3 = true) : ∃ a b c, x = .tup [a, b, c] := by
  unfold tupN at h
  split at h
  · rename_i xs
    have h := of_decide_eq_true h
    match xs, h with
    | [a, b, c], _ => exact ⟨a, b, c, rfl⟩
    | [], h => simp at h
    | [_], h => simp at h
    | [_, _], h => simp at h
    | _ :: _ :: _ :: _ :: _, h => simp at h; omega
  · cases h
theorem tup2 {x : D} (h : tupN x 2 = true) : ∃ a b, x = .tup [a, b] := by
  unfold tupN at h
  split at h
  · rename_i xs
    have h := of_decide_eq_true h
    match xs, h with
    | [a, b], _ => exact ⟨a, b, rfl⟩
    | [], h => simp at h
    | [_], h => simp at h
    | _ :: _ :: _ :: _, h => simp at h; omega
  · cases h
theorem not_num {x : D} (h : tupN x 3 = false) : isNum x = false := by
  unfold isNum
  split
  · rename_i a b c
    have : tupN (.tup [a, b, c]) 3 = true := rfl
    rw [this] at h; cases h
  · rfl
theorem inR_int {x : D} {a b : Int} (h : inR x a b = true) : ∃ i, x = .int i ∧ a ≤ i ∧ i ≤ b := by
  unfold inR at h
  split at h
  · rename_i i
    simp only [Bool.and_eq_true, decide_eq_true_eq] at h
    exact ⟨i, rfl, h⟩
  · cases h
theorem isW_one (x : D) (s : Str) : isW x [s] = isS x s := by
  cases x with
  | str t =>
    show ((s == t) || false) = (t == s)
    rw [Bool.or_false]
    by_cases h : s = t
    · rw [h]
    · rw [beq_eq_false_iff_ne.mpr h, beq_eq_false_iff_ne.mpr (Ne.symm h)]
  | _ => rfl
def isV (x : D) : Bool := match x with
  | .non => true
  | .tup [a, b] => isS a "text" && isText b 40 || (isS a "truth" && inR b 0 1 || isS a "error" && isW b ["kind", "zero", "size", "ring", "gone"])
  | _ => isNum x
theorem isV2 {x : D} (h1 : x ≠ .non) (h2 : tupN x 2 = false) : isV x = isNum x := by
  unfold isV
  split
  · exact absurd rfl h1
  · rename_i a b
    have : tupN (.tup [a, b]) 2 = true := rfl
    rw [this] at h2; cases h2
  · rfl
theorem is_non {st : Sto} {x : D} (h : x ≠ .non) : cmpW .Is (.d x) (.d .non) st = .ok (.d (.bl false)) st := by
  rw [cmp_is]
  cases x <;> first | rfl | exact absurd rfl h
theorem isn_non {st : Sto} {x : D} (h : x ≠ .non) : cmpW .IsNot (.d x) (.d .non) st = .ok (.d (.bl true)) st := by
  rw [cmp_isn]
  cases x <;> first | rfl | exact absurd rfl h
theorem s_ne {x : D} {s t : Str} (h : isS x s = true) (hn : (s == t) = false) : isS x t = false := by
  have := isS_eq.mp h
  subst this
  exact hn
/-- whether it is a text -/
def isStr : D → Bool
  | .str _ => true
  | _ => false
theorem iso_str {k : Nat} {x : D} {st : Sto} (h : pl k x = true) : isiO .str st (.d x) = some (isStr x) := by
  cases x with
  | dct _ => cases k <;> cases h
  | obj _ _ _ => cases k <;> cases h
  | exc _ _ _ => cases k <;> cases h
  | _ => rfl
theorem isS_not {x : D} (h : isStr x = false) (s : Str) : isS x s = false := by
  cases x <;> first | rfl | cases h
theorem isW_not {x : D} (h : isStr x = false) (ys : List Str) : isW x ys = false := by
  cases x <;> first | rfl | cases h
end LL

set_option Elab.async false
set_option linter.all false
set_option maxRecDepth 100000
set_option maxHeartbeats 1000000
set_option autoImplicit false
/-! M5g: a value by the law's words. -/
namespace LL
open PySem PySem.Spec PyProof.Rows L2
/-- a tuple whose first member is a text -/
def headS : D → Option D
  | .tup (a :: _) => if isStr a = true then some a else none
  | _ => none
section
variable {T : Tab} {C : Cal} {env : Ev} {st : Sto}
theorem eq_unit {x : D} (h : x.shp = true) : cmpW .Eq (.d x) (.d (.tup [])) st = .ok (.d (.bl (match x with | .tup [] => true | _ => false))) st := by
  rw [cmp_eq, eqO_dd h rfl]
  cases x with
  | tup xs => cases xs <;> rfl
  | _ => rfl
theorem ne_unit {x : D} (h : x.shp = true) : cmpW .NotEq (.d x) (.d (.tup [])) st = .ok (.d (.bl (!match x with | .tup [] => true | _ => false))) st := by
  rw [cmp_ne, eqO_dd h rfl]
  cases x with
  | tup xs => cases xs <;> rfl
  | _ => rfl
theorem ix1 {a b : D} {r : List D} : ixW (.d (.tup (a :: b :: r))) (.d (.int 1)) st = .ok (.d b) st := by
  show ofO ((atI (a :: b :: r) 1).map W.d) st = _
  have : atI (a :: b :: r) 1 = some b := by
    unfold atI ixN
    rw [if_pos (by omega), if_pos (by simp; omega)]
    rfl
  rw [this]; rfl
theorem ix2 {a b c : D} {r : List D} : ixW (.d (.tup (a :: b :: c :: r))) (.d (.int 2)) st = .ok (.d c) st := by
  show ofO ((atI (a :: b :: c :: r) 2).map W.d) st = _
  have : atI (a :: b :: c :: r) 2 = some c := by
    unfold atI ixN
    rw [if_pos (by omega), if_pos (by simp; omega)]
    rfl
  rw [this]; rfl
theorem ix0' {a : D} {r : List D} : atI (a :: r) 0 = some a := by
  unfold atI ixN
  rw [if_pos (by omega), if_pos (by simp)]
  rfl
theorem ix0 {a : D} {r : List D} : ixW (.d (.tup (a :: r))) (.d (.int 0)) st = .ok (.d a) st := by
  show ofO ((atI (a :: r) 0).map W.d) st = _
  rw [ix0']; rfl
theorem abs_int (i : Int) {m : Bool} : biW .abs m [.d (.int i)] st = .ok (.d (.int (i.natAbs : Int))) st := by
  show R.ok (W.d (.int (if i < 0 then -i else i))) st = _
  have : (if i < 0 then -i else i) = (i.natAbs : Int) := by split <;> omega
  rw [this]
end
theorem tupN_not {xs : List D} {n : Int} (h : ¬ (xs.length : Int) = n) : tupN (.tup xs) n = false := decide_eq_false h
end LL

set_option Elab.async false
set_option linter.all false
set_option maxRecDepth 100000
set_option maxHeartbeats 1000000
set_option autoImplicit false
/-! M5h: areas, leaves, parts. -/
namespace LL
open PySem PySem.Spec PyProof.Rows L2
def isCell (x : D) : Bool := match x with
  | .tup [_, b, c, d] => isName b && (isMark c && isMark d)
  | _ => false
def isArea (x : D) : Bool := match x with
  | .tup [a, b, c, d, e, f] => isS a "area" && (isName b && [c, d, e, f].all isMark)
  | _ => false
theorem tup6 {x : D} (h : tupN x 6 = true) : ∃ a b c d e f, x = .tup [a, b, c, d, e, f] := by
  unfold tupN at h
  split at h
  · rename_i xs
    have h := of_decide_eq_true h
    match xs, h with
    | [a, b, c, d, e, f], _ => exact ⟨a, b, c, d, e, f, rfl⟩
    | [], h => simp at h
    | [_], h => simp at h
    | [_, _], h => simp at h
    | [_, _, _], h => simp at h
    | [_, _, _, _], h => simp at h
    | [_, _, _, _, _], h => simp at h
    | _ :: _ :: _ :: _ :: _ :: _ :: _ :: _, h => simp at h; omega
  · cases h
theorem not_area {x : D} (h : tupN x 6 = false) : isArea x = false := by
  unfold isArea
  split
  · rename_i a b c d e f
    have : tupN (.tup [a, b, c, d, e, f]) 6 = true := rfl
    rw [this] at h; cases h
  · rfl
end LL

set_option Elab.async false
set_option linter.all false
set_option maxRecDepth 100000
set_option maxHeartbeats 1000000
set_option autoImplicit false
/-! M5i: leaves, members. -/
namespace LL
open PySem PySem.Spec PyProof.Rows L2
def kindOk (v : D) : Bool := match v with
  | .tup (b :: _) => isW b ["number", "text", "truth"]
  | _ => false
def isNon : D → Bool
  | .non => true
  | _ => false
def leafB (x : D) : Bool := match x with
  | .tup (a :: r) => if isS a "value" = true then (match r with
      | [v] => !isNon v && (isV v && kindOk v)
      | _ => false) else if isS a "here" = true then false else isS a "cell" && isCell x
  | _ => false
def signs : List Str := ["+", "-", "*", "/", "&", "=", "<"]
def words : List Str := ["sum", "count", "least", "most"]
def memO (x : D) : Option (List D) := match x with
  | .tup (a :: r) => if isS a "minus" = true then (match r with
      | [p] => some [p]
      | _ => none) else if isS a "op" = true then (match r with
      | [o, p, q] => if isW o signs = true then some [p, q] else none
      | _ => none) else if isS a "if" = true then (match r with
      | [o, p, q] => some [o, p, q]
      | _ => none) else if isS a "call" = true then (match r with
      | [o, .tup ms] => if isW o words = true ∧ 1 ≤ ms.length ∧ ms.length ≤ 6 then some ms else none
      | _ => none) else none
  | _ => none
def memD (x : D) : D := match memO x with
  | some ms => .tup ms
  | none => .non
theorem isS_str_ne {a : D} {s t : Str} (h : isS a s = true) (hn : (s == t) = false := by decide +kernel) : isS a t = false := s_ne h hn
theorem num_head {v : D} (h : isNum v = true) : ∃ r, v = .tup (.str "number" :: r) := by
  unfold isNum at h
  split at h
  · rename_i a b c
    have := isS_eq.mp (Bool.and_eq_true_iff.mp h).1
    subst this
    exact ⟨_, rfl⟩
  · cases h
theorem isV_head {v : D} (h : isV v = true) (hn : v ≠ .non) : ∃ s r, v = .tup (.str s :: r) ∧ (s = "number" ∨ s = "text" ∨ s = "truth" ∨ s = "error") := by
  unfold isV at h
  split at h
  · exact absurd rfl hn
  · rename_i a b
    simp only [Bool.or_eq_true, Bool.and_eq_true] at h
    rcases h with h | h | h
    · have := isS_eq.mp h.1; subst this; exact ⟨_, _, rfl, .inr (.inl rfl)⟩
    · have := isS_eq.mp h.1; subst this; exact ⟨_, _, rfl, .inr (.inr (.inl rfl))⟩
    · have := isS_eq.mp h.1; subst this; exact ⟨_, _, rfl, .inr (.inr (.inr rfl))⟩
  · obtain ⟨r, e⟩ := num_head h
    exact ⟨_, r, e, .inl rfl⟩
section
variable {a : D} {r : List D} {n k : Nat} {st : Sto}
theorem at0 {C : Cal} {st : Sto} {env : Ev} : ev tabT C (.ix (.var 0) (.lit (.int 0))) (some (.d (.tup (a :: r))) :: env) st = .ok (.d a) st := by
  show ixW (.d (.tup (a :: r))) (.d (.int 0)) st = _
  exact ix0
theorem len_eq {C : Cal} {env : Ev} {m : Int} : ev tabT C (.cmp .Eq (.bi .len false (.cons (.var 0) .nil)) (.lit (.int m))) (some (.d (.tup (a :: r))) :: env) st = .ok (.d (.bl (decide ((((a :: r).length : Nat) : Int) = m)))) st := cmp_eqi
theorem len_ne {C : Cal} {env : Ev} {m : Int} : ev tabT C (.cmp .NotEq (.bi .len false (.cons (.var 0) .nil)) (.lit (.int m))) (some (.d (.tup (a :: r))) :: env) st = .ok (.d (.bl (!decide ((((a :: r).length : Nat) : Int) = m)))) st := cmp_nei
end
end LL

set_option Elab.async false
set_option linter.all false
set_option maxRecDepth 100000
set_option maxHeartbeats 1000000
set_option autoImplicit false
/-! M5j: the parts by the law's words. -/
namespace LL
open PySem PySem.Spec PyProof.Rows L2
def partsO (x : D) : Option (List D) := if leafB x = true then some [] else memO x
def partsD (x : D) : D := match partsO x with
  | some ms => .tup ms
  | none => .non
theorem partsD_some {x : D} {ms : List D} (h : partsO x = some ms) : partsD x = .tup ms := by unfold partsD; rw [h]
theorem partsD_none {x : D} (h : partsO x = none) : partsD x = .non := by unfold partsD; rw [h]
theorem parts_leaf {x : D} (h : leafB x = true) : partsO x = some [] := if_pos h
theorem parts_mem {x : D} (h : leafB x = false) : partsO x = memO x := if_neg (by rw [h]; simp)
section
variable {a : D} {r : List D}
theorem leaf_no (h1 : isS a "value" = false) (h2 : isS a "cell" = false) : leafB (.tup (a :: r)) = false := by
  unfold leafB
  dsimp only
  rw [if_neg (by rw [h1]; simp), h2]
  split <;> rfl
theorem leaf_val (h : isS a "value" = true) : leafB (.tup (a :: r)) = (match r with
      | [v] => !isNon v && (isV v && kindOk v)
      | _ => false) := by
  unfold leafB
  dsimp only
  rw [if_pos h]
  first | done | rfl
theorem leaf_cell (h : isS a "cell" = true) : leafB (.tup (a :: r)) = isCell (.tup (a :: r)) := by
  unfold leafB
  dsimp only
  rw [if_neg (by rw [s_ne h (t := "value") (by decide +kernel)]; simp), if_neg (by rw [s_ne h (t := "here") (by decide +kernel)]; simp), h]
  rfl
theorem mem_no (h1 : isS a "minus" = false) (h2 : isS a "op" = false) (h3 : isS a "if" = false) (h4 : isS a "call" = false) : memO (.tup (a :: r)) = none := by
  unfold memO
  dsimp only
  rw [if_neg (by rw [h1]; simp), if_neg (by rw [h2]; simp), if_neg (by rw [h3]; simp), if_neg (by rw [h4]; simp)]
theorem parts_str (h : isStr a = false) : partsO (.tup (a :: r)) = none := by
  rw [parts_mem (leaf_no (isS_not h _) (isS_not h _))]
  exact mem_no (isS_not h _) (isS_not h _) (isS_not h _) (isS_not h _)
end
section
variable {a : D} {r : List D} {n k : Nat} {st : Sto}
end
theorem parts_shape {x : D} (h : ∀ a r, x = .tup (a :: r) → isStr a = false) : partsO x = none := by
  cases x with
  | tup xs => cases xs with
    | nil => rfl
    | cons a r => exact parts_str (h a r rfl)
  | _ => rfl
end LL

set_option Elab.async false
set_option linter.all false
set_option maxRecDepth 100000
set_option maxHeartbeats 1000000
set_option autoImplicit false
/-! M5k: the number of trees; size_of. -/
namespace LL
open PySem PySem.Spec PyProof.Rows L2
def isCall (x : D) : Bool := match x with
  | .tup (a :: _) => isS a "call"
  | _ => false
def sumO : List (Option Nat) → Option Nat
  | [] => some 0
  | none :: _ => none
  | some n :: r => (sumO r).map (n + ·)
def cnt : Nat → Bool → D → Option Nat
  | 0, _, _ => none
  | d + 1, m, x => if (m && isArea x) = true then some 1 else match partsO x with
    | none => none
    | some ps => (sumO (ps.map (cnt d (isCall x)))).map (1 + ·)
def sizeN (d : Nat) (x : D) : Nat := match cnt d false x with
  | some n => if n ≤ 40 then n else 0
  | none => 0
theorem cnt_pos {d : Nat} {m : Bool} {x : D} {n : Nat} (h : cnt d m x = some n) : 1 ≤ n := by
  cases d with
  | zero => cases h
  | succ d =>
    unfold cnt at h
    split at h
    · cases h; omega
    · split at h
      · cases h
      · rename_i ps e
        cases q : sumO (ps.map (cnt d (isCall x))) with
        | none => rw [q] at h; cases h
        | some s => rw [q] at h; cases h; exact Nat.le_add_right 1 s
theorem cnt_flag {d : Nat} {m : Bool} {x : D} (h : (m && isArea x) = false) : cnt d m x = cnt d false x := by
  cases d with
  | zero => rfl
  | succ d =>
    unfold cnt
    rw [if_neg (by rw [h]; simp), if_neg (by simp)]
theorem cnt_none {d : Nat} {m : Bool} {x : D} (hp : partsO x = none) (h : (m && isArea x) = false) : cnt d m x = none := by
  cases d with
  | zero => rfl
  | succ d =>
    unfold cnt
    rw [if_neg (by rw [h]; simp), hp]
/-- the parts of plain data are plain, six at most -/
theorem memO_pl {k : Nat} {x : D} {ms : List D} (h : pl (k + 1) x = true) (e : memO x = some ms) : (∀ y ∈ ms, pl k y = true) ∧ ms.length ≤ 6 := by
  cases x with
  | tup xs =>
    cases xs with
    | nil => cases e
    | cons a r =>
      obtain ⟨_, hm⟩ := pl_tup.mp h
      unfold memO at e
      dsimp only at e
      split at e
      · split at e
        · cases e
          exact ⟨fun y hy => hm y (by simp at hy ⊢; exact .inr hy), by simp⟩
        · cases e
      · split at e
        · split at e
          · split at e
            · cases e
              exact ⟨fun y hy => hm y (by simp at hy ⊢; rcases hy with rfl | rfl <;> simp), by simp⟩
            · cases e
          · cases e
        · split at e
          · split at e
            · cases e
              exact ⟨fun y hy => hm y (by simp at hy ⊢; rcases hy with rfl | rfl | rfl <;> simp), by simp⟩
            · cases e
          · split at e
            · split at e
              · split at e
                · rename_i o ms' c
                  cases e
                  have q := hm (.tup ms) (by simp)
                  refine ⟨fun y hy => ?_, c.2.2⟩
                  cases k with
                  | zero => cases q
                  | succ k => exact pl_mono ((pl_tup.mp q).2 y hy)
                · cases e
              · cases e
            · cases e
  | _ => cases e
theorem parts_pl {k : Nat} {x : D} {ms : List D} (h : pl (k + 1) x = true) (e : partsO x = some ms) : (∀ y ∈ ms, pl k y = true) ∧ ms.length ≤ 6 := by
  unfold partsO at e
  split at e
  · cases e
    exact ⟨fun y hy => by simp at hy, by simp⟩
  · exact memO_pl h e
def fin (d : Nat) (c : Bool) (t : Nat) (ms : List D) : Nat := match sumO (ms.map (cnt d c)) with
  | some s => if t + s ≤ 40 then t + s else 0
  | none => 0
theorem fin_some {d : Nat} {c : Bool} {t n : Nat} {y : D} {ms : List D} (h : cnt d c y = some n) : fin d c t (y :: ms) = fin d c (t + n) ms := by
  unfold fin
  rw [List.map_cons, h]
  show (match (sumO (ms.map (cnt d c))).map (n + ·) with | some s => if t + s ≤ 40 then t + s else 0 | none => 0) = _
  cases sumO (ms.map (cnt d c)) with
  | none => rfl
  | some s =>
    show (if t + (n + s) ≤ 40 then t + (n + s) else 0) = if t + n + s ≤ 40 then t + n + s else 0
    rw [Nat.add_assoc]
theorem fin_big {d : Nat} {c : Bool} {t : Nat} {ms : List D} (h : 40 < t) : fin d c t ms = 0 := by
  unfold fin
  split
  · rw [if_neg (by omega)]
  · rfl
theorem fin_none {d : Nat} {c : Bool} {t : Nat} {y : D} {ms : List D} (h : cnt d c y = none) : fin d c t (y :: ms) = 0 := by
  unfold fin
  rw [List.map_cons, h]
  rfl
/-- the loop's body, what stands behind it -/
def szB : CSs := (.cons (.ifs (.conj (.cmp .Eq (.ix (.var 0) (.lit (.int 0))) (.lit (.str "call"))) (.conj (.cmp .Gt (.var 1) (.lit (.int 1))) (.call 13 .pure (.cons (.var 5) (.nil))))) (.cons (.aug 4 .Add (.lit (.int 1))) (.cons .cont (.nil))) (.nil)) (.cons (.asg 6 (.call 14 .pure (.cons (.var 5) (.cons (.bin .Sub false (.var 1) (.lit (.int 1))) (.cons (.var 2) (.nil)))))) (.cons (.aug 4 .Add (.var 6)) (.cons (.ifs (.disj (.cmp .Eq (.var 6) (.lit (.int 0))) (.cmp .Gt (.var 4) (.gc 18))) (.cons (.ret (.lit (.int 0))) (.nil)) (.nil)) (.nil)))))
def szR : CSs := (.cons (.ret (.ifx (.cmp .LtE (.var 4) (.gc 18)) (.var 4) (.lit (.int 0)))) (.nil))
section
variable {C : Cal} {st : Sto} {a : D} {r : List D} {d k : Nat}
theorem sizeN_none {x : D} (h : partsO x = none) : sizeN d x = 0 := by
  unfold sizeN
  rw [cnt_none h (by simp)]
end
end LL

set_option Elab.async false
set_option linter.all false
set_option maxRecDepth 100000
set_option maxHeartbeats 1000000
set_option autoImplicit false
/-! M5l: is_tree, and the same by the law's words. -/
namespace LL
open PySem PySem.Spec PyProof.Rows L2
def isTree (x : D) : Bool := decide (0 < sizeN 12 x)
abbrev It3 := D × Nat × Bool
def itm (e : It3) : D := .tup [e.1, .int (e.2.1 : Int), .bl e.2.2]
def cnt3 (e : It3) : Option Nat := cnt (13 - e.2.1) e.2.2 e.1
def okL (N : Nat) (L : List It3) : Bool := match sumO (L.map cnt3) with
  | some s => decide (N + s ≤ 40)
  | none => false
theorem sumO_append : ∀ A B : List (Option Nat), sumO (A ++ B) = match sumO A, sumO B with
    | some a, some b => some (a + b)
    | _, _ => none
  | [], B => by
    show sumO B = match some 0, sumO B with
      | some a, some b => some (a + b)
      | _, _ => none
    cases sumO B <;> simp
  | none :: A, B => rfl
  | some n :: A, B => by
    show (sumO (A ++ B)).map (n + ·) = match (sumO A).map (n + ·), sumO B with
      | some a, some b => some (a + b)
      | _, _ => none
    rw [sumO_append A B]
    cases sumO A <;> cases sumO B <;> simp
    omega
theorem okL_last (N : Nat) (L : List It3) (e : It3) : okL N (L ++ [e]) = match sumO (L.map cnt3), cnt3 e with
    | some s, some n => decide (N + (s + n) ≤ 40)
    | _, _ => false := by
  unfold okL
  rw [List.map_append, sumO_append]
  show (match (match sumO (L.map cnt3), sumO [cnt3 e] with
    | some a, some b => some (a + b)
    | _, _ => none) with
    | some s => decide (N + s ≤ 40)
    | none => false) = _
  cases sumO (L.map cnt3) with
  | none => rfl
  | some s =>
    cases cnt3 e with
    | none => rfl
    | some n => rfl
theorem okL_app (N : Nat) (L M : List It3) : okL N (L ++ M) = match sumO (L.map cnt3), sumO (M.map cnt3) with
    | some s, some n => decide (N + (s + n) ≤ 40)
    | _, _ => false := by
  unfold okL
  rw [List.map_append, sumO_append]
  cases sumO (L.map cnt3) with
  | none => rfl
  | some s => cases sumO (M.map cnt3) <;> rfl
theorem mapO_d {k : Nat} {st : Sto} : ∀ xs : List D, mapO (frz k st) (xs.map .d) = some xs
  | [] => rfl
  | x :: xs => by
    rw [List.map_cons]
    unfold mapO
    rw [frz_d, mapO_d xs]
    rfl
def ltB : CSs := (.cons (.asgT [4, 5, 6] (.meth .pop false (.var 2) (.nil))) (.cons (.asg 3 (.bin .Add false (.var 3) (.lit (.int 1)))) (.cons (.ifs (.disj (.cmp .Gt (.var 3) (.lit (.int 40))) (.cmp .Gt (.var 5) (.lit (.int 12)))) (.cons (.ret (.lit (.bool false))) (.nil)) (.nil)) (.cons (.ifs (.bnot (.conj (.var 6) (.call 32 .pure (.cons (.var 4) (.nil))))) (.cons (.asg 7 (.call 33 .pure (.cons (.var 4) (.cons (.var 1) (.nil))))) (.cons (.ifs (.cmp .Is (.var 7) (.lit .none)) (.cons (.ret (.lit (.bool false))) (.nil)) (.nil)) (.cons (.asg 2 (.bin .Add true (.var 2) (.comp false (.tup (.cons (.var 8) (.cons (.bin .Add false (.var 5) (.lit (.int 1))) (.cons (.cmp .Eq (.ix (.var 4) (.lit (.int 0))) (.lit (.str "call"))) (.nil))))) (.v 8) (.e (.var 7)) [8]))) (.nil)))) (.nil)) (.nil)))))
def ltC : CE := .cmp .NotEq (.var 2) (.lst false (.nil))
def ltR : CSs := (.cons (.ret (.lit (.bool true))) (.nil))
theorem getV_ev {T : Tab} {C : Cal} {env : Ev} {i : Nat} {st : Sto} : ev T C (.var i) env st = getV env i st := rfl
theorem setL_at {st : Sto} {r : Nat} {o : Ob} {ws : List W} (h : st[r]? = some o) : (setL st r ws)[r]? = some (.lst ws) := by
  unfold setL
  rw [List.getElem?_set_self (List.getElem?_eq_some_iff.mp h).1]
section
variable {C : Cal} {k : Nat} {x0 : D}
end
end LL

set_option Elab.async false
set_option linter.all false
set_option maxRecDepth 100000
set_option maxHeartbeats 1000000
set_option autoImplicit false
/-! M5m: draws: what they come to is told by a property alone. -/
namespace LL
open PySem PySem.Spec PyProof.Rows L2
/-- a box at i -/
def Bx (i : Nat) (st : Sto) : Prop := ∃ a b : Nat, st[i]? = some (.lst [.d (.int (a : Int)), .d (.int (b : Int))]) ∧ b < 2 ^ 40
/-- all else as it was -/
def Sm (i : Nat) (st st' : Sto) : Prop := st.length ≤ st'.length ∧ ∀ j, j < st.length → j ≠ i → st'[j]? = st[j]?
theorem Sm.refl {i : Nat} {st : Sto} : Sm i st st := ⟨Nat.le_refl _, fun _ _ _ => rfl⟩
theorem Sm.trans {i : Nat} {a b c : Sto} (h : Sm i a b) (k : Sm i b c) : Sm i a c := ⟨Nat.le_trans h.1 k.1, fun j h1 h2 => (k.2 j (Nat.lt_of_lt_of_le h1 h.1) h2).trans (h.2 j h1 h2)⟩
theorem Bx.lt {i : Nat} {st : Sto} (h : Bx i st) : i < st.length := by
  obtain ⟨a, b, e, _⟩ := h
  exact (List.getElem?_eq_some_iff.mp e).1
/-- ends with data that P tells -/
def DO (i : Nat) (st : Sto) (r : R W) (P : D → Prop) : Prop := ∃ x st', r = .ok (.d x) st' ∧ Bx i st' ∧ Sm i st st' ∧ P x
def DOs (i : Nat) (st : Sto) (r : R (List W)) (P : List D → Prop) : Prop := ∃ xs st', r = .ok (xs.map .d) st' ∧ Bx i st' ∧ Sm i st st' ∧ P xs
theorem DO.imp {i : Nat} {st : Sto} {r : R W} {P Q : D → Prop} (h : DO i st r P) (k : ∀ x, P x → Q x) : DO i st r Q := by
  obtain ⟨x, st', e, b, s, p⟩ := h
  exact ⟨x, st', e, b, s, k x p⟩
theorem DO.here {i : Nat} {st : Sto} {x : D} {P : D → Prop} (b : Bx i st) (p : P x) : DO i st (.ok (.d x) st) P := ⟨x, st, rfl, b, Sm.refl, p⟩
section
variable (T : Tab) (C : Cal) (env : Ev) (i : Nat)
def Dr (e : CE) (P : D → Prop) : Prop := ∀ st, Bx i st → DO i st (ev T C e env st) P
def DrL (es : CEs) (P : List D → Prop) : Prop := ∀ st, Bx i st → DOs i st (evs T C es env st) P
end
section
variable {T : Tab} {C : Cal} {env : Ev} {i : Nat}
theorem Dr.imp {e : CE} {P Q : D → Prop} (h : Dr T C env i e P) (k : ∀ x, P x → Q x) : Dr T C env i e Q := fun st b => (h st b).imp k
theorem dr_pure {e : CE} {x : D} {P : D → Prop} (h : ∀ st, ev T C e env st = .ok (.d x) st) (p : P x) : Dr T C env i e P := fun st b => by
  rw [h st]
  exact DO.here b p
theorem drl_nil {P : List D → Prop} (p : P []) : DrL T C env i .nil P := fun st b => ⟨[], st, rfl, b, Sm.refl, p⟩
theorem drl_cons {e : CE} {es : CEs} {P : D → Prop} {Q : List D → Prop} (h : Dr T C env i e P) (k : DrL T C env i es Q) : DrL T C env i (.cons e es) (fun xs => ∃ x r, xs = x :: r ∧ P x ∧ Q r) := fun st b => by
  obtain ⟨x, st1, e1, b1, s1, p⟩ := h st b
  obtain ⟨r, st2, e2, b2, s2, q⟩ := k st1 b1
  refine ⟨x :: r, st2, ?_, b2, s1.trans s2, x, r, rfl, p, q⟩
  rw [evs_cons, e1, R.bind_ok, e2]
  rfl
theorem DrL.imp {es : CEs} {P Q : List D → Prop} (h : DrL T C env i es P) (k : ∀ x, P x → Q x) : DrL T C env i es Q := fun st b => by
  obtain ⟨x, st', e, b, s, p⟩ := h st b
  exact ⟨x, st', e, b, s, k x p⟩
theorem allD_m : ∀ xs : List D, allD (xs.map .d) = some xs
  | [] => rfl
  | x :: xs => by rw [List.map_cons, allD_cons, allD_m xs]; rfl
theorem dr_tup {es : CEs} {P : List D → Prop} {Q : D → Prop} (h : DrL T C env i es P) (k : ∀ xs, P xs → xs.length ≤ 1000 ∧ Q (.tup xs)) : Dr T C env i (.tup es) Q := fun st b => by
  obtain ⟨xs, st1, e1, b1, s1, p⟩ := h st b
  refine ⟨.tup xs, st1, ?_, b1, s1, (k xs p).2⟩
  rw [ev_tup, e1, R.bind_ok, allD_m]
  dsimp only
  rw [if_pos (by rw [sizeLine_eq]; have := (k xs p).1; omega)]
theorem dr_lst {es : CEs} {P : List D → Prop} {Q : D → Prop} (h : DrL T C env i es P) (k : ∀ xs, P xs → xs.length ≤ 1000 ∧ Q (.lst xs)) : Dr T C env i (.lst false es) Q := fun st b => by
  obtain ⟨xs, st1, e1, b1, s1, p⟩ := h st b
  refine ⟨.lst xs, st1, ?_, b1, s1, (k xs p).2⟩
  rw [ev_lst, e1, R.bind_ok, newL_d (m := false) (by rw [sizeLine_eq]; have := (k xs p).1; omega)]
/-- one after another, then f -/
theorem dr_bin {op : Operator} {a b : CE} {P Q R' : D → Prop} (ha : Dr T C env i a P) (hb : Dr T C env i b Q) (k : ∀ x y, P x → Q y → ∀ st, ∃ z, binW op false (.d x) (.d y) st = .ok (.d z) st ∧ R' z) : Dr T C env i (.bin op false a b) R' := fun st bx => by
  obtain ⟨x, st1, e1, b1, s1, p⟩ := ha st bx
  obtain ⟨y, st2, e2, b2, s2, q⟩ := hb st1 b1
  obtain ⟨z, e3, r⟩ := k x y p q st2
  exact ⟨z, st2, by rw [ev_bin, e1, R.bind_ok, e2, R.bind_ok, e3], b2, s1.trans s2, r⟩
theorem dr_cmp {op : CmpOp} {a b : CE} {P Q R' : D → Prop} (ha : Dr T C env i a P) (hb : Dr T C env i b Q) (k : ∀ x y, P x → Q y → ∀ st, ∃ z, cmpW op (.d x) (.d y) st = .ok (.d z) st ∧ R' z) : Dr T C env i (.cmp op a b) R' := fun st bx => by
  obtain ⟨x, st1, e1, b1, s1, p⟩ := ha st bx
  obtain ⟨y, st2, e2, b2, s2, q⟩ := hb st1 b1
  obtain ⟨z, e3, r⟩ := k x y p q st2
  exact ⟨z, st2, by rw [ev_cmp, e1, R.bind_ok, e2, R.bind_ok, e3], b2, s1.trans s2, r⟩
theorem dr_ix {a b : CE} {P Q R' : D → Prop} (ha : Dr T C env i a P) (hb : Dr T C env i b Q) (k : ∀ x y, P x → Q y → ∀ st, ∃ z, ixW (.d x) (.d y) st = .ok (.d z) st ∧ R' z) : Dr T C env i (.ix a b) R' := fun st bx => by
  obtain ⟨x, st1, e1, b1, s1, p⟩ := ha st bx
  obtain ⟨y, st2, e2, b2, s2, q⟩ := hb st1 b1
  obtain ⟨z, e3, r⟩ := k x y p q st2
  exact ⟨z, st2, by rw [ev_ix, e1, R.bind_ok, e2, R.bind_ok, e3], b2, s1.trans s2, r⟩
def IsB (x : D) : Prop := ∃ k, x = .bl k
theorem dr_if {c a b : CE} {P : D → Prop} (hc : Dr T C env i c IsB) (ha : Dr T C env i a P) (hb : Dr T C env i b P) : Dr T C env i (.ifx c a b) P := fun st bx => by
  obtain ⟨x, st1, e1, b1, s1, k, rfl⟩ := hc st bx
  have : DO i st1 (condR (some k) (ev T C a env st1) (ev T C b env st1)) P := by
    cases k with
    | true => exact ha st1 b1
    | false => exact hb st1 b1
  obtain ⟨y, st2, e2, b2, s2, p⟩ := this
  refine ⟨y, st2, ?_, b2, s1.trans s2, p⟩
  rw [ev_ifx, e1]
  exact e2
theorem dr_and {a b : CE} (ha : Dr T C env i a IsB) (hb : Dr T C env i b IsB) : Dr T C env i (.conj a b) IsB := fun st bx => by
  obtain ⟨x, st1, e1, b1, s1, k, rfl⟩ := ha st bx
  have : DO i st1 (condR (some k) (ev T C b env st1) (.ok (.d (.bl k)) st1)) IsB := by
    cases k with
    | true => exact hb st1 b1
    | false => exact DO.here b1 ⟨false, rfl⟩
  obtain ⟨y, st2, e2, b2, s2, p⟩ := this
  refine ⟨y, st2, ?_, b2, s1.trans s2, p⟩
  rw [ev_conj, e1]
  exact e2
theorem dr_or {a b : CE} (ha : Dr T C env i a IsB) (hb : Dr T C env i b IsB) : Dr T C env i (.disj a b) IsB := fun st bx => by
  obtain ⟨x, st1, e1, b1, s1, k, rfl⟩ := ha st bx
  have : DO i st1 (condR (some k) (.ok (.d (.bl k)) st1) (ev T C b env st1)) IsB := by
    cases k with
    | true => exact DO.here b1 ⟨true, rfl⟩
    | false => exact hb st1 b1
  obtain ⟨y, st2, e2, b2, s2, p⟩ := this
  refine ⟨y, st2, ?_, b2, s1.trans s2, p⟩
  rw [ev_disj, e1]
  exact e2
/-- a call with the box -/
theorem dr_box {f : Nat} {fd : FD} {es : CEs} {j : Nat} {P : List D → Prop} {Q : D → Prop} (hf : T.fn f = some fd) (hj : ∀ st, getV env j st = .ok (.ref i) st) (h : DrL T C env i es P) (k : ∀ xs, P xs → ∀ st, Bx i st → DO i st (C f (.ref i :: xs.map .d) st) Q) : Dr T C env i (.call f .sh (.cons (.var j) es)) Q := fun st bx => by
  obtain ⟨xs, st1, e1, b1, s1, p⟩ := h st bx
  obtain ⟨y, st2, e2, b2, s2, q⟩ := k xs p st1 b1
  refine ⟨y, st2, ?_, b2, s1.trans s2, q⟩
  rw [ev_call hf, evs_cons, getV_ev, hj, R.bind_ok, e1, R.bind_ok, R.bind_ok]
  exact e2
/-! ### statements -/
/-- returns data that P tells -/
def SO (i : Nat) (st : Sto) (f : F) (P : D → Prop) : Prop := ∃ x st', f = .ret (.d x) st' ∧ Bx i st' ∧ Sm i st st' ∧ P x
theorem SO.out {st : Sto} {f : F} {P : D → Prop} (h : SO i st f P) : DO i st f.out P := by
  obtain ⟨x, st', rfl, b, s, p⟩ := h
  exact ⟨x, st', rfl, b, s, p⟩
theorem SO.imp {st : Sto} {f : F} {P Q : D → Prop} (h : SO i st f P) (k : ∀ x, P x → Q x) : SO i st f Q := by
  obtain ⟨x, st', e, b, s, p⟩ := h
  exact ⟨x, st', e, b, s, k x p⟩
theorem SO.pre {st st1 : Sto} {f : F} {P : D → Prop} (h : SO i st1 f P) (s : Sm i st st1) : SO i st f P := by
  obtain ⟨x, st', e, b, s', p⟩ := h
  exact ⟨x, st', e, b, s.trans s', p⟩
theorem so_ret {e : CE} {r : CSs} {st : Sto} {P : D → Prop} (h : Dr T C env i e P) (b : Bx i st) : SO i st (execs T C (.cons (.ret e) r) env st) P := by
  obtain ⟨x, st1, e1, b1, s1, p⟩ := h st b
  exact ⟨x, st1, ret_ok e1, b1, s1, p⟩
theorem so_asg {j : Nat} {e : CE} {r : CSs} {st : Sto} {P Q : D → Prop} (h : Dr T C env i e Q) (b : Bx i st) (k : ∀ x, Q x → ∀ st', Bx i st' → SO i st' (execs T C r (setV env j (.d x)) st') P) : SO i st (execs T C (.cons (.asg j e) r) env st) P := by
  obtain ⟨x, st1, e1, b1, s1, p⟩ := h st b
  rw [asg_ok e1]
  exact (k x p st1 b1).pre s1
/-- if c: what returns; the rest -/
theorem so_if {c : CE} {a r : CSs} {st : Sto} {P : D → Prop} (h : Dr T C env i c IsB) (b : Bx i st) (h1 : ∀ st', Bx i st' → SO i st' (execs T C a env st') P) (h2 : ∀ st', Bx i st' → SO i st' (execs T C r env st') P) : SO i st (execs T C (.cons (.ifs c a .nil) r) env st) P := by
  obtain ⟨x, st1, e1, b1, s1, k, rfl⟩ := h st b
  rw [if_ok e1]
  cases k with
  | true =>
    obtain ⟨y, st2, e2, b2, s2, q⟩ := h1 st1 b1
    rw [condF_true, e2]
    exact ⟨y, st2, rfl, b2, s1.trans s2, q⟩
  | false =>
    rw [condF_false, exs_nil, seqF_nx]
    exact (h2 st1 b1).pre s1
theorem so_ifk {c : CE} {a r : CSs} {st : Sto} {P : D → Prop} {k : Bool} (h : ∀ st, ev T C c env st = .ok (.d (.bl k)) st) (b : Bx i st) (h1 : k = true → SO i st (execs T C a env st) P) (h2 : k = false → SO i st (execs T C r env st) P) : SO i st (execs T C (.cons (.ifs c a .nil) r) env st) P := by
  rw [if_ok (h st)]
  cases k with
  | true =>
    obtain ⟨y, st2, e2, b2, s2, q⟩ := h1 rfl
    rw [condF_true, e2]
    exact ⟨y, st2, rfl, b2, s2, q⟩
  | false =>
    rw [condF_false, exs_nil, seqF_nx]
    exact h2 rfl
theorem so_par {is : List Nat} {es : CEs} {r : CSs} {st : Sto} {P : D → Prop} {Q : List D → Prop} (h : DrL T C env i es Q) (b : Bx i st) (k : ∀ xs, Q xs → ∃ env', setWs env is (xs.map .d) = some env' ∧ ∀ st', Bx i st' → SO i st' (execs T C r env' st') P) : SO i st (execs T C (.cons (.par is es) r) env st) P := by
  obtain ⟨xs, st1, e1, b1, s1, p⟩ := h st b
  obtain ⟨env', e2, h2⟩ := k xs p
  have e3 : exec T C (.par is es) env st = .nx env' st1 := by
    show (evs T C es env st).thn env _ = _
    rw [e1]
    show (match setWs env is (xs.map .d) with
      | some env' => F.nx env' st1
      | none => .bad) = _
    rw [e2]
  rw [exs_cons, e3, seqF_nx]
  exact (h2 st1 b1).pre s1
/-- a call by data alone -/
theorem dr_call {f : Nat} {fd : FD} {es : CEs} {P : List D → Prop} {Q : D → Prop} (hf : T.fn f = some fd) (h : DrL T C env i es P) (k : ∀ xs, P xs → ∃ y st', C f (xs.map .d) [] = .ok (.d y) st' ∧ Q y) : Dr T C env i (.call f .pure es) Q := fun st bx => by
  obtain ⟨xs, st1, e1, b1, s1, p⟩ := h st bx
  obtain ⟨y, st', e2, q⟩ := k xs p
  refine ⟨y, st1, ?_, b1, s1, q⟩
  rw [ev_call hf, e1, R.bind_ok]
  exact call_pure (allD_m xs) e2
/-- the elements of a display -/
theorem drl_one {e : CE} {P : D → Prop} (h : Dr T C env i e P) : DrL T C env i (.cons e .nil) (fun xs => ∃ x, xs = [x] ∧ P x) := DrL.imp (drl_cons h (drl_nil (P := fun l => l = []) rfl)) fun l q => by
  obtain ⟨x, r, rfl, p, rfl⟩ := q
  exact ⟨x, rfl, p⟩
theorem drl_all {P : D → Prop} {n : Nat} {e : CE} {es : CEs} (h : Dr T C env i e P) (k : DrL T C env i es (fun l => l.length = n ∧ ∀ x ∈ l, P x)) : DrL T C env i (.cons e es) (fun l => l.length = n + 1 ∧ ∀ x ∈ l, P x) := DrL.imp (drl_cons h k) fun l q => by
  obtain ⟨x, r, rfl, p, q, q2⟩ := q
  exact ⟨by rw [List.length_cons, q], fun y hy => by
    rcases List.mem_cons.mp hy with rfl | hy
    · exact p
    · exact q2 y hy⟩
theorem drl_end {P : D → Prop} : DrL T C env i .nil (fun l => l.length = 0 ∧ ∀ x ∈ l, P x) := drl_nil ⟨rfl, fun x hx => by cases hx⟩
end
/-! ### take, pick -/
def IsN (m : Nat) (x : D) : Prop := ∃ n : Nat, n < m ∧ x = .int (n : Int)
theorem bx_set {i : Nat} {st : Sto} (h : Bx i st) (a b : Nat) (hb : b < 2 ^ 40) : Bx i (setL st i [.d (.int (a : Int)), .d (.int (b : Int))]) ∧ Sm i st (setL st i [.d (.int (a : Int)), .d (.int (b : Int))]) := by
  refine ⟨⟨a, b, ?_, hb⟩, by unfold setL; rw [List.length_set]; exact Nat.le_refl _, fun j _ hj => ?_⟩
  · unfold setL
    rw [List.getElem?_set_self h.lt]
  · unfold setL
    rw [List.getElem?_set_ne (Ne.symm hj)]
theorem emod_nat (a m : Nat) : ((a : Int) % (m : Int)) = ((a % m : Nat) : Int) := rfl
theorem ediv_nat (a m : Nat) : ((a : Int) / (m : Int)) = ((a / m : Nat) : Int) := rfl
theorem mod_nat {a m : Nat} (hm : 0 < m) (st : Sto) : binW .Mod false (.d (.int (a : Int))) (.d (.int (m : Int))) st = .ok (.d (.int ((a % m : Nat) : Int))) st := by
  show ofO ((binI .Mod (a : Int) (m : Int)).map fun k => W.d (.int k)) st = _
  have : binI .Mod (a : Int) (m : Int) = some ((a % m : Nat) : Int) := by
    show (if 0 < (m : Int) then some ((a : Int) % (m : Int)) else none) = _
    rw [if_pos (by omega)]
    rfl
  rw [this]
  rfl
theorem log2_lt {n k : Nat} (h : n < 2 ^ k) (hk : 0 < k) : n.log2 < k := by
  by_cases z : n = 0
  · subst z; rw [Nat.log2_zero]; exact hk
  · exact (Nat.log2_lt z).mpr h
theorem div_nat {a m : Nat} (hm : 0 < m) (h2 : m < 2 ^ 100) (st : Sto) : binW .FloorDiv false (.d (.int (a : Int))) (.d (.int (m : Int))) st = .ok (.d (.int ((a / m : Nat) : Int))) st := by
  show ofO ((binI .FloorDiv (a : Int) (m : Int)).map fun k => W.d (.int k)) st = _
  have : binI .FloorDiv (a : Int) (m : Int) = some ((a / m : Nat) : Int) := by
    show (if 0 < (m : Int) ∧ (m : Int).natAbs.log2 < 9000 then some ((a : Int) / (m : Int)) else none) = _
    rw [if_pos ⟨by omega, by
      have : ((m : Int).natAbs) = m := rfl
      rw [this]
      have := log2_lt h2 (by omega)
      omega⟩]
    rfl
  rw [this]
  rfl
theorem mul_nat {a b : Nat} (ha : a < 2 ^ 200) (hb : b < 2 ^ 200) (st : Sto) : binW .Mult false (.d (.int (a : Int))) (.d (.int (b : Int))) st = .ok (.d (.int ((a * b : Nat) : Int))) st := by
  show ofO ((binI .Mult (a : Int) (b : Int)).map fun k => W.d (.int k)) st = _
  have : binI .Mult (a : Int) (b : Int) = some ((a * b : Nat) : Int) := by
    show (if (a : Int).natAbs.log2 + (b : Int).natAbs.log2 < 1000000 then some ((a : Int) * (b : Int)) else none) = _
    rw [if_pos (by
      have e1 : ((a : Int).natAbs) = a := rfl
      have e2 : ((b : Int).natAbs) = b := rfl
      rw [e1, e2]
      have := log2_lt ha (by omega)
      have := log2_lt hb (by omega)
      omega)]
    rfl
  rw [this]
  rfl
theorem add_int {a b : Int} (st : Sto) : binW .Add false (.d (.int a)) (.d (.int b)) st = .ok (.d (.int (a + b))) st := rfl
theorem ixr0 {st : Sto} {i : Nat} {a b : W} (h : st[i]? = some (.lst [a, b])) : ixW (.ref i) (.d (.int 0)) st = .ok a st := by
  show (match st[i]? with
      | some (.lst ws) => ofO (atI ws 0) st
      | _ => .bad) = _
  rw [h]
  rfl
theorem ixr1 {st : Sto} {i : Nat} {a b : W} (h : st[i]? = some (.lst [a, b])) : ixW (.ref i) (.d (.int 1)) st = .ok b st := by
  show (match st[i]? with
      | some (.lst ws) => ofO (atI ws 1) st
      | _ => .bad) = _
  rw [h]
  rfl
theorem r16 {n i m : Nat} {st : Sto} (b : Bx i st) (hm : 0 < m) (h2 : m < 2 ^ 100) : DO i st (run tabT (n + 1) 16 [.ref i, .d (.int (m : Int))] st) (IsN m) := by
  have b0 := b
  obtain ⟨a, c, e, hc⟩ := b
  rw [run_eq (fd := fd16) rfl rfl]
  show DO i st (execs tabT (run tabT n) b16 [some (.ref i), some (.d (.int (m : Int))), none] st).out _
  unfold b16
  have hc0 : ev tabT (run tabT n) (.cmp .Gt (.ix (.var 0) (.lit (.int 0))) (.lit (.int 0))) [some (.ref i), some (.d (.int (m : Int))), none] st = .ok (.d (.bl (decide ((0 : Int) < (a : Int))))) st := by
    show ((ixW (.ref i) (.d (.int 0)) st).bind fun x st => cmpW .Gt x (.d (.int 0)) st) = _
    rw [ixr0 e]
    exact cmp_gt
  rw [if_ok hc0]
  by_cases z : (0 : Int) < (a : Int)
  · rw [decide_eq_true z, condF_true]
    have hg : ev tabT (run tabT n) (.bin .Mod false (.bi .int false (.cons (.ix (.var 0) (.lit (.int 0))) (.nil))) (.var 1)) [some (.ref i), some (.d (.int (m : Int))), none] st = .ok (.d (.int ((a % m : Nat) : Int))) st := by
      show ((((ixW (.ref i) (.d (.int 0)) st).bind fun w st => (R.ok [] st).bind fun ws st => R.ok (w :: ws) st).bind fun ws st => biW .int false ws st).bind fun x st => binW .Mod false x (.d (.int (m : Int))) st) = _
      rw [ixr0 e]
      exact mod_nat hm st
    rw [asg_ok hg]
    have hs : execs tabT (run tabT n) (.cons (.setIx (.var 0) (.lit (.int 0)) (.bin .FloorDiv false (.ix (.var 0) (.lit (.int 0))) (.var 1))) (.cons (.ret (.var 2)) (.nil))) [some (.ref i), some (.d (.int (m : Int))), some (.d (.int ((a % m : Nat) : Int)))] st = .ret (.d (.int ((a % m : Nat) : Int))) (setL st i [.d (.int ((a / m : Nat) : Int)), .d (.int (c : Int))]) := by
      show seqF (((((ixW (.ref i) (.d (.int 0)) st).bind fun x st => binW .FloorDiv false x (.d (.int (m : Int))) st)).thn _ fun v st => (match setI (.ref i) (.d (.int 0)) v st with
        | some st' => F.nx [some (.ref i), some (.d (.int (m : Int))), some (.d (.int ((a % m : Nat) : Int)))] st'
        | none => .bad))) _ = _
      rw [ixr0 e, R.bind_ok, div_nat hm h2]
      show seqF (match setI (.ref i) (.d (.int 0)) (.d (.int ((a / m : Nat) : Int))) st with
        | some st' => F.nx [some (.ref i), some (.d (.int (m : Int))), some (.d (.int ((a % m : Nat) : Int)))] st'
        | none => .bad) _ = _
      rw [setI_ref, e]
      rfl
    refine ⟨_, _, congrArg F.out (congrArg (fun f => seqF f _) hs), (bx_set b0 _ _ hc).1, (bx_set b0 _ _ hc).2, a % m, Nat.mod_lt _ hm, rfl⟩
  · rw [decide_eq_false z, condF_false, exs_nil, seqF_nx]
    generalize hk : (c * 39373 + 69621) % 2147483647 = k
    have hk2 : k < 2 ^ 40 := by
      have := Nat.mod_lt (c * 39373 + 69621) (show 0 < 2147483647 by omega)
      omega
    have hv : ev tabT (run tabT n) (.bin .Mod false (.bi .int false (.cons (.bin .Add false (.bin .Mult false (.ix (.var 0) (.lit (.int 1))) (.lit (.int 39373))) (.lit (.int 69621))) (.nil))) (.lit (.int 2147483647))) [some (.ref i), some (.d (.int (m : Int))), none] st = .ok (.d (.int (k : Int))) st := by
      show (((((ixW (.ref i) (.d (.int 1)) st).bind fun x st => binW .Mult false x (.d (.int ((39373 : Nat) : Int))) st).bind fun x st => binW .Add false x (.d (.int ((69621 : Nat) : Int))) st).bind fun w st => (R.ok [] st).bind fun ws st => R.ok (w :: ws) st).bind fun ws st => biW .int false ws st).bind (fun x st => binW .Mod false x (.d (.int ((2147483647 : Nat) : Int))) st) = _
      rw [ixr1 e, R.bind_ok, mul_nat (by omega) (by omega), R.bind_ok, add_int]
      show binW .Mod false (.d (.int ((c * 39373 : Nat) + (69621 : Nat) : Int))) (.d (.int ((2147483647 : Nat) : Int))) st = _
      rw [show ((c * 39373 : Nat) : Int) + ((69621 : Nat) : Int) = ((c * 39373 + 69621 : Nat) : Int) by omega, mod_nat (by omega), hk]
    have hs : exec tabT (run tabT n) (.setIx (.var 0) (.lit (.int 1)) (.bin .Mod false (.bi .int false (.cons (.bin .Add false (.bin .Mult false (.ix (.var 0) (.lit (.int 1))) (.lit (.int 39373))) (.lit (.int 69621))) (.nil))) (.lit (.int 2147483647)))) [some (.ref i), some (.d (.int (m : Int))), none] st = .nx [some (.ref i), some (.d (.int (m : Int))), none] (setL st i [.d (.int (a : Int)), .d (.int (k : Int))]) := by
      show (ev tabT (run tabT n) (.bin .Mod false _ _) _ st).thn _ _ = _
      rw [hv]
      show (match setI (.ref i) (.d (.int 1)) (.d (.int (k : Int))) st with
        | some st' => F.nx [some (.ref i), some (.d (.int (m : Int))), none] st'
        | none => .bad) = _
      rw [setI_ref, e]
      rfl
    obtain ⟨b1, s1⟩ := bx_set b0 a k hk2
    have e1 : (setL st i [.d (.int (a : Int)), .d (.int (k : Int))])[i]? = some (.lst [.d (.int (a : Int)), .d (.int (k : Int))]) := setL_at e
    generalize setL st i [.d (.int (a : Int)), .d (.int (k : Int))] = st1 at hs b1 s1 e1
    have hr : ev tabT (run tabT n) (.bin .Mod false (.bi .int false (.cons (.bin .FloorDiv false (.ix (.var 0) (.lit (.int 1))) (.lit (.int 8191))) (.nil))) (.var 1)) [some (.ref i), some (.d (.int (m : Int))), none] st1 = .ok (.d (.int ((k / 8191 % m : Nat) : Int))) st1 := by
      show (((((ixW (.ref i) (.d (.int 1)) st1).bind fun x st => binW .FloorDiv false x (.d (.int ((8191 : Nat) : Int))) st).bind fun w st => (R.ok [] st).bind fun ws st => R.ok (w :: ws) st).bind fun ws st => biW .int false ws st).bind (fun x st => binW .Mod false x (.d (.int (m : Int))) st)) = _
      rw [ixr1 e1, R.bind_ok, div_nat (by omega) (by omega)]
      exact mod_nat hm st1
    refine ⟨_, st1, ?_, b1, s1, k / 8191 % m, Nat.mod_lt _ hm, rfl⟩
    rw [exs_cons, hs, seqF_nx, ret_ok hr]
    rfl
/-- something among these -/
theorem r18 {n i : Nat} {st : Sto} {xs : List D} {P : D → Prop} (b : Bx i st) (h0 : 0 < xs.length) (h1 : xs.length ≤ 1000) (hp : ∀ x ∈ xs, P x) (c : D) (hc : c = .lst xs ∨ c = .tup xs) : DO i st (run tabT (n + 2) 18 [.ref i, .d c] st) P := by
  rw [run_eq (fd := fd18) rfl rfl]
  show DO i st (execs tabT (run tabT (n + 1)) b18 [some (.ref i), some (.d c)] st).out P
  refine SO.out ?_
  have hlen : ∀ st, ev tabT (run tabT (n + 1)) (.bi .len false (.cons (.var 1) .nil)) [some (.ref i), some (.d c)] st = .ok (.d (.int ((xs.length : Nat) : Int))) st := fun st => by
    rcases hc with rfl | rfl <;> rfl
  refine so_ret (dr_ix (P := fun x => x = c) (dr_pure (fun _ => rfl) rfl) (dr_box (Q := IsN xs.length) (P := fun l => l = [.int ((xs.length : Nat) : Int)]) (fd := fd16) rfl (fun _ => rfl) (DrL.imp (drl_cons (dr_pure hlen (P := fun x => x = .int ((xs.length : Nat) : Int)) rfl) (drl_nil (P := fun l => l = []) rfl)) fun l h => by obtain ⟨x, r, rfl, rfl, rfl⟩ := h; rfl) fun l h st b => by subst h; exact r16 b h0 (by omega)) fun x y hx hy st => ?_) b
  subst hx
  obtain ⟨j, hj, rfl⟩ := hy
  have hat : atI xs (j : Int) = some xs[j] := by
    unfold atI ixN
    rw [if_pos (by omega), if_pos (by omega)]
    show xs[(j : Int).toNat]? = _
    rw [Int.toNat_natCast]
    exact List.getElem?_eq_getElem hj
  refine ⟨xs[j], ?_, hp _ (List.getElem_mem hj)⟩
  rcases hc with rfl | rfl
  · show ofO ((atI xs (j : Int)).map W.d) st = _
    rw [hat]; rfl
  · show ofO ((atI xs (j : Int)).map W.d) st = _
    rw [hat]; rfl
/-! ### small data -/
def sm : Nat → D → Bool
  | _, .non => true
  | _, .bl _ => true
  | _, .int i => decide (i.natAbs < 1000000000000000000000000000000)
  | _, .str s => decide (s.length ≤ 900) && PyData.strOk s
  | k + 1, .tup xs => decide (xs.length ≤ 900) && xs.all (sm k)
  | k + 1, .lst xs => decide (xs.length ≤ 900) && xs.all (sm k)
  | _, _ => false
theorem sm_str {k : Nat} {s : Str} : sm k (.str s) = true ↔ s.length ≤ 900 ∧ PyData.strOk s = true := by
  cases k <;> simp only [sm, Bool.and_eq_true, decide_eq_true_eq]
theorem sm_int {k : Nat} {i : Int} : sm k (.int i) = true ↔ i.natAbs < 1000000000000000000000000000000 := by
  cases k <;> simp only [sm, decide_eq_true_eq]
theorem sm_tup {k : Nat} {xs : List D} : sm (k + 1) (.tup xs) = true ↔ xs.length ≤ 900 ∧ ∀ x ∈ xs, sm k x = true := by
  simp only [sm, Bool.and_eq_true, List.all_eq_true, decide_eq_true_eq]
theorem sm_lst {k : Nat} {xs : List D} : sm (k + 1) (.lst xs) = true ↔ xs.length ≤ 900 ∧ ∀ x ∈ xs, sm k x = true := by
  simp only [sm, Bool.and_eq_true, List.all_eq_true, decide_eq_true_eq]
theorem sm_pl : ∀ {k : Nat} {x : D}, sm k x = true → pl k x = true
  | k, .non, _ => pl_non
  | k, .bl _, _ => pl_bl
  | k, .int _, _ => pl_int
  | k, .str s, h => pl_str.mpr ⟨by have := (sm_str.mp h).1; omega, (sm_str.mp h).2⟩
  | k + 1, .tup xs, h => pl_tup.mpr ⟨by have := (sm_tup.mp h).1; omega, fun x hx => sm_pl ((sm_tup.mp h).2 x hx)⟩
  | k + 1, .lst xs, h => pl_lst.mpr ⟨by have := (sm_lst.mp h).1; omega, fun x hx => sm_pl ((sm_lst.mp h).2 x hx)⟩
  | 0, .tup _, h => by cases h
  | 0, .lst _, h => by cases h
  | 0, .frz _, h => by cases h
  | 0, .dct _, h => by cases h
  | 0, .obj _ _ _, h => by cases h
  | 0, .exc _ _ _, h => by cases h
  | _ + 1, .frz _, h => by cases h
  | _ + 1, .dct _, h => by cases h
  | _ + 1, .obj _ _ _, h => by cases h
  | _ + 1, .exc _ _ _, h => by cases h
theorem sm_mono : ∀ {k : Nat} {x : D}, sm k x = true → sm (k + 1) x = true
  | 0, x, h => by cases x <;> first | exact h | cases h
  | k + 1, x, h => by
    cases x with
    | tup xs => exact sm_tup.mpr ⟨(sm_tup.mp h).1, fun x hx => sm_mono ((sm_tup.mp h).2 x hx)⟩
    | lst xs => exact sm_lst.mpr ⟨(sm_lst.mp h).1, fun x hx => sm_mono ((sm_lst.mp h).2 x hx)⟩
    | _ => exact h
theorem sm_le {k m : Nat} {x : D} (h : sm k x = true) (hk : k ≤ m) : sm m x = true := by
  induction hk with
  | refl => exact h
  | step _ ih => exact sm_mono ih
end LL

set_option Elab.async false
set_option linter.all false
set_option maxRecDepth 100000
set_option maxHeartbeats 1000000
set_option autoImplicit false
/-! M5n: calls of take and pick; whole numbers within bounds; the drawn value's kinds. -/
namespace LL
open PySem PySem.Spec PyProof.Rows L2
theorem dr_take {n j m i : Nat} {env : Ev} {e : CE} (hj : ∀ st, getV env j st = .ok (.ref i) st) (hm : 0 < m) (h2 : m < 2 ^ 100) (he : Dr tabT (run tabT (n + 1)) env i e (fun x => x = .int (m : Int))) : Dr tabT (run tabT (n + 1)) env i (.call 16 .sh (.cons (.var j) (.cons e .nil))) (IsN m) :=
  dr_box (fd := fd16) rfl hj (drl_one he) fun xs h st b => by
    obtain ⟨x, rfl, rfl⟩ := h
    exact r16 b hm h2
theorem dr_pick {n j i : Nat} {env : Ev} {e : CE} {P : D → Prop} (hj : ∀ st, getV env j st = .ok (.ref i) st) (he : Dr tabT (run tabT (n + 2)) env i e (fun c => ∃ xs : List D, 0 < xs.length ∧ xs.length ≤ 1000 ∧ (∀ x ∈ xs, P x) ∧ (c = .lst xs ∨ c = .tup xs))) : Dr tabT (run tabT (n + 2)) env i (.call 18 .sh (.cons (.var j) (.cons e .nil))) P :=
  dr_box (fd := fd18) rfl hj (drl_one he) fun xs h st b => by
    obtain ⟨x, rfl, ys, h0, h1, hp, hc⟩ := h
    exact r18 b h0 h1 hp x hc
/-- among a display's members -/
theorem dr_pickL {n j i k : Nat} {env : Ev} {es : CEs} {P : D → Prop} (hj : ∀ st, getV env j st = .ok (.ref i) st) (hk : 0 < k ∧ k ≤ 1000) (he : DrL tabT (run tabT (n + 2)) env i es (fun l => l.length = k ∧ ∀ x ∈ l, P x)) : Dr tabT (run tabT (n + 2)) env i (.call 18 .sh (.cons (.var j) (.cons (.lst false es) .nil))) P :=
  dr_pick hj (dr_lst he fun xs h => ⟨by omega, xs, by omega, by omega, h.2, .inl rfl⟩)
/-- a whole number within bounds -/
def In (lo hi : Int) (x : D) : Prop := ∃ k : Int, x = .int k ∧ lo ≤ k ∧ k ≤ hi
theorem In.sm {lo hi : Int} {x : D} {k : Nat} (h : In lo hi x) (h1 : -999999999999999999 ≤ lo) (h2 : hi ≤ 999999999999999999) : sm k x = true := by
  obtain ⟨a, rfl, h3, h4⟩ := h
  exact sm_int.mpr (by omega)
theorem IsN.in {m : Nat} {x : D} (h : IsN m x) : In 0 ((m : Int) - 1) x := by
  obtain ⟨n, h, rfl⟩ := h
  exact ⟨n, rfl, by omega, by omega⟩
section
variable {T : Tab} {C : Cal} {env : Ev} {i : Nat}
theorem dr_add {a b : CE} {l h l' h' : Int} (ha : Dr T C env i a (In l h)) (hb : Dr T C env i b (In l' h')) : Dr T C env i (.bin .Add false a b) (In (l + l') (h + h')) := dr_bin ha hb fun x y p q st => by
  obtain ⟨k, rfl, _, _⟩ := p
  obtain ⟨k', rfl, _, _⟩ := q
  exact ⟨.int (k + k'), rfl, k + k', rfl, by omega, by omega⟩
theorem dr_sub {a b : CE} {l h l' h' : Int} (ha : Dr T C env i a (In l h)) (hb : Dr T C env i b (In l' h')) : Dr T C env i (.bin .Sub false a b) (In (l - h') (h - l')) := dr_bin ha hb fun x y p q st => by
  obtain ⟨k, rfl, _, _⟩ := p
  obtain ⟨k', rfl, _, _⟩ := q
  exact ⟨.int (k - k'), rfl, k - k', rfl, by omega, by omega⟩
theorem dr_lit {k : Int} : Dr T C env i (.lit (.int k)) (In k k) := dr_pure (fun _ => rfl) ⟨k, rfl, by omega, by omega⟩
theorem dr_lt {a b : CE} {l h l' h' : Int} (ha : Dr T C env i a (In l h)) (hb : Dr T C env i b (In l' h')) : Dr T C env i (.cmp .Lt a b) IsB := dr_cmp ha hb fun x y p q st => by
  obtain ⟨k, rfl, _, _⟩ := p
  obtain ⟨k', rfl, _, _⟩ := q
  exact ⟨.bl (decide (k < k')), rfl, _, rfl⟩
theorem dr_gt {a b : CE} {l h l' h' : Int} (ha : Dr T C env i a (In l h)) (hb : Dr T C env i b (In l' h')) : Dr T C env i (.cmp .Gt a b) IsB := dr_cmp ha hb fun x y p q st => by
  obtain ⟨k, rfl, _, _⟩ := p
  obtain ⟨k', rfl, _, _⟩ := q
  exact ⟨.bl (decide (k' < k)), rfl, _, rfl⟩
theorem dr_eqI {a b : CE} {l h l' h' : Int} (ha : Dr T C env i a (In l h)) (hb : Dr T C env i b (In l' h')) : Dr T C env i (.cmp .Eq a b) IsB := dr_cmp ha hb fun x y p q st => by
  obtain ⟨k, rfl, _, _⟩ := p
  obtain ⟨k', rfl, _, _⟩ := q
  exact ⟨_, rfl, _, rfl⟩
end
end LL

set_option Elab.async false
set_option linter.all false
set_option maxRecDepth 100000
set_option maxHeartbeats 1000000
set_option exponentiation.threshold 2000
set_option autoImplicit false
/-! M5o: _law_amount, _law_drawn_value. -/
namespace LL
open PySem PySem.Spec PyProof.Rows L2
theorem idiv_nat {p : Int} {g : Nat} (hg : 0 < g) (h2 : g < 2 ^ 100) (st : Sto) : binW .FloorDiv false (.d (.int p)) (.d (.int (g : Int))) st = .ok (.d (.int (p / (g : Int)))) st := by
  show ofO ((binI .FloorDiv p (g : Int)).map fun k => W.d (.int k)) st = _
  have : binI .FloorDiv p (g : Int) = some (p / (g : Int)) := by
    show (if 0 < (g : Int) ∧ (g : Int).natAbs.log2 < 9000 then some (p / (g : Int)) else none) = _
    rw [if_pos ⟨by omega, by
      have : ((g : Int).natAbs) = g := rfl
      rw [this]
      have := log2_lt h2 (by omega)
      omega⟩]
  rw [this]
  rfl
end LL

set_option Elab.async false
set_option linter.all false
set_option maxRecDepth 100000
set_option maxHeartbeats 1000000
set_option exponentiation.threshold 2000
set_option autoImplicit false
/-! M5p: small data by display; _law_drawn_value. -/
namespace LL
open PySem PySem.Spec PyProof.Rows L2
def S (k : Nat) (x : D) : Prop := sm k x = true
section
variable {T : Tab} {C : Cal} {env : Ev} {i : Nat}
theorem dr_s {k : Nat} {z : Str} (h1 : z.length ≤ 900 := by decide +kernel) (h2 : PyData.strOk z = true := by decide +kernel) : Dr T C env i (.lit (.str z)) (S k) := dr_pure (fun _ => rfl) (sm_str.mpr ⟨h1, h2⟩)
theorem dr_int {k : Nat} {e : CE} {l h : Int} (he : Dr T C env i e (In l h)) (h1 : -999999999999999999 ≤ l := by decide +kernel) (h2 : h ≤ 999999999999999999 := by decide +kernel) : Dr T C env i e (S k) := he.imp fun x hx => hx.sm h1 h2
theorem dr_tupS {k c : Nat} {es : CEs} (h : DrL T C env i es (fun l => l.length = c ∧ ∀ x ∈ l, S k x)) (hc : c ≤ 900 := by omega) : Dr T C env i (.tup es) (S (k + 1)) := dr_tup h fun xs hx => ⟨by omega, sm_tup.mpr ⟨by omega, hx.2⟩⟩
end
theorem tk {n j m i : Nat} {env : Ev} (hj : ∀ st, getV env j st = .ok (.ref i) st) (hm : 0 < m) (h2 : m < 2 ^ 100) : Dr tabT (run tabT (n + 1)) env i (.call 16 .sh (.cons (.var j) (.cons (.lit (.int (m : Int))) .nil))) (In 0 ((m : Int) - 1)) :=
  (dr_take hj hm h2 (dr_pure (fun _ => rfl) rfl)).imp fun _ h => h.in
def IsM (x : D) : Prop := ∃ m : Nat, 0 < m ∧ m ≤ 3 ∧ x = .int (m : Int)
end LL

set_option Elab.async false
set_option linter.all false
set_option maxRecDepth 100000
set_option maxHeartbeats 1000000
set_option exponentiation.threshold 2000
set_option autoImplicit false
/-! M5q: a book's frames; _law_drawn_cell. -/
namespace LL
open PySem PySem.Spec PyProof.Rows L2
/-- a frame: its name, its rows, its columns -/
def FrOK (f : D) : Prop := pl 30 f = true ∧ ∃ (a : Str) (rs cs rest : List D), f = .tup (.str a :: .tup rs :: .tup cs :: rest) ∧ S 1 (.str a) ∧ S 2 (.tup rs) ∧ S 2 (.tup cs)
def BkOK (b : D) : Prop := ∃ (a : D) (fs rest : List D), b = .tup (a :: .tup fs :: rest) ∧ fs.length ≤ 900 ∧ ∀ f ∈ fs, FrOK f
/-- a drawn cell -/
def Cl (x : D) : Prop := ∃ (s : Str) (b c : D), x = .tup [.str s, b, c] ∧ S 1 (.str s) ∧ S 1 b ∧ S 1 c
def neU : D → Bool
  | .tup [] => false
  | _ => true
def goodF : D → Bool
  | .tup (_ :: a :: b :: _) => neU a && neU b
  | _ => false
theorem ne_u {st : Sto} {x : D} (h : x.shp = true) : cmpW .NotEq (.d x) (.d (.tup [])) st = .ok (.d (.bl (neU x))) st := by
  rw [ne_unit h]
  cases x with
  | tup xs => cases xs <;> rfl
  | _ => rfl
theorem mkN {k m : Nat} {es : List D} (h : es.length = m) (hm : m ≤ 900) (he : ∀ x ∈ es, S k x) : S (k + 1) (.tup es) := sm_tup.mpr ⟨by omega, he⟩
theorem drl_p {T : Tab} {C : Cal} {env : Ev} {i : Nat} {es : CEs} {ds : List D} {P : List D → Prop} (h : ∀ st, evs T C es env st = .ok (ds.map .d) st) (p : P ds) : DrL T C env i es P := fun st b => ⟨ds, st, h st, b, Sm.refl, p⟩
theorem cell_fs {C : Cal} {w0 : W} {g : Bool} {w4 : Option W} {st : Sto} {a : D} {fs rest : List D} (hl : fs.length ≤ 900) (hf : ∀ f ∈ fs, FrOK f) : ev tabT C (.compIf false (.var 4) (.v 4) (.e (.ix (.var 1) (.lit (.int 1)))) (.conj (.cmp .NotEq (.ix (.var 4) (.lit (.int 1))) (.tup (.nil))) (.cmp .NotEq (.ix (.var 4) (.lit (.int 2))) (.tup (.nil)))) [4]) [some w0, some (.d (.tup (a :: .tup fs :: rest))), some (.d (.bl g)), none, w4] st = .ok (.d (.lst (fs.filter goodF))) st := by
  rw [ev_compIf_pure (ws := fs.map .d) (f := id) (q := fun w => match w with | .d y => goodF y | _ => false) ?h1 (by rw [List.length_map, sizeLine_eq]; omega) (fun w hw => ?_)]
  case h1 =>
    rw [evI_e]
    have : ev tabT C (.ix (.var 1) (.lit (.int 1))) [some w0, some (.d (.tup (a :: .tup fs :: rest))), some (.d (.bl g)), none, w4] st = .ok (.d (.tup fs)) st := by
      show ofO ((atI (a :: .tup fs :: rest) 1).map W.d) st = _
      have : atI (a :: .tup fs :: rest) 1 = some (.tup fs) := by
        unfold atI ixN
        rw [if_pos (by omega), if_pos (by dsimp only [List.length]; omega)]
        rfl
      rw [this]
      rfl
    rw [this]
    rfl
  · rw [List.map_id, List.filter_map]
    exact newL_d (m := false) (Nat.le_trans (List.length_filter_le _ _) (by rw [sizeLine_eq]; omega))
  · obtain ⟨y, hy, rfl⟩ := List.mem_map.mp hw
    obtain ⟨_, n, rs, cs, r, rfl, h1, h2, h3⟩ := hf y hy
    refine ⟨_, rfl, ?_, fun _ => rfl⟩
    have at1 : atI (D.str n :: .tup rs :: .tup cs :: r) 1 = some (.tup rs) := by
      unfold atI ixN
      rw [if_pos (by omega), if_pos (by dsimp only [List.length]; omega)]
      rfl
    have at2 : atI (D.str n :: .tup rs :: .tup cs :: r) 2 = some (.tup cs) := by
      unfold atI ixN
      rw [if_pos (by omega), if_pos (by dsimp only [List.length]; omega)]
      rfl
    refine congrArg R.tst (ev_and (p := neU (.tup rs)) (q := neU (.tup cs)) ?_ fun _ => ?_)
    · show ((ofO ((atI (D.str n :: .tup rs :: .tup cs :: r) 1).map W.d) st).bind fun x st => cmpW .NotEq x (.d (.tup [])) st) = _
      rw [at1]
      exact ne_u (pl_shp (sm_pl h2) (by omega))
    · show ((ofO ((atI (D.str n :: .tup rs :: .tup cs :: r) 2).map W.d) st).bind fun x st => cmpW .NotEq x (.d (.tup [])) st) = _
      rw [at2]
      exact ne_u (pl_shp (sm_pl h3) (by omega))
end LL

set_option Elab.async false
set_option linter.all false
set_option maxRecDepth 100000
set_option maxHeartbeats 1000000
set_option exponentiation.threshold 2000
set_option autoImplicit false
/-! M5r: loops that draw. -/
namespace LL
open PySem PySem.Spec PyProof.Rows L2
/-- goes on, with names as Q tells -/
def NX (i : Nat) (st : Sto) (f : F) (Q : Ev → Prop) : Prop := ∃ env' st', f = .nx env' st' ∧ Bx i st' ∧ Sm i st st' ∧ Q env'
theorem NX.pre {i : Nat} {st st1 : Sto} {f : F} {P : Ev → Prop} (h : NX i st1 f P) (s : Sm i st st1) : NX i st f P := by
  obtain ⟨x, st', e, b, s', p⟩ := h
  exact ⟨x, st', e, b, s.trans s', p⟩
theorem forR_nx {g : W → Ev → Sto → F} {i : Nat} {I : Nat → Ev → Prop} {A : W → Prop} {N : Nat} (hg : ∀ j w env st, j < N → A w → Bx i st → I j env → NX i st (g w env st) (I (j + 1))) : ∀ (ws : List W) (j : Nat) (env : Ev) (st : Sto), (∀ w ∈ ws, A w) → j + ws.length ≤ N → Bx i st → I j env → NX i st (forR g ws env st) (I (j + ws.length))
  | [], j, env, st, _, _, b, h => ⟨env, st, rfl, b, Sm.refl, h⟩
  | w :: ws, j, env, st, ha, hN, b, h => by
    have hN2 : j + 1 + ws.length ≤ N := by rw [List.length_cons] at hN; omega
    obtain ⟨env1, st1, e1, b1, s1, h1⟩ := hg j w env st (by omega) (ha w (List.mem_cons_self ..)) b h
    rw [forR_eq, e1]
    have := forR_nx hg ws (j + 1) env1 st1 (fun w h => ha w (List.mem_cons_of_mem _ h)) hN2 b1 h1
    have e : j + (w :: ws).length = j + 1 + ws.length := by rw [List.length_cons]; omega
    rw [e]
    exact this.pre s1
section
variable {T : Tab} {C : Cal} {env : Ev} {i : Nat}
theorem nx_nil {st : Sto} {Q : Ev → Prop} (b : Bx i st) (q : Q env) : NX i st (execs T C .nil env st) Q := ⟨env, st, rfl, b, Sm.refl, q⟩
theorem nx_asg {j : Nat} {e : CE} {r : CSs} {st : Sto} {P : Ev → Prop} {Q : D → Prop} (h : Dr T C env i e Q) (b : Bx i st) (k : ∀ x, Q x → ∀ st', Bx i st' → NX i st' (execs T C r (setV env j (.d x)) st') P) : NX i st (execs T C (.cons (.asg j e) r) env st) P := by
  obtain ⟨x, st1, e1, b1, s1, p⟩ := h st b
  rw [asg_ok e1]
  exact (k x p st1 b1).pre s1
/-- for over a drawn number of turns -/
theorem so_rng {j : Nat} {e : CE} {body r : CSs} {st : Sto} {P : D → Prop} {lo hi : Int} {I : Nat → Ev → Prop} (he : Dr T C env i e (In lo hi)) (hlo : -900 ≤ lo) (hhi : hi ≤ 900) (b : Bx i st) (h0 : I 0 env)
    (hb : ∀ m (k : Int) env st, m < 900 → Bx i st → I m env → NX i st (execs T C body (setV env j (.d (.int k))) st) (I (m + 1)))
    (hr : ∀ (m : Nat) env' st', (m : Int) ≤ hi ∨ m = 0 → Bx i st' → I m env' → SO i st' (execs T C r env' st') P) : SO i st (execs T C (.cons (.fors (.v j) (.rng1 e) body) r) env st) P := by
  obtain ⟨x, st1, e1, b1, s1, k, rfl, k1, k2⟩ := he st b
  have e2 : evI T C (.rng1 e) env st = .ok (.inl (rngL 0 k)) st1 := by
    rw [evI_rng1, e1]
    exact if_pos ⟨by omega, by omega⟩
  rw [exs_cons, exec_for e2]
  obtain ⟨env2, st2, e3, b2, s2, h2⟩ := forR_nx (g := forG T C (.v j) body) (A := fun w => ∃ k : Int, w = .d (.int k)) (I := I) (N := 900) (fun m w env st hm hw b h => by
    obtain ⟨k, rfl⟩ := hw
    exact hb m k env st hm b h) (rngL 0 k) 0 env st1 (fun w hw => by
      obtain ⟨a, _, rfl⟩ := List.mem_map.mp hw
      exact ⟨_, rfl⟩) (by rw [rng_len]; omega) b1 h0
  rw [e3, seqF_nx]
  refine ((hr _ env2 st2 ?_ b2 h2).pre s2).pre s1
  rw [rng_len]
  omega
end
end LL

set_option Elab.async false
set_option linter.all false
set_option maxRecDepth 100000
set_option maxHeartbeats 1000000
set_option exponentiation.threshold 2000
set_option autoImplicit false
/-! M5s: _law_drawn_tree. -/
namespace LL
open PySem PySem.Spec PyProof.Rows L2
def Tr (d : Nat) (x : D) : Prop := (∃ xs, x = .tup xs) ∧ S (2 * d + 2) x
theorem S.le {k m : Nat} {x : D} (h : S k x) (hk : k ≤ m) : S m x := sm_le h hk
theorem dr_ifk {T : Tab} {C : Cal} {env : Ev} {i : Nat} {c a b : CE} {P : D → Prop} {k : Bool} (hc : ∀ st, ev T C c env st = .ok (.d (.bl k)) st) (ha : k = true → Dr T C env i a P) (hb : k = false → Dr T C env i b P) : Dr T C env i (.ifx c a b) P := fun st bx => by
  rw [ev_ifx, hc st]
  cases k with
  | true => exact ha rfl st bx
  | false => exact hb rfl st bx
theorem dr_mul2 {n j i : Nat} {env : Ev} (hj : ∀ st, getV env j st = .ok (.ref i) st) : Dr tabT (run tabT (n + 1)) env i (.bin .Mult false (.lit (.int 2)) (.call 16 .sh (.cons (.var j) (.cons (.lit (.int 5)) .nil)))) (In 0 8) :=
  dr_bin (P := fun x => x = .int ((2 : Nat) : Int)) (dr_pure (fun _ => rfl) rfl) (dr_take (m := 5) hj (by omega) (by omega) (dr_pure (fun _ => rfl) rfl)) fun x y hx hy st => by
    subst hx
    obtain ⟨m, hm, rfl⟩ := hy
    exact ⟨_, mul_nat (by omega) (by omega) st, ((2 * m : Nat) : Int), rfl, by omega, by omega⟩
def Kd (d : Nat) (x : D) : Prop := (∃ s : Str, x = .str s) ∧ S 0 x ∧ (d = 0 → isS x "cell" = true ∨ isS x "value" = true)
section
variable {m d i : Nat} {bk : D} {rest : Ev}
theorem dt_kind : Dr tabT (run tabT (m + 3)) (some (.ref i) :: some (.d bk) :: some (.d (.int (d : Int))) :: some (.d (.bl true)) :: rest) i (.ifx (.cmp .Gt (.var 2) (.lit (.int 0))) (.call 18 .sh (.cons (.var 0) (.cons (.lst false (.cons (.lit (.str "cell")) (.cons (.lit (.str "value")) (.cons (.lit (.str "op")) (.cons (.lit (.str "op")) (.cons (.lit (.str "call")) (.cons (.lit (.str "cell")) (.cons (.ifx (.cmp .Lt (.var 2) (.lit (.int 3))) (.lit (.str "if")) (.lit (.str "op"))) (.cons (.lit (.str "minus")) (.nil)))))))))) (.nil)))) (.call 18 .sh (.cons (.var 0) (.cons (.lst false (.cons (.lit (.str "cell")) (.cons (.lit (.str "cell")) (.cons (.lit (.str "value")) (.nil))))) (.nil))))) (Kd d) := by
  refine dr_ifk (k := decide ((0 : Int) < (d : Int))) (fun _ => rfl) (fun h => ?_) (fun h => ?_)
  · have hd : d ≠ 0 := fun e => by subst e; simp at h
    have l1 : ∀ z : Str, z.length ≤ 900 → PyData.strOk z = true → Dr tabT (run tabT (m + 3)) (some (.ref i) :: some (.d bk) :: some (.d (.int (d : Int))) :: some (.d (.bl true)) :: rest) i (.lit (.str z)) (Kd d) := fun z h1 h2 => dr_pure (fun _ => rfl) ⟨⟨z, rfl⟩, sm_str.mpr ⟨h1, h2⟩, fun e => absurd e hd⟩
    exact dr_pickL (k := 8) (fun _ => rfl) (by omega) (drl_all (l1 _ (by decide +kernel) (by decide +kernel)) (drl_all (l1 _ (by decide +kernel) (by decide +kernel)) (drl_all (l1 _ (by decide +kernel) (by decide +kernel)) (drl_all (l1 _ (by decide +kernel) (by decide +kernel)) (drl_all (l1 _ (by decide +kernel) (by decide +kernel)) (drl_all (l1 _ (by decide +kernel) (by decide +kernel)) (drl_all (dr_if (dr_pure (fun _ => rfl) ⟨decide ((d : Int) < 3), rfl⟩) (l1 _ (by decide +kernel) (by decide +kernel)) (l1 _ (by decide +kernel) (by decide +kernel))) (drl_all (l1 _ (by decide +kernel) (by decide +kernel)) drl_end))))))))
  · have l1 : Dr tabT (run tabT (m + 3)) (some (.ref i) :: some (.d bk) :: some (.d (.int (d : Int))) :: some (.d (.bl true)) :: rest) i (.lit (.str "cell")) (Kd d) := dr_pure (fun _ => rfl) ⟨⟨"cell", rfl⟩, sm_str.mpr ⟨by decide +kernel, by decide +kernel⟩, fun _ => .inl (by decide +kernel)⟩
    have l2 : Dr tabT (run tabT (m + 3)) (some (.ref i) :: some (.d bk) :: some (.d (.int (d : Int))) :: some (.d (.bl true)) :: rest) i (.lit (.str "value")) (Kd d) := dr_pure (fun _ => rfl) ⟨⟨"value", rfl⟩, sm_str.mpr ⟨by decide +kernel, by decide +kernel⟩, fun _ => .inr (by decide +kernel)⟩
    exact dr_pickL (k := 3) (fun _ => rfl) (by omega) (drl_all l1 (drl_all l1 (drl_all l2 drl_end)))
end
end LL

set_option Elab.async false
set_option linter.all false
set_option maxRecDepth 100000
set_option maxHeartbeats 1000000
set_option exponentiation.threshold 2000
set_option autoImplicit false
/-! M5t: _law_drawn_tree. -/
namespace LL
open PySem PySem.Spec PyProof.Rows L2
theorem dr_tr {T : Tab} {C : Cal} {env : Ev} {i k c d : Nat} {es : CEs} (h : DrL T C env i es (fun l => l.length = c ∧ ∀ x ∈ l, S k x)) (hk : k + 1 ≤ 2 * d + 2) (hc : c ≤ 900) : Dr T C env i (.tup es) (Tr d) := dr_tup h fun xs hx => ⟨by omega, ⟨xs, rfl⟩, S.le (k := k + 1) (sm_tup.mpr ⟨by omega, hx.2⟩) hk⟩
theorem tup_add {xs ys : List D} {st : Sto} (h : xs.length + ys.length ≤ 1000) : binW .Add false (.d (.tup xs)) (.d (.tup ys)) st = .ok (.d (.tup (xs ++ ys))) st := by
  show (if Operator.Add = Operator.Add ∧ xs.length + ys.length ≤ sizeLine then R.ok (W.d (.tup (xs ++ ys))) st else .bad) = _
  exact if_pos ⟨rfl, by rw [sizeLine_eq]; omega⟩
end LL

set_option Elab.async false
set_option linter.all false
set_option maxRecDepth 100000
set_option maxHeartbeats 1000000
set_option exponentiation.threshold 2000
set_option autoImplicit false
/-! M5u: _law_spoilt. -/
namespace LL
open PySem PySem.Spec PyProof.Rows L2
def Pl (k : Nat) (x : D) : Prop := pl k x = true
theorem cut_take {α : Type} {xs : List α} {j : Nat} : cutL xs none (some (j : Int)) = xs.take j := by
  unfold cutL
  rw [HT.sIx_none, HT.sIx_nat, List.drop_zero, Nat.sub_zero]
  rcases Nat.le_total j xs.length with h | h
  · rw [Nat.min_eq_left h]
  · rw [Nat.min_eq_right h, List.take_of_length_le (Nat.le_refl _), List.take_of_length_le h]
theorem cut_drop {α : Type} {xs : List α} {j : Nat} : cutL xs (some (j : Int)) none = xs.drop j := by
  unfold cutL
  rw [HT.sIx_none, HT.sIx_nat]
  rcases Nat.le_total j xs.length with h | h
  · rw [Nat.min_eq_left h]
    exact List.take_of_length_le (by rw [List.length_drop]; exact Nat.le_refl _)
  · rw [Nat.min_eq_right h, List.drop_of_length_le (Nat.le_refl _), List.drop_of_length_le h, List.take_nil]
theorem cut_mem {α : Type} {xs : List α} {lo hi : Option Int} : ∀ y ∈ cutL xs lo hi, y ∈ xs := fun y h => List.mem_of_mem_drop (List.mem_of_mem_take h)
theorem cut_len {α : Type} {xs : List α} {lo hi : Option Int} : (cutL xs lo hi).length ≤ xs.length := by
  unfold cutL
  rw [List.length_take, List.length_drop]
  omega
theorem cut_two {α : Type} {xs : List α} {j : Nat} : (cutL xs (some (j : Int)) (some ((j + 1 : Nat) : Int))).length ≤ 1 := by
  unfold cutL
  rw [HT.sIx_nat, HT.sIx_nat, List.length_take]
  omega
theorem atI_nat {α : Type} {xs : List α} {j : Nat} (hj : j < xs.length) : atI xs (j : Int) = some xs[j] := by
  unfold atI ixN
  rw [if_pos (by omega), if_pos (by omega)]
  show xs[(j : Int).toNat]? = _
  rw [Int.toNat_natCast]
  exact List.getElem?_eq_getElem hj
theorem str_app {x y : Str} (hx : PyData.strOk x = true) (hy : PyData.strOk y = true) : PyData.strOk (x ++ y) = true := by
  unfold PyData.strOk at *
  show ((x.cps ++ y.cps).all _) = true
  rw [Array.all_append, hx, hy]
  rfl
theorem str_len {x y : Str} : (x ++ y).length = x.length + y.length := Array.size_append
theorem str_cut {x : Str} {lo hi : Option Int} (hx : PyData.strOk x = true) : PyData.strOk (cutS x lo hi) = true := by
  unfold PyData.strOk cutS at *
  rw [← Array.all_toList] at *
  simp only [List.all_eq_true] at *
  exact fun c hc => hx c (List.mem_of_mem_drop (List.mem_of_mem_take (by simpa using hc)))
theorem str_add {m : Bool} {x y : Str} {st : Sto} (h : x.length + y.length ≤ 5000) : binW .Add m (.d (.str x)) (.d (.str y)) st = .ok (.d (.str (x ++ y))) st := by
  show (if Operator.Add = Operator.Add ∧ x.length + y.length ≤ sizeLine then R.ok (W.d (.str (x ++ y))) st else .bad) = _
  exact if_pos ⟨rfl, by rw [sizeLine_eq]; omega⟩
theorem int_len {i : Int} {k : Nat} (hk : 0 < k) (h : i.natAbs < 10 ^ k) : (Str.ofString (toString i)).length ≤ k + 1 := by
  rw [PySem.ofString_length]
  exact PySem.int_text_length_le10 hk h
theorem int_ok (i : Int) : PyData.strOk (Str.ofString (toString i)) = true := by
  unfold PyData.strOk
  rw [← Array.all_toList]
  simp only [List.all_eq_true, decide_eq_true_eq]
  intro c hc
  rw [PySem.Str.ofString_eq_toList] at hc
  obtain ⟨ch, hm, rfl⟩ := List.mem_map.mp hc
  rcases int_sign i ch hm with h | h
  · unfold Char.isDigit at h
    simp only [Bool.and_eq_true, decide_eq_true_eq] at h
    have h2 := h.2
    have h3 : ch.toNat ≤ 57 := by
      show ch.val.toNat ≤ 57
      exact UInt32.le_iff_toNat_le.mp h2
    omega
  · subst h
    decide
section
variable {T : Tab} {C : Cal} {env : Ev} {i : Nat}
theorem so_ifp {c : CE} {a r : CSs} {st : Sto} {P : D → Prop} {F : Prop} (h : Dr T C env i c (fun x => ∃ k, x = .bl k ∧ (k = true → F))) (b : Bx i st) (h1 : F → ∀ st', Bx i st' → SO i st' (execs T C a env st') P) (h2 : ∀ st', Bx i st' → SO i st' (execs T C r env st') P) : SO i st (execs T C (.cons (.ifs c a .nil) r) env st) P := by
  obtain ⟨x, st1, e1, b1, s1, k, rfl, hk⟩ := h st b
  rw [if_ok e1]
  cases k with
  | true =>
    obtain ⟨y, st2, e2, b2, s2, q⟩ := h1 (hk rfl) st1 b1
    rw [condF_true, e2]
    exact ⟨y, st2, rfl, b2, s1.trans s2, q⟩
  | false =>
    rw [condF_false, exs_nil, seqF_nx]
    exact (h2 st1 b1).pre s1
theorem dr_andp {a b : CE} {F G : Prop} (ha : Dr T C env i a (fun x => ∃ k, x = .bl k ∧ (k = true → F))) (hb : F → Dr T C env i b (fun x => ∃ k, x = .bl k ∧ (k = true → G))) : Dr T C env i (.conj a b) (fun x => ∃ k, x = .bl k ∧ (k = true → F ∧ G)) := fun st bx => by
  obtain ⟨x, st1, e1, b1, s1, k, rfl, hk⟩ := ha st bx
  have : DO i st1 (condR (some k) (ev T C b env st1) (.ok (.d (.bl k)) st1)) (fun x => ∃ k, x = .bl k ∧ (k = true → F ∧ G)) := by
    cases k with
    | true =>
      refine (hb (hk rfl) st1 b1).imp fun x hx => ?_
      obtain ⟨k, rfl, h⟩ := hx
      exact ⟨k, rfl, fun e => ⟨hk rfl, h e⟩⟩
    | false => exact DO.here b1 ⟨false, rfl, fun e => by cases e⟩
  obtain ⟨y, st2, e2, b2, s2, p⟩ := this
  refine ⟨y, st2, ?_, b2, s1.trans s2, p⟩
  rw [ev_conj, e1]
  exact e2
theorem dr_p {e : CE} {k : Nat} {x : D} (h : ∀ st, ev T C e env st = .ok (.d x) st) (p : pl k x = true) : Dr T C env i e (Pl k) := dr_pure h p
end
theorem ix_nat {xs : List D} {j : Nat} {st : Sto} (hj : j < xs.length) : ixW (.d (.tup xs)) (.d (.int (j : Int))) st = .ok (.d xs[j]) st := by
  show ofO ((atI xs (j : Int)).map W.d) st = _
  rw [atI_nat hj]
  rfl
section
variable {C : Cal} {a b c : Option W} {xs : List D} {j : Nat} {st : Sto}
theorem sl_t : ev tabT C (.sl false (.var 1) .no (.yes (.var 3))) [a, some (.d (.tup xs)), b, some (.d (.int (j : Int))), c] st = .ok (.d (.tup (xs.take j))) st := by
  show R.ok (W.d (.tup (cutL xs none (some (j : Int))))) st = _
  rw [cut_take]
theorem sl_d : ev tabT C (.sl false (.var 1) (.yes (.var 3)) .no) [a, some (.d (.tup xs)), b, some (.d (.int (j : Int))), c] st = .ok (.d (.tup (xs.drop j))) st := by
  show R.ok (W.d (.tup (cutL xs (some (j : Int)) none))) st = _
  rw [cut_drop]
theorem sl_d1 : ev tabT C (.sl false (.var 1) (.yes (.bin .Add false (.var 3) (.lit (.int 1)))) .no) [a, some (.d (.tup xs)), b, some (.d (.int (j : Int))), c] st = .ok (.d (.tup (xs.drop (j + 1)))) st := by
  show R.ok (W.d (.tup (cutL xs (some ((j + 1 : Nat) : Int)) none))) st = _
  rw [cut_drop]
theorem sl_1 : ev tabT C (.sl false (.var 1) (.yes (.var 3)) (.yes (.bin .Add false (.var 3) (.lit (.int 1))))) [a, some (.d (.tup xs)), b, some (.d (.int (j : Int))), c] st = .ok (.d (.tup (cutL xs (some (j : Int)) (some ((j + 1 : Nat) : Int))))) st := rfl
theorem tup_add' {T : Tab} {C : Cal} {env : Ev} {e f : CE} {xs ys : List D} (h1 : ev T C e env st = .ok (.d (.tup xs)) st) (h2 : ev T C f env st = .ok (.d (.tup ys)) st) (h : xs.length + ys.length ≤ 2000) : ev T C (.bin .Add false e f) env st = .ok (.d (.tup (xs ++ ys))) st := by
  rw [ev_bin, h1, R.bind_ok, h2, R.bind_ok]
  show (if Operator.Add = Operator.Add ∧ xs.length + ys.length ≤ sizeLine then R.ok (W.d (.tup (xs ++ ys))) st else .bad) = _
  exact if_pos ⟨rfl, by rw [sizeLine_eq]; omega⟩
theorem str_add' {T : Tab} {C : Cal} {env : Ev} {e f : CE} {xs ys : Str} (h1 : ev T C e env st = .ok (.d (.str xs)) st) (h2 : ev T C f env st = .ok (.d (.str ys)) st) (h : xs.length + ys.length ≤ 2000) : ev T C (.bin .Add false e f) env st = .ok (.d (.str (xs ++ ys))) st := by
  rw [ev_bin, h1, R.bind_ok, h2, R.bind_ok]
  exact str_add (by omega)
end
theorem pl_app {k : Nat} {xs ys : List D} (h1 : ∀ y ∈ xs, pl k y = true) (h2 : ∀ y ∈ ys, pl k y = true) : ∀ y ∈ xs ++ ys, pl k y = true := fun y h => by
  rcases List.mem_append.mp h with h | h
  · exact h1 y h
  · exact h2 y h
theorem pl_one {k : Nat} {x : D} (h : pl k x = true) : ∀ y ∈ [x], pl k y = true := fun y e => by rw [List.mem_singleton.mp e]; exact h
def isTup : D → Bool
  | .tup _ => true
  | _ => false
theorem isi_tup {k : Nat} {x : D} {st : Sto} (h : pl k x = true) : isiO .tup st (.d x) = some (isTup x) := by
  cases x with
  | frz _ => cases k <;> cases h
  | dct _ => cases k <;> cases h
  | obj _ _ _ => cases k <;> cases h
  | exc _ _ _ => cases k <;> cases h
  | _ => rfl
end LL

set_option Elab.async false
set_option linter.all false
set_option maxRecDepth 100000
set_option maxHeartbeats 1000000
set_option exponentiation.threshold 2000
set_option autoImplicit false
/-! M5v: _law_box, _law_shuffled, _law_is_due. -/
namespace LL
open PySem PySem.Spec PyProof.Rows L2
section
variable {T : Tab} {C : Cal} {env : Ev} {st : Sto}
/-- one statement that goes on, then the rest -/
theorem th_nx {s : CS} {r : CSs} {P : F → Prop} (Q : Ev → Sto → Prop) (h : ∃ env' st', exec T C s env st = .nx env' st' ∧ Q env' st') (k : ∀ env' st', Q env' st' → P (execs T C r env' st')) : P (execs T C (.cons s r) env st) := by
  obtain ⟨env', st', e, q⟩ := h
  rw [exs_cons, e]
  exact k env' st' q
theorem ifs_true {c : CE} {a b : CSs} {st' : Sto} (h : ev T C c env st = .ok (.d (.bl true)) st') : exec T C (.ifs c a b) env st = execs T C a env st' := by
  rw [ex_ifs, h]
  rfl
theorem ifs_false {c : CE} {a b : CSs} {st' : Sto} (h : ev T C c env st = .ok (.d (.bl false)) st') : exec T C (.ifs c a b) env st = execs T C b env st' := by
  rw [ex_ifs, h]
  rfl
end
def Bx0 (f : F) : Prop := ∃ a b : Nat, f.out = .ok (.ref 0) [.lst [.d (.int (a : Int)), .d (.int (b : Int))]] ∧ b < 2 ^ 40
theorem r24 {n k : Nat} {ns : List Int} (hk : k < 1000) (hl : ns.length ≤ 1000) : ∃ a b : Nat, run tabT (n + 1) 24 [scr ns, .d (.int (k : Int))] [] = .ok (.ref 0) [.lst [.d (.int (a : Int)), .d (.int (b : Int))]] ∧ b < 2 ^ 40 := by
  rw [run_eq (fd := fd24) rfl rfl]
  show Bx0 (execs tabT (run tabT n) b24 [some (scr ns), some (.d (.int (k : Int))), none, none] [])
  unfold b24
  have e1 : ev tabT (run tabT n) (.bin .Add false (.bin .Mult false (.lit (.int 7919)) (.var 1)) (.lit (.int 101))) [some (scr ns), some (.d (.int (k : Int))), none, none] [] = .ok (.d (.int ((7919 * k + 101 : Nat) : Int))) [] := by
    show ((binW .Mult false (.d (.int ((7919 : Nat) : Int))) (.d (.int (k : Int))) []).bind fun x st => binW .Add false x (.d (.int ((101 : Nat) : Int))) st) = _
    rw [mul_nat (by omega) (by omega)]
    rfl
  rw [asg_ok e1]
  show Bx0 (execs tabT (run tabT n) _ [some (scr ns), some (.d (.int (k : Int))), some (.d (.int ((7919 * k + 101 : Nat) : Int))), none] [])
  have hml : (ns.map D.int).length = ns.length := List.length_map ..
  refine th_nx (fun env' st' => ∃ c : Nat, env' = [some (scr ns), some (.d (.int (k : Int))), some (.d (.int (c : Int))), none] ∧ st' = []) ?_ ?_
  · by_cases h1 : k < ns.length
    · refine ⟨_, _, (ifs_true (st' := []) ?_).trans ((asg_ok (w := .d (.int ((ns[k].natAbs : Nat) : Int))) (st' := []) ?_).trans rfl), _, rfl, rfl⟩
      · show R.ok (W.d (.bl (decide ((k : Int) < ((ns.map D.int).length : Int))))) [] = _
        rw [hml, decide_eq_true (by omega)]
      · show (((ofO ((atI (ns.map D.int) (k : Int)).map W.d) [])).bind fun w st => (R.ok [] st).bind fun ws st => R.ok (w :: ws) st).bind (fun ws st => biW .abs false ws st) = _
        rw [atI_nat (by omega), List.getElem_map]
        exact abs_int _ (m := false)
    · have c1 : ev tabT (run tabT n) (.cmp .Lt (.var 1) (.bi .len false (.cons (.var 0) (.nil)))) [some (scr ns), some (.d (.int (k : Int))), some (.d (.int ((7919 * k + 101 : Nat) : Int))), none] [] = .ok (.d (.bl false)) [] := by
        show R.ok (W.d (.bl (decide ((k : Int) < ((ns.map D.int).length : Int))))) [] = _
        rw [hml, decide_eq_false (by omega)]
      by_cases h2 : 0 < ns.length
      · have hj : k % ns.length < ns.length := Nat.mod_lt _ h2
        refine ⟨_, _, (ifs_false (st' := []) c1).trans ((exs_cons ..).trans ((congrArg (fun f => seqF f _) ((ifs_true (st' := []) ?_).trans ((asg_ok (w := .d (.int ((ns[k % ns.length].natAbs % 1000000007 * 31 + 7919 * k : Nat) : Int))) (st' := []) ?_).trans rfl))).trans rfl)), _, rfl, rfl⟩
        · show R.ok (W.d (.bl (decide ((0 : Int) < ((ns.map D.int).length : Int))))) [] = _
          rw [hml, decide_eq_true (by omega)]
        · show ((((((((binW .Mod false (.d (.int (k : Int))) (.d (.int ((ns.map D.int).length : Int))) []).bind fun y st => ixW (scr ns) y st).bind fun w st => (R.ok [] st).bind fun ws st => R.ok (w :: ws) st).bind fun ws st => biW .abs false ws st).bind fun w st => (R.ok [] st).bind fun ws st => R.ok (w :: ws) st).bind fun ws st => biW .int false ws st).bind fun x st => binW .Mod false x (.d (.int ((1000000007 : Nat) : Int))) st).bind (fun x st => binW .Mult false x (.d (.int ((31 : Nat) : Int))) st)).bind (fun x st => (binW .Mult false (.d (.int ((7919 : Nat) : Int))) (.d (.int (k : Int))) st).bind fun y st => binW .Add false x y st) = _
          rw [hml, mod_nat h2, R.bind_ok]
          have e2 : ixW (scr ns) (.d (.int ((k % ns.length : Nat) : Int))) [] = .ok (.d (.int ns[k % ns.length])) [] := by
            show ofO ((atI (ns.map D.int) ((k % ns.length : Nat) : Int)).map W.d) [] = _
            rw [atI_nat (by omega), List.getElem_map]
            rfl
          rw [e2, R.bind_ok, R.bind_ok, R.bind_ok, abs_int, R.bind_ok, R.bind_ok, R.bind_ok]
          show (((binW .Mod false (.d (.int ((ns[k % ns.length].natAbs : Nat) : Int))) (.d (.int ((1000000007 : Nat) : Int))) []).bind (fun x st => binW .Mult false x (.d (.int ((31 : Nat) : Int))) st)).bind (fun x st => (binW .Mult false (.d (.int ((7919 : Nat) : Int))) (.d (.int (k : Int))) st).bind fun y st => binW .Add false x y st)) = _
          have := Nat.mod_lt ns[k % ns.length].natAbs (show 0 < 1000000007 by omega)
          rw [mod_nat (by omega), R.bind_ok, mul_nat (by omega) (by omega), R.bind_ok, mul_nat (by omega) (by omega)]
          rfl
      · refine ⟨_, _, (ifs_false (st' := []) c1).trans ((exs_cons ..).trans ((congrArg (fun f => seqF f _) ((ifs_false (st' := []) ?_).trans rfl)).trans rfl)), _, rfl, rfl⟩
        show R.ok (W.d (.bl (decide ((0 : Int) < ((ns.map D.int).length : Int))))) [] = _
        rw [hml, decide_eq_false (by omega)]
  · intro env' st' h
    obtain ⟨c, rfl, rfl⟩ := h
    have e3 : ∃ g : Nat, ev tabT (run tabT n) (.ix (.lst false (.cons (.lit (.int 0)) (.cons (.var 2) (.nil)))) (.bi .int false (.cons (.cmp .GtE (.var 2) (.bin .Pow false (.lit (.int 10)) (.lit (.int 18)))) (.nil)))) [some (scr ns), some (.d (.int (k : Int))), some (.d (.int (c : Int))), none] [] = .ok (.d (.int (g : Int))) [] := by
      by_cases h : (10 : Int) ^ 18 ≤ (c : Int)
      · refine ⟨c, ?_⟩
        show ixW (.d (.lst [.int 0, .int (c : Int)])) (.d (.int (if decide ((10 : Int) ^ 18 ≤ (c : Int)) = true then 1 else 0))) [] = _
        rw [decide_eq_true h]
        rfl
      · refine ⟨0, ?_⟩
        show ixW (.d (.lst [.int 0, .int (c : Int)])) (.d (.int (if decide ((10 : Int) ^ 18 ≤ (c : Int)) = true then 1 else 0))) [] = _
        rw [decide_eq_false h]
        rfl
    obtain ⟨g, e3⟩ := e3
    rw [asg_ok e3]
    show Bx0 (execs tabT (run tabT n) _ [some (scr ns), some (.d (.int (k : Int))), some (.d (.int (c : Int))), some (.d (.int (g : Int)))] [])
    have hc := Nat.mod_lt c (show 0 < 1000000007 by omega)
    have hb := Nat.mod_lt (c % 1000000007 * 48271 + 613 * k) (show 0 < 2147483647 by omega)
    refine ⟨g, (c % 1000000007 * 48271 + 613 * k) % 2147483647 + 1, ?_, by omega⟩
    refine retO (w := .ref 0) ?_
    have e4 : ev tabT (run tabT n) (.bin .Add false (.bin .Mod false (.bi .int false (.cons (.bin .Add false (.bin .Mult false (.bin .Mod false (.bi .int false (.cons (.var 2) (.nil))) (.lit (.int 1000000007))) (.lit (.int 48271))) (.bin .Mult false (.lit (.int 613)) (.var 1))) (.nil))) (.lit (.int 2147483647))) (.lit (.int 1))) [some (scr ns), some (.d (.int (k : Int))), some (.d (.int (c : Int))), some (.d (.int (g : Int)))] [] = .ok (.d (.int (((c % 1000000007 * 48271 + 613 * k) % 2147483647 + 1 : Nat) : Int))) [] := by
      show ((((((binW .Mod false (.d (.int (c : Int))) (.d (.int ((1000000007 : Nat) : Int))) []).bind (fun x st => binW .Mult false x (.d (.int ((48271 : Nat) : Int))) st)).bind (fun x st => (binW .Mult false (.d (.int ((613 : Nat) : Int))) (.d (.int (k : Int))) st).bind fun y st => binW .Add false x y st)).bind fun w st => (R.ok [] st).bind fun ws st => R.ok (w :: ws) st).bind fun ws st => biW .int false ws st).bind fun x st => binW .Mod false x (.d (.int ((2147483647 : Nat) : Int))) st).bind (fun x st => binW .Add false x (.d (.int ((1 : Nat) : Int))) st) = _
      rw [mod_nat (by omega), R.bind_ok, mul_nat (by omega) (by omega), R.bind_ok, mul_nat (by omega) (by omega), R.bind_ok]
      show (binW .Mod false (.d (.int ((c % 1000000007 * 48271 + 613 * k : Nat) : Int))) (.d (.int ((2147483647 : Nat) : Int))) []).bind (fun x st => binW .Add false x (.d (.int ((1 : Nat) : Int))) st) = _
      rw [mod_nat (by omega)]
      rfl
    rw [ev_lst, evs_cons, ev_var, getV_succ, getV_succ, getV_succ, getV_zero, R.bind_ok, evs_cons, e4]
    rfl
/-- a new box for the caller -/
theorem new_box {n j k : Nat} {env : Ev} {st : Sto} {ns : List Int} (hj : ∀ st, getV env j st = .ok (scr ns) st) (hk : k < 1000) (hl : ns.length ≤ 1000) : ∃ st', ev tabT (run tabT (n + 1)) (.call 24 .new (.cons (.var j) (.cons (.lit (.int (k : Int))) (.nil)))) env st = .ok (.ref st.length) (st ++ [st']) ∧ Bx st.length (st ++ [st']) := by
  obtain ⟨a, b, e, hb⟩ := r24 (n := n) (k := k) hk hl
  refine ⟨.lst [.d (.int (a : Int)), .d (.int (b : Int))], ?_, a, b, ?_, hb⟩
  · rw [ev_call (fd := fd24) rfl, evs_cons, getV_ev, hj, R.bind_ok]
    show callW _ 24 .new [scr ns, .d (.int (k : Int))] st = _
    unfold callW
    dsimp only
    rw [e]
    rfl
  · rw [List.getElem?_append_right (Nat.le_refl _), Nat.sub_self]
    rfl
end LL

set_option Elab.async false
set_option linter.all false
set_option maxRecDepth 100000
set_option maxHeartbeats 1000000
set_option exponentiation.threshold 2000
set_option autoImplicit false
/-! M5w: what expressions and statements lead to, with the store; _law_shuffled. -/
namespace LL
open PySem PySem.Spec PyProof.Rows L2
def EO {α : Type} (r : R α) (Q : α → Sto → Prop) : Prop := ∃ a st', r = .ok a st' ∧ Q a st'
def GO (f : F) (Q : Ev → Sto → Prop) : Prop := ∃ env' st', f = .nx env' st' ∧ Q env' st'
/-- returns -/
def RO (f : F) (Q : W → Sto → Prop) : Prop := ∃ w st', f = .ret w st' ∧ Q w st'
theorem eo_ok {α : Type} {a : α} {st : Sto} {Q : α → Sto → Prop} (h : Q a st) : EO (.ok a st) Q := ⟨a, st, rfl, h⟩
theorem eo_bind {α β : Type} {r : R α} {f : α → Sto → R β} {Q : β → Sto → Prop} (h : EO r (fun a st => EO (f a st) Q)) : EO (r.bind f) Q := by
  obtain ⟨a, st, e, h⟩ := h
  rw [e]
  exact h
theorem EO.imp {α : Type} {r : R α} {P Q : α → Sto → Prop} (h : EO r P) (k : ∀ a st, P a st → Q a st) : EO r Q := by
  obtain ⟨a, st, e, p⟩ := h
  exact ⟨a, st, e, k a st p⟩
theorem GO.imp {f : F} {P Q : Ev → Sto → Prop} (h : GO f P) (k : ∀ a st, P a st → Q a st) : GO f Q := by
  obtain ⟨a, st, e, p⟩ := h
  exact ⟨a, st, e, k a st p⟩
theorem RO.imp {f : F} {P Q : W → Sto → Prop} (h : RO f P) (k : ∀ a st, P a st → Q a st) : RO f Q := by
  obtain ⟨a, st, e, p⟩ := h
  exact ⟨a, st, e, k a st p⟩
section
variable {T : Tab} {C : Cal} {env : Ev} {st : Sto} {Q : W → Sto → Prop}
theorem eo_e {e : CE} {w : W} {st' : Sto} (h : ev T C e env st = .ok w st') (q : Q w st') : EO (ev T C e env st) Q := ⟨w, st', h, q⟩
theorem eo_bin {op : Operator} {m : Bool} {a b : CE} (h : EO (ev T C a env st) fun x st => EO (ev T C b env st) fun y st => EO (binW op m x y st) Q) : EO (ev T C (.bin op m a b) env st) Q := eo_bind (h.imp fun _ _ h => eo_bind h)
theorem eo_ix {a b : CE} (h : EO (ev T C a env st) fun x st => EO (ev T C b env st) fun y st => EO (ixW x y st) Q) : EO (ev T C (.ix a b) env st) Q := eo_bind (h.imp fun _ _ h => eo_bind h)
theorem eo_cmp {op : CmpOp} {a b : CE} (h : EO (ev T C a env st) fun x st => EO (ev T C b env st) fun y st => EO (cmpW op x y st) Q) : EO (ev T C (.cmp op a b) env st) Q := eo_bind (h.imp fun _ _ h => eo_bind h)
theorem eo_tup {es : CEs} (h : EO (evs T C es env st) fun ws st => ∃ ds : List D, ws = ds.map .d ∧ ds.length ≤ 1000 ∧ Q (.d (.tup ds)) st) : EO (ev T C (.tup es) env st) Q := by
  rw [ev_tup]
  refine eo_bind (h.imp fun ws st h => ?_)
  obtain ⟨ds, rfl, hl, q⟩ := h
  rw [allD_m]
  dsimp only
  rw [if_pos (by rw [sizeLine_eq]; omega)]
  exact eo_ok q
theorem eo_lstm {es : CEs} (h : EO (evs T C es env st) fun ws st => ws.length ≤ 1000 ∧ Q (.ref st.length) (st ++ [.lst ws])) : EO (ev T C (.lst true es) env st) Q := by
  rw [ev_lst]
  refine eo_bind (h.imp fun ws st h => ?_)
  rw [newL_m (by rw [sizeLine_eq]; omega)]
  exact eo_ok h.2
theorem eo_cons {e : CE} {es : CEs} {Q : List W → Sto → Prop} (h : EO (ev T C e env st) fun w st => EO (evs T C es env st) fun ws st => Q (w :: ws) st) : EO (evs T C (.cons e es) env st) Q := by
  rw [evs_cons]
  exact eo_bind (h.imp fun _ _ h => eo_bind (h.imp fun _ _ h => eo_ok h))
theorem eo_nil {Q : List W → Sto → Prop} (h : Q [] st) : EO (evs T C .nil env st) Q := eo_ok h
theorem eo_bi {b : Bi} {m : Bool} {es : CEs} (h : EO (evs T C es env st) fun ws st => EO (biW b m ws st) Q) : EO (ev T C (.bi b m es) env st) Q := eo_bind h
theorem eo_call {f : Nat} {fd : FD} {md : Md} {es : CEs} (hf : T.fn f = some fd) (h : EO (evs T C es env st) fun ws st => EO (callW C f md ws st) Q) : EO (ev T C (.call f md es) env st) Q := by
  rw [ev_call hf]
  exact eo_bind h
theorem dr_eo {i : Nat} {e : CE} {P : D → Prop} (h : Dr T C env i e P) (b : Bx i st) (k : ∀ x st', P x → Bx i st' → Sm i st st' → Q (.d x) st') : EO (ev T C e env st) Q := by
  obtain ⟨x, st', e, b', s, p⟩ := h st b
  exact ⟨_, _, e, k x st' p b' s⟩
theorem do_eo {i : Nat} {r : R W} {P : D → Prop} (h : DO i st r P) (k : ∀ x st', P x → Bx i st' → Sm i st st' → Q (.d x) st') : EO r Q := by
  obtain ⟨x, st', e, b', s, p⟩ := h
  exact ⟨_, _, e, k x st' p b' s⟩
theorem eo_app {m : Bool} {o e : CE} {r : Nat} (ho : ev T C o env st = .ok (.ref r) st) (hr : ∃ ws, st[r]? = some (.lst ws)) (h : EO (ev T C e env st) fun w st => ∃ ws, st[r]? = some (.lst ws) ∧ ws.length ≤ 2000 ∧ Q (.d .non) (setL st r (ws ++ [w]))) : EO (ev T C (.meth .append m o (.cons e .nil)) env st) Q := by
  show EO ((ev T C o env st).bind fun x st => (match recvB .append st x with
    | true => (evs T C (.cons e .nil) env st).bind fun ws st => meW .append m x ws st
    | false => .bad)) Q
  rw [ho, R.bind_ok]
  obtain ⟨ws, hr⟩ := hr
  have e1 : recvB .append st (.ref r) = true := by
    show (match st[r]? with | some (.lst _) => true | _ => false) = true
    rw [hr]
  rw [e1]
  dsimp only
  refine eo_bind (eo_cons (h.imp fun w st h => eo_nil ?_))
  obtain ⟨ws, h1, h2, q⟩ := h
  show EO (match st[r]? with
    | some (.lst xs) => if xs.length < sizeLine then R.ok (W.d .non) (setL st r (xs ++ [w])) else .bad
    | _ => .bad) Q
  rw [h1]
  dsimp only
  rw [if_pos (by rw [sizeLine_eq]; omega)]
  exact eo_ok q
theorem eo_ins {m : Bool} {o e f : CE} {r : Nat} (ho : ev T C o env st = .ok (.ref r) st) (hr : ∃ ws, st[r]? = some (.lst ws)) (h : EO (ev T C e env st) fun k st => EO (ev T C f env st) fun w st => ∃ (ws : List W) (j : Nat), k = .d (.int (j : Int)) ∧ j ≤ 2000 ∧ st[r]? = some (.lst ws) ∧ ws.length ≤ 2000 ∧ Q (.d .non) (setL st r (insL j w ws))) : EO (ev T C (.meth .insert m o (.cons e (.cons f .nil))) env st) Q := by
  show EO ((ev T C o env st).bind fun x st => (match recvB .insert st x with
    | true => (evs T C (.cons e (.cons f .nil)) env st).bind fun ws st => meW .insert m x ws st
    | false => .bad)) Q
  rw [ho, R.bind_ok]
  obtain ⟨ws, hr⟩ := hr
  have e1 : recvB .insert st (.ref r) = true := by
    show (match st[r]? with | some (.lst _) => true | _ => false) = true
    rw [hr]
  rw [e1]
  dsimp only
  refine eo_bind (eo_cons (h.imp fun k st h => eo_cons (h.imp fun w st h => eo_nil ?_)))
  obtain ⟨ws, j, rfl, h0, h1, h2, q⟩ := h
  show EO (match st[r]? with
    | some (.lst xs) => if xs.length < sizeLine ∧ (0 : Int) ≤ (j : Int) ∧ (j : Int) < 2 ^ 63 then R.ok (W.d .non) (setL st r (insL ((j : Int).toNat) w xs)) else .bad
    | _ => .bad) Q
  rw [h1]
  dsimp only
  rw [if_pos ⟨by rw [sizeLine_eq]; omega, by omega, by omega⟩, Int.toNat_natCast]
  exact eo_ok q
/-! statements -/
theorem go_nil {Q : Ev → Sto → Prop} (q : Q env st) : GO (execs T C .nil env st) Q := ⟨env, st, rfl, q⟩
theorem go_cons {s : CS} {r : CSs} {Q : Ev → Sto → Prop} (h : GO (exec T C s env st) fun env st => GO (execs T C r env st) Q) : GO (execs T C (.cons s r) env st) Q := by
  obtain ⟨env', st', e, h⟩ := h
  rw [exs_cons, e]
  exact h
theorem ro_cons {s : CS} {r : CSs} (h : GO (exec T C s env st) fun env st => RO (execs T C r env st) Q) : RO (execs T C (.cons s r) env st) Q := by
  obtain ⟨env', st', e, h⟩ := h
  rw [exs_cons, e]
  exact h
theorem ro_ret {e : CE} {r : CSs} (h : EO (ev T C e env st) Q) : RO (execs T C (.cons (.ret e) r) env st) Q := by
  obtain ⟨w, st', e1, q⟩ := h
  exact ⟨w, st', ret_ok e1, q⟩
theorem ro_run {n f : Nat} {fd : FD} {ws : List W} (h : T.fn f = some fd) (hl : ws.length = fd.np) (k : RO (execs T (run T n) fd.body (startE fd.nv ws) st) Q) : EO (run T (n + 1) f ws st) Q := by
  obtain ⟨w, st', e, q⟩ := k
  exact ⟨w, st', by rw [run_eq h hl, e]; rfl, q⟩
theorem go_asg {j : Nat} {e : CE} {Q : Ev → Sto → Prop} (h : EO (ev T C e env st) fun w st => Q (setV env j w) st) : GO (exec T C (.asg j e) env st) Q := by
  obtain ⟨w, st', e1, q⟩ := h
  exact ⟨_, _, by rw [ex_asg, e1]; rfl, q⟩
theorem go_ex {e : CE} {Q : Ev → Sto → Prop} (h : EO (ev T C e env st) fun _ st => Q env st) : GO (exec T C (.ex e) env st) Q := by
  obtain ⟨w, st', e1, q⟩ := h
  exact ⟨_, _, by rw [ex_ex, e1]; rfl, q⟩
theorem go_if {c : CE} {a b : CSs} {Q : Ev → Sto → Prop} (h : EO (ev T C c env st) fun w st => ∃ k, w = .d (.bl k) ∧ (k = true → GO (execs T C a env st) Q) ∧ (k = false → GO (execs T C b env st) Q)) : GO (exec T C (.ifs c a b) env st) Q := by
  obtain ⟨w, st', e1, k, rfl, h1, h2⟩ := h
  cases k with
  | true =>
    rw [ifs_true e1]
    exact h1 rfl
  | false =>
    rw [ifs_false e1]
    exact h2 rfl
theorem forR_go {g : W → Ev → Sto → F} {I : Nat → Ev → Sto → Prop} : ∀ (ws : List W) (j : Nat) (env : Ev) (st : Sto), (∀ k env st, (hk : k < ws.length) → I (j + k) env st → GO (g ws[k] env st) (I (j + k + 1))) → I j env st → GO (forR g ws env st) (I (j + ws.length))
  | [], j, env, st, _, h => ⟨env, st, rfl, h⟩
  | w :: ws, j, env, st, hg, h => by
    obtain ⟨env1, st1, e1, h1⟩ := hg 0 env st (by rw [List.length_cons]; omega) h
    rw [forR_eq, show g w env st = _ from e1]
    have e : j + (w :: ws).length = j + 1 + ws.length := by rw [List.length_cons]; omega
    rw [e]
    refine forR_go ws (j + 1) env1 st1 (fun k env st hk h => ?_) h1
    have := hg (k + 1) env st (by rw [List.length_cons]; omega) (by rw [show j + (k + 1) = j + 1 + k by omega]; exact h)
    rw [show j + (k + 1) + 1 = j + 1 + k + 1 by omega] at this
    exact this
theorem go_for {p : Pa} {it : CI} {b : CSs} {Q : Ev → Sto → Prop} (I : Nat → Ev → Sto → Prop) (h : EO (evI T C it env st) fun x st => ∃ ws : List W, x = .inl ws ∧ I 0 env st ∧ (∀ k env st, (hk : k < ws.length) → I k env st → GO (forG T C p b ws[k] env st) (I (k + 1))) ∧ ∀ env st, I ws.length env st → Q env st) : GO (exec T C (.fors p it b) env st) Q := by
  obtain ⟨x, st', e1, ws, rfl, h0, h1, h2⟩ := h
  rw [exec_for e1]
  have := forR_go (I := I) (g := forG T C p b) ws 0 env st' (fun k env st hk h => by
    rw [Nat.zero_add] at h ⊢
    exact h1 k env st hk h) h0
  rw [Nat.zero_add] at this
  exact this.imp h2
theorem forRef_go {g : W → Ev → Sto → F} {I : Nat → Ev → Sto → Prop} {r : Nat} {ws : List W} (hr : ∀ k env st, I k env st → st[r]? = some (.lst ws)) (hg : ∀ k env st, (hk : k < ws.length) → I k env st → GO (g ws[k] env st) (I (k + 1))) : ∀ (n k : Nat) (env : Ev) (st : Sto), k + n = ws.length → I k env st → GO (forRef g r n k env st) (I ws.length)
  | 0, k, env, st, e, h => by
    unfold forRef
    rw [hr k env st h]
    dsimp only
    rw [if_pos e.symm]
    have : k = ws.length := by omega
    subst this
    exact ⟨env, st, rfl, h⟩
  | n + 1, k, env, st, e, h => by
    have hk : k < ws.length := by omega
    obtain ⟨env1, st1, e1, h1⟩ := hg k env st hk h
    unfold forRef
    rw [hr k env st h]
    dsimp only
    rw [if_pos e.symm, List.getElem?_eq_getElem hk]
    dsimp only
    rw [e1]
    exact forRef_go hr hg n (k + 1) env1 st1 (by omega) h1
theorem go_forRef {p : Pa} {it : CI} {b : CSs} {Q : Ev → Sto → Prop} (r : Nat) (ws : List W) (I : Nat → Ev → Sto → Prop) (h : evI T C it env st = .ok (.inr r) st) (h0 : I 0 env st) (hr : ∀ k env st, I k env st → st[r]? = some (.lst ws)) (h1 : ∀ k env st, (hk : k < ws.length) → I k env st → GO (forG T C p b ws[k] env st) (I (k + 1))) (h2 : ∀ env st, I ws.length env st → Q env st) : GO (exec T C (.fors p it b) env st) Q := by
  show GO ((evI T C it env st).thn env fun its st => (match its with
    | .inl ws => forR (forG T C p b) ws env st
    | .inr i => forRef (forG T C p b) i ((lenO st (.ref i)).getD 0) 0 env st)) Q
  rw [h]
  have hl : (lenO st (.ref r)).getD 0 = ws.length := by
    show (match st[r]? with
      | some (.lst ws) => some ws.length
      | _ => none).getD 0 = _
    rw [hr 0 env st h0]
    rfl
  show GO (forRef (forG T C p b) r ((lenO st (.ref r)).getD 0) 0 env st) Q
  rw [hl]
  exact (forRef_go hr h1 ws.length 0 env st (by omega) h0).imp h2
end
/-! ### shuffled -/
theorem Bx.set {i r : Nat} {st : Sto} {ws : List W} (h : Bx i st) (hr : r ≠ i) : Bx i (setL st r ws) := by
  obtain ⟨a, b, e, hb⟩ := h
  refine ⟨a, b, ?_, hb⟩
  unfold setL
  rw [List.getElem?_set_ne hr]
  exact e
theorem Bx.new {i : Nat} {st : Sto} {o : Ob} (h : Bx i st) : Bx i (st ++ [o]) := by
  obtain ⟨a, b, e, hb⟩ := h
  exact ⟨a, b, by rw [List.getElem?_append_left (List.getElem?_eq_some_iff.mp e).1]; exact e, hb⟩
/-- nothing changed below N but i -/
def Kp (i N : Nat) (st st' : Sto) : Prop := st.length ≤ st'.length ∧ ∀ j, j < N → j ≠ i → st'[j]? = st[j]?
theorem Kp.refl {i N : Nat} {st : Sto} : Kp i N st st := ⟨Nat.le_refl _, fun _ _ _ => rfl⟩
theorem Kp.trans {i N : Nat} {a b c : Sto} (h : Kp i N a b) (k : Kp i N b c) : Kp i N a c := ⟨Nat.le_trans h.1 k.1, fun j h1 h2 => (k.2 j h1 h2).trans (h.2 j h1 h2)⟩
theorem Sm.kp {i N : Nat} {a b : Sto} (h : Sm i a b) (hN : N ≤ a.length) : Kp i N a b := ⟨h.1, fun j h1 h2 => h.2 j (by omega) h2⟩
theorem kp_set {i N r : Nat} {st : Sto} {ws : List W} (h : N ≤ r) : Kp i N st (setL st r ws) := ⟨by unfold setL; rw [List.length_set]; exact Nat.le_refl _, fun j h1 h2 => by unfold setL; rw [List.getElem?_set_ne (by omega)]⟩
theorem kp_new {i N : Nat} {st : Sto} {o : Ob} (h : N ≤ st.length) : Kp i N st (st ++ [o]) := ⟨by rw [List.length_append]; omega, fun j h1 h2 => by rw [List.getElem?_append_left (by omega)]⟩
theorem new_at {st : Sto} {o : Ob} : (st ++ [o])[st.length]? = some o := by
  rw [List.getElem?_append_right (Nat.le_refl _), Nat.sub_self]
  rfl
theorem insL_map (k : Nat) (x : D) (ys : List D) : insL k (W.d x) (ys.map .d) = (insL k x ys).map .d := by
  unfold insL
  rw [List.map_append, List.map_cons, List.map_take, List.map_drop]
theorem insL_perm {α : Type} (k : Nat) (x : α) (ys : List α) : (insL k x ys).Perm (x :: ys) := by
  unfold insL
  refine List.perm_middle.trans (List.Perm.cons x ?_)
  rw [List.take_append_drop]
end LL

set_option Elab.async false
set_option linter.all false
set_option maxRecDepth 100000
set_option maxHeartbeats 1000000
set_option exponentiation.threshold 2000
set_option autoImplicit false
/-! M5x: _law_book. -/
namespace LL
open PySem PySem.Spec PyProof.Rows L2
def mk (base j : Nat) : D := .tup [.int 0, .str "", .int 0, .int ((base + j : Nat) : Int)]
def MkL (base n : Nat) : List D := (List.range n).map (mk base)
section
variable {T : Tab} {C : Cal} {env : Ev} {i : Nat}
theorem dr_rngc {lo hi : Int} {e elt : CE} {v : Nat} {own : List Nat} {f : Nat → D} (he : Dr T C env i e (In lo hi)) (hlo : 0 ≤ lo) (hhi : hi ≤ 900) (hf : ∀ (j : Nat) st, ev T C elt (setV (wipeE env own) v (.d (.int (j : Int)))) st = .ok (.d (f j)) st) : Dr T C env i (.comp false elt (.v v) (.rng1 e) own) (fun c => ∃ n : Nat, lo ≤ (n : Int) ∧ (n : Int) ≤ hi ∧ c = .lst ((List.range n).map f)) := fun st b => by
  obtain ⟨x, st1, e1, b1, s1, k, rfl, k1, k2⟩ := he st b
  have e2 : evI T C (.rng1 e) env st = .ok (.inl (rngL 0 k)) st1 := by
    rw [evI_rng1, e1]
    exact if_pos ⟨by omega, by omega⟩
  obtain ⟨n, rfl⟩ : ∃ n : Nat, k = (n : Int) := ⟨k.toNat, by omega⟩
  refine ⟨.lst ((List.range n).map f), st1, ?_, b1, s1, n, k1, k2, rfl⟩
  show (evI T C (.rng1 e) env st).bind _ = _
  rw [e2]
  show (compR _ (rngL 0 (n : Int)) [] st1).bind _ = _
  have el : rngL 0 (n : Int) = (List.range n).map fun j : Nat => .d (.int (j : Int)) := by
    unfold rngL
    rw [Int.sub_zero, Int.toNat_natCast]
    exact List.map_congr_left fun j _ => by rw [Int.zero_add]
  rw [el, compR_pure (f := fun w => match w with
    | .d (.int k) => some (.d (f k.toNat))
    | _ => none) (fun x hx => ?_) (by rw [List.length_map, List.length_range, sizeLine_eq]; dsimp only [List.length]; omega)]
  · have e3 : ((List.range n).map fun j : Nat => W.d (.int (j : Int))).filterMap (fun w => match w with
      | .d (.int k) => some (W.d (f k.toNat))
      | _ => none) = ((List.range n).map f).map .d := by
      rw [List.filterMap_map, List.map_map, ← List.filterMap_eq_map]
      congr 1
    rw [R.bind_ok, e3, List.nil_append]
    exact newL_d (m := false) (by rw [List.length_map, List.length_range, sizeLine_eq]; omega)
  · obtain ⟨j, _, rfl⟩ := List.mem_map.mp hx
    dsimp only [patV]
    rw [hf, Int.toNat_natCast]
    rfl
theorem dr_tupc {e : CE} {F : List D → Prop} (he : Dr T C env i e (fun c => ∃ xs, c = .lst xs ∧ F xs)) : Dr T C env i (.bi .tup false (.cons e .nil)) (fun c => ∃ xs, c = .tup xs ∧ F xs) := fun st b => by
  obtain ⟨x, st1, e1, b1, s1, xs, rfl, hF⟩ := he st b
  refine ⟨.tup xs, st1, ?_, b1, s1, xs, rfl, hF⟩
  rw [ev_bi, evs_cons, e1]
  show (match itemsL st1 (.d (.lst xs)) with
    | some ws => (match allD ws with
      | some ds => R.ok (W.d (.tup ds)) st1
      | none => .bad)
    | none => .bad) = _
  show (match allD (xs.map .d) with
      | some ds => R.ok (W.d (.tup ds)) st1
      | none => .bad) = _
  rw [allD_m]
theorem tup_ref {m : Bool} {st : Sto} {r : Nat} {ds : List D} (h : st[r]? = some (.lst (ds.map .d))) : biW .tup m [.ref r] st = .ok (.d (.tup ds)) st := by
  show (match itemsL st (.ref r) with
    | some ws => (match allD ws with
      | some ds => R.ok (W.d (.tup ds)) st
      | none => .bad)
    | none => .bad) = _
  have : itemsL st (.ref r) = some (ds.map .d) := by
    show (match st[r]? with
      | some (.lst ws) => some ws
      | _ => none) = _
    rw [h]
  rw [this]
  dsimp only
  rw [allD_m]
end
theorem mk_S {b j : Nat} (h : b + j < 1000) : S 1 (mk b j) := sm_tup.mpr ⟨by show 4 ≤ 900; omega, fun x hx => by
  have hx : x ∈ [D.int 0, .str "", .int 0, .int ((b + j : Nat) : Int)] := hx
  rcases List.mem_cons.mp hx with rfl | hx
  · exact sm_int.mpr (by decide)
  rcases List.mem_cons.mp hx with rfl | hx
  · exact sm_str.mpr ⟨by decide +kernel, by decide +kernel⟩
  rcases List.mem_cons.mp hx with rfl | hx
  · exact sm_int.mpr (by decide)
  rw [List.mem_singleton.mp hx]
  exact sm_int.mpr (by omega)⟩
theorem mkL_S {b n : Nat} (h : b + n < 900) : ∀ x ∈ MkL b n, S 1 x := fun x hx => by
  obtain ⟨j, hj, rfl⟩ := List.mem_map.mp hx
  exact mk_S (by have := List.mem_range.mp hj; omega)
theorem mkL_len {b n : Nat} : (MkL b n).length = n := by unfold MkL; rw [List.length_map, List.length_range]
/-- a frame -/
def Frm (f : D) : Prop := ∃ (a : Str) (rs : List D) (nr nc : Nat), f = .tup [.str a, .tup rs, .tup (MkL 50 nc), .tup []] ∧ rs.Perm (MkL 0 nr) ∧ nr ≤ 5 ∧ nc ≤ 4 ∧ 2 ≤ nr ∧ 2 ≤ nc ∧ (a = "main" ∨ a = "side")
theorem name_S {a : Str} (h : a = "main" ∨ a = "side") {k : Nat} : S k (.str a) := by
  rcases h with rfl | rfl <;> exact sm_str.mpr ⟨by decide +kernel, by decide +kernel⟩
theorem rs_S {rs : List D} {nr : Nat} (h : rs.Perm (MkL 0 nr)) (hn : nr ≤ 5) : S 2 (.tup rs) := sm_tup.mpr ⟨by rw [h.length_eq, mkL_len]; omega, fun x hx => mkL_S (by omega) x (h.mem_iff.mp hx)⟩
theorem cs_S {nc : Nat} (hn : nc ≤ 4) : S 2 (.tup (MkL 50 nc)) := sm_tup.mpr ⟨by rw [mkL_len]; omega, mkL_S (by omega)⟩
theorem frOK_of {a : Str} {rs cells : List D} {nr nc : Nat} (hr : rs.Perm (MkL 0 nr)) (h1 : nr ≤ 5) (h2 : nc ≤ 4) (ha : a = "main" ∨ a = "side") (hl : cells.length ≤ 5000) (hc : ∀ x ∈ cells, pl 20 x = true) : FrOK (.tup [.str a, .tup rs, .tup (MkL 50 nc), .tup cells]) := by
  refine ⟨pl_tup.mpr ⟨by show 4 ≤ 5000; omega, fun x hx => ?_⟩, a, rs, MkL 50 nc, [.tup cells], rfl, name_S ha, rs_S hr h1, cs_S h2⟩
  rcases List.mem_cons.mp hx with rfl | hx
  · exact pl_le (sm_pl (name_S ha (k := 0))) (by omega)
  rcases List.mem_cons.mp hx with rfl | hx
  · exact pl_le (sm_pl (rs_S hr h1)) (by omega)
  rcases List.mem_cons.mp hx with rfl | hx
  · exact pl_le (sm_pl (cs_S h2)) (by omega)
  rw [List.mem_singleton.mp hx]
  exact pl_le (pl_tup.mpr ⟨hl, hc⟩ : pl 21 (.tup cells) = true) (by omega)
theorem Frm.ok {f : D} (h : Frm f) : FrOK f := by
  obtain ⟨a, rs, nr, nc, rfl, h1, h2, h3, h4, h5, h6⟩ := h
  exact frOK_of h1 h2 h3 h6 (by show 0 ≤ 5000; omega) (fun x hx => by cases hx)
theorem sorted_mk {m : Bool} {st : Sto} {rs : List D} {nr : Nat} (h : rs.Perm (MkL 0 nr)) (hn : nr ≤ 5) : biW .sorted false [.d (.tup rs)] st = .ok (.d (.lst (sortD rs))) st := by
  have hm : ∀ x ∈ rs, ∃ j, j < nr ∧ x = mk 0 j := fun x hx => by
    obtain ⟨j, hj, rfl⟩ := List.mem_map.mp (h.mem_iff.mp hx)
    exact ⟨j, List.mem_range.mp hj, rfl⟩
  show (match allD (rs.map .d) with
    | some ds => if ds.all D.shp = true ∧ alikeB ds = true ∧ sortB ds = true ∧ ds.length ≤ sizeLine then newL false ((sortD ds).map .d) st else .bad
    | none => .bad) = _
  rw [allD_m]
  dsimp only
  have c1 : rs.all D.shp = true := by
    rw [List.all_eq_true]
    intro x hx
    obtain ⟨j, hj, rfl⟩ := hm x hx
    exact pl_shp (sm_pl (mk_S (by omega))) (by omega)
  have c2 : alikeB rs = true := by
    unfold alikeB
    rw [List.all_eq_true]
    intro x hx
    rw [List.all_eq_true]
    intro y hy
    obtain ⟨j, hj, rfl⟩ := hm x hx
    obtain ⟨l, hl, rfl⟩ := hm y hy
    rfl
  have c3 : sortB rs = true := by
    unfold sortB
    rw [Bool.or_eq_true]
    left
    rw [List.all_eq_true]
    intro x hx
    obtain ⟨j, hj, rfl⟩ := hm x hx
    rfl
  rw [if_pos ⟨c1, c2, c3, by rw [h.length_eq, mkL_len, sizeLine_eq]; omega⟩]
  exact newL_d (m := false) (by unfold sortD; rw [List.length_mergeSort, h.length_eq, mkL_len, sizeLine_eq]; omega)
theorem sortD_perm {rs : List D} : (sortD rs).Perm rs := List.mergeSort_perm _ _
end LL

set_option Elab.async false
set_option linter.all false
set_option maxRecDepth 100000
set_option maxHeartbeats 1000000
set_option exponentiation.threshold 2000
set_option autoImplicit false
/-! M5y: _law_book. -/
namespace LL
open PySem PySem.Spec PyProof.Rows L2
def CellOK (x : D) : Prop := pl 20 x = true
/-- the list g of cells, at most n; all else below N but the box i as it was -/
def CellSt (i g n : Nat) (st st' : Sto) : Prop := Bx i st' ∧ (∃ cs : List D, st'[g]? = some (.lst (cs.map .d)) ∧ cs.length ≤ n ∧ ∀ x ∈ cs, CellOK x) ∧ (∀ j, j < st.length → j ≠ i → j ≠ g → st'[j]? = st[j]?) ∧ st.length ≤ st'.length
theorem CellSt.add {i g n : Nat} {st st1 st2 : Sto} {x : D} (h : CellSt i g n st st1) (hg : g < st.length) (hgi : g ≠ i) (hn : n ≤ 1000) (b : Bx i st2) (s : Sm i st1 st2) (hx : CellOK x) : ∃ ws : List W, st2[g]? = some (.lst ws) ∧ ws.length ≤ 2000 ∧ CellSt i g (n + 1) st (setL st2 g (ws ++ [.d x])) := by
  obtain ⟨_, ⟨cs, h1, h2, h3⟩, h4, h5⟩ := h
  have e : st2[g]? = some (.lst (cs.map .d)) := (s.2 g (by omega) hgi).trans h1
  refine ⟨cs.map .d, e, by rw [List.length_map]; omega, b.set hgi, ⟨cs ++ [x], by rw [List.map_append]; exact setL_at e, by rw [List.length_append]; dsimp only [List.length]; omega, fun y hy => ?_⟩, fun j a1 a2 a3 => ?_, ?_⟩
  · rcases List.mem_append.mp hy with hy | hy
    · exact h3 y hy
    · rw [List.mem_singleton.mp hy]; exact hx
  · unfold setL
    rw [List.getElem?_set_ne (Ne.symm a3)]
    exact (s.2 j (by omega) a2).trans (h4 j a1 a2 a3)
  · unfold setL
    rw [List.length_set]
    exact Nat.le_trans h5 s.1
theorem CellSt.sm {i g n : Nat} {st st1 st2 : Sto} (h : CellSt i g n st st1) (hg : g < st.length) (hgi : g ≠ i) (b : Bx i st2) (s : Sm i st1 st2) : CellSt i g n st st2 := by
  obtain ⟨_, ⟨cs, h1, h2, h3⟩, h4, h5⟩ := h
  exact ⟨b, ⟨cs, (s.2 g (by omega) hgi).trans h1, h2, h3⟩, fun j a1 a2 a3 => (s.2 j (by omega) a2).trans (h4 j a1 a2 a3), Nat.le_trans h5 s.1⟩
theorem CellSt.le {i g n n' : Nat} {st st1 : Sto} (h : CellSt i g n st st1) (hn : n ≤ n') : CellSt i g n' st st1 := by
  obtain ⟨b, ⟨cs, h1, h2, h3⟩, h4⟩ := h
  exact ⟨b, ⟨cs, h1, by omega, h3⟩, h4⟩
def bkCell : CSs := (.cons (.asg 13 (.call 16 .sh (.cons (.var 2) (.cons (.lit (.int 7)) (.nil))))) (.cons (.ifs (.cmp .Lt (.var 13) (.lit (.int 3))) (.cons (.ex (.meth .append false (.var 10) (.cons (.tup (.cons (.var 11) (.cons (.var 12) (.cons (.call 26 .sh (.cons (.var 2) (.nil))) (.nil))))) (.nil)))) (.nil)) (.cons (.ifs (.cmp .Lt (.var 13) (.lit (.int 6))) (.cons (.ex (.meth .append false (.var 10) (.cons (.tup (.cons (.var 11) (.cons (.var 12) (.cons (.tup (.cons (.lit (.str "=")) (.cons (.call 22 .sh (.cons (.var 2) (.cons (.var 5) (.cons (.call 18 .sh (.cons (.var 2) (.cons (.lst false (.cons (.lit (.int 1)) (.cons (.lit (.int 1)) (.cons (.var 1) (.nil))))) (.nil)))) (.cons (.lit (.bool true)) (.nil)))))) (.nil)))) (.nil))))) (.nil)))) (.nil)) (.nil)) (.nil))) (.nil)))
end LL

set_option Elab.async false
set_option linter.all false
set_option maxRecDepth 100000
set_option maxHeartbeats 1000000
set_option exponentiation.threshold 2000
set_option autoImplicit false
/-! M5z: _law_book. -/
namespace LL
open PySem PySem.Spec PyProof.Rows L2
def bkF : CSs := (.cons (.asg 7 (.bi .tup false (.cons (.call 25 .sh (.cons (.var 2) (.cons (.comp false (.tup (.cons (.lit (.int 0)) (.cons (.lit (.str "")) (.cons (.lit (.int 0)) (.cons (.var 14) (.nil)))))) (.v 14) (.rng1 (.bin .Add false (.lit (.int 2)) (.call 16 .sh (.cons (.var 2) (.cons (.lit (.int 4)) (.nil)))))) [14]) (.nil)))) (.nil)))) (.cons (.asg 8 (.bi .tup false (.cons (.comp false (.tup (.cons (.lit (.int 0)) (.cons (.lit (.str "")) (.cons (.lit (.int 0)) (.cons (.bin .Add false (.lit (.int 50)) (.var 14)) (.nil)))))) (.v 14) (.rng1 (.bin .Add false (.lit (.int 2)) (.call 16 .sh (.cons (.var 2) (.cons (.lit (.int 3)) (.nil)))))) [14]) (.nil)))) (.cons (.ex (.meth .append false (.var 3) (.cons (.tup (.cons (.var 4) (.cons (.var 7) (.cons (.var 8) (.cons (.tup (.nil)) (.nil)))))) (.nil)))) (.nil))))
def bkRow : CSs := (.cons (.fors (.v 12) (.e (.var 8)) bkCell) (.nil))
def bkS : CSs := (.cons (.asg 10 (.lst true (.nil))) (.cons (.fors (.v 11) (.e (.bi .sorted false (.cons (.var 7) (.nil)))) bkRow) (.cons (.asg 6 (.bin .Add false (.var 6) (.tup (.cons (.tup (.cons (.var 4) (.cons (.var 7) (.cons (.var 8) (.cons (.bi .tup false (.cons (.var 10) (.nil))) (.nil)))))) (.nil))))) (.nil))))
theorem evs_of {T : Tab} {C : Cal} {env : Ev} {st : Sto} {e : CE} {es : CEs} {w : W} {ws : List W} (h : ev T C e env st = .ok w st) (k : evs T C es env st = .ok ws st) : evs T C (.cons e es) env st = .ok (w :: ws) st := by
  rw [evs_cons, h, R.bind_ok, k]
  rfl
theorem ev_tup_of {T : Tab} {C : Cal} {env : Ev} {st : Sto} {es : CEs} {ds : List D} (h : evs T C es env st = .ok (ds.map .d) st) (hl : ds.length ≤ 1000) : ev T C (.tup es) env st = .ok (.d (.tup ds)) st := by
  rw [ev_tup, h, R.bind_ok, allD_m]
  exact if_pos (by rw [sizeLine_eq]; omega)
/-- a sheet -/
def Sht (x : D) : Prop := FrOK x
end LL

set_option Elab.async false
set_option linter.all false
set_option maxRecDepth 100000
set_option maxHeartbeats 1000000
set_option exponentiation.threshold 2000
set_option autoImplicit false
/-! N5a: _law_book, end. -/
namespace LL
open PySem PySem.Spec PyProof.Rows L2
theorem cutL_map {α β : Type} (f : α → β) (xs : List α) (lo hi : Option Int) : cutL (xs.map f) lo hi = (cutL xs lo hi).map f := by
  unfold cutL
  rw [List.length_map, List.map_take, List.map_drop]
theorem dr_names {n i : Nat} {env : Ev} (hj : ∀ st, getV env 2 st = .ok (.ref i) st) : Dr tabT (run tabT (n + 1)) env i (.sl false (.lst false (.cons (.lit (.str "main")) (.cons (.lit (.str "side")) (.nil)))) .no (.yes (.bin .Add false (.lit (.int 1)) (.call 16 .sh (.cons (.var 2) (.cons (.lit (.int 2)) (.nil))))))) (fun c => ∃ ys : List D, c = .lst ys ∧ ys.length ≤ 2 ∧ ∀ y ∈ ys, ∃ a : Str, y = .str a ∧ (a = "main" ∨ a = "side")) := fun st b => by
  obtain ⟨x, st1, e1, b1, s1, k, rfl, _, _⟩ := dr_add dr_lit (tk (n := n) (m := 2) hj (by omega) (by omega)) st b
  refine ⟨.lst (cutL [.str "main", .str "side"] none (some k)), st1, ?_, b1, s1, _, rfl, Nat.le_trans cut_len (by show 2 ≤ 2; omega), fun y hy => ?_⟩
  · rw [ev_sl]
    show ((ev tabT (run tabT (n + 1)) (.bin .Add false (.lit (.int ((1 : Nat) : Int))) (.call 16 .sh (.cons (.var 2) (.cons (.lit (.int ((2 : Nat) : Int))) (.nil))))) env st).bind fun w st => (match w with
      | .d (.int i) => R.ok (some i) st
      | _ => .bad)).bind (fun h st => slW false (.d (.lst [.str "main", .str "side"])) none h st) = _
    rw [e1, R.bind_ok]
    show newL false (cutL ([D.str "main", .str "side"].map .d) none (some k)) st1 = _
    rw [cutL_map]
    exact newL_d (m := false) (by have := cut_len (xs := [D.str "main", .str "side"]) (lo := none) (hi := some k); rw [sizeLine_eq]; have : [D.str "main", .str "side"].length = 2 := rfl; omega)
  · have := cut_mem y hy
    rcases List.mem_cons.mp this with rfl | this
    · exact ⟨_, rfl, .inl rfl⟩
    rw [List.mem_singleton.mp this]
    exact ⟨_, rfl, .inr rfl⟩
end LL

set_option Elab.async false
set_option linter.all false
set_option maxRecDepth 100000
set_option maxHeartbeats 1000000
set_option exponentiation.threshold 2000
set_option autoImplicit false
/-! N5b: rules for the law's own text: drawn comprehensions, lists that grow. -/
namespace LL
open PySem PySem.Spec PyProof.Rows L2
section
variable {T : Tab} {C : Cal} {env : Ev} {st : Sto} {i : Nat}
theorem compR_dr {g : W → Sto → R (Option W)} {P : D → Prop} : ∀ (ws : List W) (acc : List D) (st : Sto), (∀ w ∈ ws, ∀ st, Bx i st → ∃ x st', g w st = .ok (some (.d x)) st' ∧ Bx i st' ∧ Sm i st st' ∧ P x) → acc.length + ws.length ≤ 2000 → Bx i st → (∀ x ∈ acc, P x) → ∃ (xs : List D) (st' : Sto), compR g ws (acc.map .d) st = .ok (xs.map .d) st' ∧ Bx i st' ∧ Sm i st st' ∧ xs.length = acc.length + ws.length ∧ ∀ x ∈ xs, P x
  | [], acc, st, _, _, b, ha => ⟨acc, st, rfl, b, Sm.refl, rfl, ha⟩
  | w :: ws, acc, st, hg, hl, b, ha => by
    rw [List.length_cons] at hl
    obtain ⟨x, st1, e1, b1, s1, p⟩ := hg w List.mem_cons_self st b
    obtain ⟨xs, st2, e2, b2, s2, h1, h2⟩ := compR_dr ws (acc ++ [x]) st1 (fun w hw => hg w (List.mem_cons_of_mem _ hw)) (by rw [List.length_append]; dsimp only [List.length]; omega) b1 fun y hy => by
      rcases List.mem_append.mp hy with hy | hy
      · exact ha y hy
      · rw [List.mem_singleton.mp hy]; exact p
    refine ⟨xs, st2, ?_, b2, s1.trans s2, by rw [h1, List.length_append, List.length_cons]; dsimp only [List.length]; omega, h2⟩
    unfold compR
    rw [e1]
    dsimp only
    rw [if_pos (by rw [List.length_map, sizeLine_eq]; omega)]
    rw [List.map_append] at e2
    exact e2
theorem dr_comp {elt : CE} {p : Pa} {it : CI} {own : List Nat} {ws : List W} {P : D → Prop} (hI : ∀ st, evI T C it env st = .ok (.inl ws) st) (hl : ws.length ≤ 900) (hg : ∀ w ∈ ws, ∃ env', patV (wipeE env own) p w = some env' ∧ Dr T C env' i elt P) : Dr T C env i (.comp false elt p it own) (fun c => ∃ xs : List D, c = .lst xs ∧ xs.length = ws.length ∧ ∀ x ∈ xs, P x) := fun st b => by
  obtain ⟨xs, st', e, b', s, h1, h2⟩ := compR_dr (i := i) (g := fun w st => match patV (wipeE env own) p w with
          | some env' => (ev T C elt env' st).bind fun y st => .ok (some y) st
          | none => .bad) (P := P) ws [] st (fun w hw st b => by
      obtain ⟨env', e1, d⟩ := hg w hw
      obtain ⟨x, st1, e2, b1, s1, p⟩ := d st b
      refine ⟨x, st1, ?_, b1, s1, p⟩
      rw [e1]
      dsimp only
      rw [e2]
      rfl) (by dsimp only [List.length]; omega) b (fun x hx => nomatch hx)
  refine ⟨.lst xs, st', ?_, b', s, xs, rfl, by rw [h1]; dsimp only [List.length]; omega, h2⟩
  show (evI T C it env st).bind _ = _
  rw [hI]
  show (compR _ ws [] st).bind _ = _
  exact (congrArg (fun r : R (List W) => r.bind fun ws st => newL false ws st) e).trans (newL_d (m := false) (by rw [h1, sizeLine_eq]; dsimp only [List.length]; omega))
/-- a list of the store and a list -/
theorem eo_addW {r : Nat} {vs ds : List D} {Q : W → Sto → Prop} (hr : st[r]? = some (.lst (vs.map .d))) (hl : vs.length + ds.length ≤ 2000) (q : Q (.ref st.length) (st ++ [.lst ((vs ++ ds).map .d)])) : EO (binW .Add true (.ref r) (.d (.lst ds)) st) Q := by
  have e : itemsL st (.ref r) = some (vs.map .d) := by
    show (match st[r]? with
      | some (.lst ws) => some ws
      | _ => none) = _
    rw [hr]
  show EO (if Operator.Add = Operator.Add then match itemsL st (.ref r), itemsL st (.d (.lst ds)) with
      | some xs, some ys => newL true (xs ++ ys) st
      | _, _ => .bad
    else .bad) Q
  rw [if_pos rfl, e]
  show EO (newL true (vs.map .d ++ ds.map .d) st) Q
  rw [← List.map_append, newL_m (by rw [List.length_map, List.length_append, sizeLine_eq]; omega)]
  exact eo_ok q
theorem eo_addF {vs ds : List D} {Q : W → Sto → Prop} (hl : vs.length + ds.length ≤ 2000) (q : Q (.ref st.length) (st ++ [.lst ((vs ++ ds).map .d)])) : EO (binW .Add true (.d (.lst vs)) (.d (.lst ds)) st) Q := by
  show EO (newL true (vs.map .d ++ ds.map .d) st) Q
  rw [← List.map_append, newL_m (by rw [List.length_map, List.length_append, sizeLine_eq]; omega)]
  exact eo_ok q
theorem go_pure {s : CS} {env' : Ev} {Q : Ev → Sto → Prop} (h : exec T C s env st = .nx env' st) (q : Q env' st) : GO (exec T C s env st) Q := ⟨env', st, h, q⟩
theorem go_for2 {p : Pa} {it : CI} {b : CSs} {x y : W} {Q : Ev → Sto → Prop} (h : evI T C it env st = .ok (.inl [x, y]) st) (k : GO (forG T C p b x env st) fun env st => GO (forG T C p b y env st) Q) : GO (exec T C (.fors p it b) env st) Q := by
  obtain ⟨env1, st1, e1, env2, st2, e2, q⟩ := k
  refine ⟨env2, st2, ?_, q⟩
  rw [exec_for h, forR_eq, e1]
  show forR (forG T C p b) [y] env1 st1 = _
  rw [forR_eq, e2]
  rfl
end
/-- a list of values, all plain, in the store -/
def VS (i r n : Nat) (st : Sto) : Prop := Bx i st ∧ r ≠ i ∧ ∃ vs : List D, st[r]? = some (.lst (vs.map .d)) ∧ vs.length ≤ n ∧ ∀ v ∈ vs, Pl 30 v
section
variable {T : Tab} {C : Cal} {env : Ev} {st : Sto} {i : Nat}
/-- values = values + [..] -/
theorem go_more {r n m j : Nat} {b : CE} {ds : List D} {Q : Ev → Sto → Prop} (h : VS i r n st) (hj : getV env j st = .ok (.ref r) st) (hb : ev T C b env st = .ok (.d (.lst ds)) st) (hd : ds.all (pl 30) = true) (hl : ds.length = m) (hn : n + m ≤ 1000) (q : ∀ r' st', VS i r' (n + m) st' → Q (setV env j (.ref r')) st') : GO (exec T C (.asg j (.bin .Add true (.var j) b)) env st) Q := by
  obtain ⟨b1, hri, vs, h1, h2, h3⟩ := h
  have hi := b1.lt
  refine go_asg (eo_bin (eo_e hj (eo_e hb (eo_addW h1 (by omega) (q _ _ ⟨b1.new, by omega, vs ++ ds, new_at, by rw [List.length_append]; omega, fun v hv => ?_⟩)))))
  rcases List.mem_append.mp hv with hv | hv
  · exact h3 v hv
  · exact List.all_eq_true.mp hd v hv
theorem go_app1 {r n j : Nat} {m : Bool} {b : CE} {d : D} {Q : Ev → Sto → Prop} (h : VS i r n st) (hj : getV env j st = .ok (.ref r) st) (hb : ev T C b env st = .ok (.d d) st) (hd : pl 30 d = true) (hn : n ≤ 1000) (q : ∀ st', VS i r (n + 1) st' → Q env st') : GO (exec T C (.ex (.meth .append m (.var j) (.cons b .nil))) env st) Q := by
  obtain ⟨b1, hri, vs, h1, h2, h3⟩ := h
  refine go_ex (eo_app hj ⟨_, h1⟩ (eo_e hb ⟨_, h1, by rw [List.length_map]; omega, q _ ⟨b1.set hri, hri, vs ++ [d], ?_, by rw [List.length_append]; dsimp only [List.length]; omega, fun v hv => ?_⟩⟩))
  · rw [List.map_append]
    exact setL_at h1
  · rcases List.mem_append.mp hv with hv | hv
    · exact h3 v hv
    · rw [List.mem_singleton.mp hv]; exact hd
end
end LL

set_option Elab.async false
set_option linter.all false
set_option maxRecDepth 100000
set_option maxHeartbeats 4000000
set_option exponentiation.threshold 2000
set_option autoImplicit false
/-! Mk01: the plain law of k01, printed by gen_mk01.py. -/
namespace LL
open PySem PySem.Spec PyProof.Rows L2
def cl13 : List Str := ["InvalidNumber", "InvalidName", "InvalidValue", "InvalidTree", "InvalidText", "InvalidSheets", "InvalidViews", "InvalidRights", "InvalidCell", "InvalidDeed", "InvalidStamp", "InvalidMark", "InvalidBytes"]
abbrev on (v : D) : List D := cl13.map fun c => .exc c "value" v
theorem on_all {v : D} : ∀ x ∈ on v, ∃ c : Str, x = .exc c "value" v ∧ xaL lfl c "value" = true := fun x hx => by
  obtain ⟨c, hc, rfl⟩ := List.mem_map.mp hx
  exact ⟨c, rfl, List.all_eq_true.mp (show (cl13.all fun c => xaL lfl c "value") = true by decide +kernel) c hc⟩
theorem r75 {n : Nat} {v : D} {st : Sto} : run tabT (n + 1) 75 [.d v] st = .ok (.d (.lst (on v))) st := by kernel_rfl
abbrev wd (w : Str) : D := .exc "Undefined" "what" (.str w)
def s13 : CS := (.fors (.v 9) (.rng1 (.bi .len false (.cons (.var 4) (.nil)))) (.cons (.ifs (.cmp .NotEq (.call 74 .pure (.cons (.ix (.var 4) (.var 9)) (.nil))) (.comp false (.disj (.cmp .Eq (.var 13) (.var 9)) (.cmp .GtE (.var 13) (.bi .len false (.cons (.var 4) (.nil))))) (.v 13) (.rng1 (.bin .Add false (.bi .len false (.cons (.var 4) (.nil))) (.lit (.int 2)))) [13])) (.cons (.ret (.lit (.bool false))) (.nil)) (.nil)) (.nil)))
def s14 : CS := (.tri (.cons (.ex (.new 73 "Book" (.cons (.lit (.str "all")) (.cons (.tup (.nil)) (.cons (.tup (.nil)) (.cons (.tup (.nil)) (.cons (.tup (.nil)) (.nil)))))))) (.cons (.ret (.lit (.bool false))) (.nil))) [(13, .isv 10 2 "all")])
theorem e13 {n : Nat} {a0 a1 a2 a3 a5 a6 a7 a8 a9 a10 a11 a12 a13 : Option W} {v : D} {w : Str} {st : Sto} : exec tabT (run tabT (n + 1)) s13 [a0, a1, a2, a3, some (.d (.lst (on v ++ [wd w]))), a5, a6, a7, a8, a9, a10, a11, a12, a13] st = .nx [a0, a1, a2, a3, some (.d (.lst (on v ++ [wd w]))), a5, a6, a7, a8, some (.d (.int 13)), a10, a11, a12, a13] st := by kernel_rfl
theorem e14 {n : Nat} {a0 a1 a2 a3 a4 a5 a6 a7 a8 a9 a10 a11 a12 a13 : Option W} {st : Sto} : exec tabT (run tabT (n + 3)) s14 [a0, a1, a2, a3, a4, a5, a6, a7, a8, a9, a10, a11, a12, a13] st = .ret (.d (.bl true)) (st ++ [.ins "Book" [] []]) := by kernel_rfl
theorem ne_same {T : Tab} {C : Cal} {env : Ev} {st : Sto} {k : Nat} {x : D} {a b : CE} (h1 : ev T C a env st = .ok (.d x) st) (h2 : ev T C b env st = .ok (.d x) st) (h : pl k x = true) (hk : k ≤ 64) : ev T C (.cmp .NotEq a b) env st = .ok (.d (.bl false)) st := by
  rw [ev_cmp, h1, R.bind_ok, h2, R.bind_ok, cmp_ne, eqO_dd (pl_shp h hk) (pl_shp h hk), SeqAt.eqv_refl x.py (pl_lay h).1]
  rfl
theorem att_ok {C : Cal} {env : Ev} {st : Sto} {f c : Str} {v : D} {a : CE} (h : ev tabT C a env st = .ok (.d (.exc c f v)) st) (hx : xaL lfl c f = true) : ev tabT C (.att f a) env st = .ok (.d v) st := by
  show (ev tabT C a env st).bind _ = _
  rw [h]
  show (if xaL lfl c f = true ∧ f = f then R.ok (W.d v) st else .bad) = _
  rw [if_pos ⟨hx, rfl⟩]
theorem lst_add {xs ys : List D} {st : Sto} (h : xs.length + ys.length ≤ 2000) : binW .Add false (.d (.lst xs)) (.d (.lst ys)) st = .ok (.d (.lst (xs ++ ys))) st := by
  show newL false (xs.map W.d ++ ys.map W.d) st = _
  rw [← List.map_append]
  exact newL_d (m := false) (by rw [List.length_append, sizeLine_eq]; omega)
/-! ### the draws -/
section
variable {env : Ev} {i j : Nat}
theorem dr_strN {n m : Nat} {e : CE} (h : Dr tabT (run tabT n) env i e (IsN m)) (hm : m < 2 ^ 100) : Dr tabT (run tabT n) env i (.bi .str false (.cons e .nil)) (fun x => ∃ k : Nat, k < m ∧ x = .str (toString (k : Int))) := fun st b => by
  obtain ⟨x, st1, e1, b1, s1, k, hk, rfl⟩ := h st b
  refine ⟨_, st1, ?_, b1, s1, k, hk, rfl⟩
  rw [ev_bi, evs_cons, e1, R.bind_ok, evs_nil, R.bind_ok, R.bind_ok]
  show (if ((k : Int)).natAbs.log2 < 1920 then R.ok (W.d (.str (toString (k : Int)))) st1 else .bad) = _
  rw [if_pos]
  have := log2_lt (n := k) (k := 100) (by omega) (by omega)
  show k.log2 < 1920
  omega
def okT (k : Nat) : Bool := decide (("text " : Str).length + (toString (k : Int) : Str).length ≤ sizeLine) && decide ((("text " : Str) ++ (toString (k : Int) : Str)).length ≤ 900) && PyData.strOk (("text " : Str) ++ (toString (k : Int) : Str))
theorem okT_all : ∀ k < 99, okT k = true := fun k hk => List.all_eq_true.mp (show (List.range 99).all okT = true by decide +kernel) k (List.mem_range.mpr hk)
theorem s1_ok {n : Nat} (hj : ∀ st, getV env 1 st = .ok (.ref i) st) : Dr tabT (run tabT (n + 1)) env i (.lst false (.cons (.bin .Sub false (.call 16 .sh (.cons (.var 1) (.cons (.bin .Pow false (.lit (.int 10)) (.lit (.int 6))) (.nil)))) (.lit (.int 500000))) (.cons (.bin .Add false (.lit (.str "text ")) (.bi .str false (.cons (.call 16 .sh (.cons (.var 1) (.cons (.lit (.int 99)) (.nil)))) (.nil)))) (.cons (.tup (.cons (.lit (.int 1)) (.cons (.call 16 .sh (.cons (.var 1) (.cons (.lit (.int 9)) (.nil)))) (.nil)))) (.nil))))) (fun c => ∃ xs : List D, c = .lst xs ∧ xs.length = 3 ∧ ∀ x ∈ xs, S 2 x) := by
  refine dr_lst (P := fun l => l.length = 3 ∧ ∀ x ∈ l, S 2 x) (drl_all ?_ (drl_all ?_ (drl_all ?_ drl_end))) fun xs h => ⟨by omega, xs, rfl, h⟩
  · exact dr_int (dr_sub (Dr.imp (dr_take (m := 1000000) hj (by omega) (by omega) (dr_pure (fun _ => rfl) rfl)) fun _ h => h.in) dr_lit)
  · refine dr_bin (P := fun x => x = .str "text ") (dr_pure (fun _ => rfl) rfl) (dr_strN (dr_take (m := 99) hj (by omega) (by omega) (dr_pure (fun _ => rfl) rfl)) (by omega)) fun x y hx hy st => ?_
    subst hx
    obtain ⟨k, hk, rfl⟩ := hy
    have h := okT_all k hk
    unfold okT at h
    simp only [Bool.and_eq_true, decide_eq_true_eq] at h
    refine ⟨_, if_pos ⟨rfl, h.1.1⟩, sm_str.mpr ⟨h.1.2, h.2⟩⟩
  · exact dr_tup (P := fun l => l.length = 2 ∧ ∀ x ∈ l, S 1 x) (drl_all (dr_int dr_lit) (drl_all (dr_int (Dr.imp (dr_take (m := 9) hj (by omega) (by omega) (dr_pure (fun _ => rfl) rfl)) fun _ h => h.in)) drl_end)) fun xs h => ⟨by omega, sm_tup.mpr ⟨by omega, h.2⟩⟩
theorem s2_ok {n : Nat} (hj : ∀ st, getV env 1 st = .ok (.ref i) st) : Dr tabT (run tabT (n + 1)) env i (.lst false (.cons (.lst false (.cons (.call 16 .sh (.cons (.var 1) (.cons (.lit (.int 9)) (.nil)))) (.nil))) (.cons (.lit .none) (.cons (.lit (.bool true)) (.cons (.tup (.nil)) (.nil)))))) (fun c => ∃ xs : List D, c = .lst xs ∧ xs.length = 4 ∧ ∀ x ∈ xs, S 2 x) := by
  refine dr_lst (P := fun l => l.length = 4 ∧ ∀ x ∈ l, S 2 x) (drl_all ?_ (drl_all (dr_pure (x := .non) (fun _ => rfl) (show sm 2 .non = true from rfl)) (drl_all (dr_pure (x := .bl true) (fun _ => rfl) (show sm 2 (.bl true) = true from rfl)) (drl_all (dr_pure (x := .tup []) (fun _ => rfl) (show sm 2 (.tup []) = true from rfl)) drl_end)))) fun xs h => ⟨by omega, xs, rfl, h⟩
  exact dr_lst (P := fun l => l.length = 1 ∧ ∀ x ∈ l, S 1 x) (drl_all (dr_int (Dr.imp (dr_take (m := 9) hj (by omega) (by omega) (dr_pure (fun _ => rfl) rfl)) fun _ h => h.in)) drl_end) fun xs h => ⟨by omega, sm_lst.mpr ⟨by omega, h.2⟩⟩
end
theorem law_math : ∀ ns : List Int, ns.length ≤ 63 → ∃ st, run tabT 40 76 [scr ns] [] = .ok (.d (.bl true)) st := by
  intro ns hns
  suffices h : EO (run tabT (39 + 1) 76 [scr ns] []) (fun w _ => w = .d (.bl true)) by
    obtain ⟨w, st, e, rfl⟩ := h
    exact ⟨st, e⟩
  refine ro_run (fd := fd76) rfl rfl ?_
  show RO (execs tabT (run tabT 39) b76 [some (scr ns), none, none, none, none, none, none, none, none, none, none, none, none, none] []) _
  unfold b76
  obtain ⟨o1, e1, b1⟩ := new_box (n := 38) (j := 0) (k := 0) (env := [some (scr ns), none, none, none, none, none, none, none, none, none, none, none, none, none]) (st := []) (ns := ns) (fun _ => rfl) (by omega) (by omega)
  refine ro_cons (go_asg (eo_e e1 ?_))
  show RO (execs tabT (run tabT 39) _ [some (scr ns), some (.ref 0), none, none, none, none, none, none, none, none, none, none, none, none] ([] ++ [o1])) _
  generalize [] ++ [o1] = st at *
  refine ro_cons (go_asg (dr_eo (s1_ok (n := 38) fun _ => rfl) b1 fun x st1 hx b1 s1 => ?_))
  obtain ⟨xs, rfl, hxl, hxs⟩ := hx
  refine ro_cons (go_asg (eo_bin (eo_e (w := .d (.lst xs)) rfl (dr_eo (s2_ok (n := 38) fun _ => rfl) b1 fun y st2 hy b2 s2 => ?_))))
  obtain ⟨ys, rfl, hyl, hys⟩ := hy
  rw [lst_add (by omega)]
  refine eo_ok ?_
  have hal : ∀ z ∈ xs ++ ys, S 2 z := fun z hz => (List.mem_append.mp hz).elim (hxs z) (hys z)
  have hlen : (xs ++ ys).length = 7 := by rw [List.length_append, hxl, hyl]
  clear e1
  generalize xs ++ ys = some_ at *
  have pick : ∀ {env : Ev}, (∀ st, getV env 1 st = .ok (.ref 0) st) → (∀ st, getV env 2 st = .ok (.d (.lst some_)) st) → Dr tabT (run tabT 39) env 0 (.call 18 .sh (.cons (.var 1) (.cons (.var 2) (.nil)))) (fun x => pl 2 x = true) := fun {env} h1 h2 =>
    dr_pick (n := 37) h1 (dr_pure h2 ⟨some_, by omega, by omega, fun z hz => sm_pl (hal z hz), .inl rfl⟩)
  refine ro_cons (go_asg (dr_eo (pick (fun _ => rfl) fun _ => rfl) b2 fun v st3 hv b3 s3 => ?_))
  refine ro_cons (go_asg (eo_e (ev_pure (fd := fd75) (ds := [v]) rfl rfl (r75 (n := 38))) ?_))
  show RO (execs tabT (run tabT 39) _ [some (scr ns), some (.ref 0), some (.d (.lst some_)), some (.d v), some (.d (.lst (on v))), none, none, none, none, none, none, none, none, none] st3) _
  refine ro_cons (go_for (fun k env' st' => ∃ w5 : Option W, env' = [some (scr ns), some (.ref 0), some (.d (.lst some_)), some (.d v), some (.d (.lst (on v))), w5, none, none, none, none, none, none, none, none] ∧ st' = st3) ⟨_, _, rfl, (on v).map .d, rfl, ⟨none, rfl, rfl⟩, ?_, ?_⟩)
  · intro k env st hk hI
    obtain ⟨w5, rfl, rfl⟩ := hI
    rw [List.length_map] at hk
    rw [List.getElem_map]
    obtain ⟨c, hc, hx⟩ := on_all _ (List.getElem_mem hk)
    rw [hc]
    show GO (execs tabT (run tabT 39) (.cons (.ifs (.cmp .NotEq (.att "value" (.var 5)) (.var 3)) (.cons (.ret (.lit (.bool false))) (.nil)) (.nil)) (.nil)) [some (scr ns), some (.ref 0), some (.d (.lst some_)), some (.d v), some (.d (.lst (on v))), some (.d (.exc c "value" v)), none, none, none, none, none, none, none, none] _) _
    exact go_cons (go_if (eo_e (ne_same (att_ok rfl hx) rfl hv (by omega)) ⟨false, rfl, (fun h => nomatch h), fun _ => go_nil (go_nil ⟨_, rfl, rfl⟩)⟩))
  intro env st4 hI
  obtain ⟨w5, rfl, rfl⟩ := hI
  refine ro_cons (go_asg (dr_eo (pick (fun _ => rfl) fun _ => rfl) b3 fun o st5 ho b5 s5 => ?_))
  refine ro_cons (go_asg (eo_e (ev_pure (fd := fd75) (ds := [o]) rfl rfl (r75 (n := 38))) ?_))
  show RO (execs tabT (run tabT 39) _ [some (scr ns), some (.ref 0), some (.d (.lst some_)), some (.d v), some (.d (.lst (on v))), w5, some (.d o), some (.d (.lst (on o))), none, none, none, none, none, none] st5) _
  have hat : ∀ (z : D) (k : Nat), k < 13 → ∃ c, atI (on z) (k : Int) = some (.exc c "value" z) ∧ xaL lfl c "value" = true := fun z k hk => by
    have hk2 : k < (on z).length := hk
    obtain ⟨c, hc, hx⟩ := on_all _ (List.getElem_mem hk2)
    refine ⟨c, ?_, hx⟩
    rw [← hc]
    unfold atI ixN
    rw [if_pos (by omega), if_pos (by omega)]
    show (on z)[(k : Int).toNat]? = _
    rw [Int.toNat_natCast]
    exact List.getElem?_eq_getElem hk2
  have cmpE : ev tabT (run tabT 39) (.compIf false (.var 9) (.v 9) (.rng1 (.bi .len false (.cons (.var 4) (.nil)))) (.disj (.cmp .NotEq (.att "value" (.ix (.var 4) (.var 9))) (.var 3)) (.cmp .NotEq (.att "value" (.ix (.var 7) (.var 9))) (.var 6))) [9]) [some (scr ns), some (.ref 0), some (.d (.lst some_)), some (.d v), some (.d (.lst (on v))), w5, some (.d o), some (.d (.lst (on o))), none, none, none, none, none, none] st5 = .ok (.d (.lst [])) st5 := by
    refine (ev_compIf_pure (ws := rngL 0 13) (f := id) (q := fun _ => false) (by kernel_rfl) (by decide +kernel) fun w hw => ?_).trans ?_
    · obtain ⟨k, hk, rfl⟩ := List.mem_map.mp hw
      have hk : k < 13 := List.mem_range.mp hk
      obtain ⟨c, h1, h2⟩ := hat v k hk
      obtain ⟨c', h1', h2'⟩ := hat o k hk
      refine ⟨[some (scr ns), some (.ref 0), some (.d (.lst some_)), some (.d v), some (.d (.lst (on v))), w5, some (.d o), some (.d (.lst (on o))), none, some (.d (.int (0 + (k : Int)))), none, none, none, none], rfl, ?_, fun h => nomatch h⟩
      have z0 : (0 : Int) + (k : Int) = (k : Int) := Int.zero_add _
      rw [z0]
      refine congrArg R.tst (ev_or (p := false) (q := false) (ne_same (att_ok (c := c) ?_ h2) rfl hv (by omega)) fun _ => ne_same (att_ok (c := c') ?_ h2') rfl ho (by omega))
      · show ofO ((atI (on v) (k : Int)).map W.d) st5 = _
        rw [h1]
        rfl
      · show ofO ((atI (on o) (k : Int)).map W.d) st5 = _
        rw [h1']
        rfl
    · rfl
  refine ro_cons (go_if (eo_e (ne_same (k := 1) (x := .lst []) cmpE rfl (by decide) (by omega)) ⟨false, rfl, (fun h => nomatch h), fun _ => go_nil ?_⟩))
  have pk2 : Dr tabT (run tabT 39) [some (scr ns), some (.ref 0), some (.d (.lst some_)), some (.d v), some (.d (.lst (on v))), w5, some (.d o), some (.d (.lst (on o))), none, none, none, none, none, none] 0 (.call 18 .sh (.cons (.var 1) (.cons (.lst false (.cons (.lit (.str "veiled")) (.cons (.lit (.str "void")) (.nil)))) (.nil)))) (fun x => ∃ z : Str, x = .str z ∧ pl 0 x = true) :=
    dr_pickL (n := 37) (k := 2) (fun _ => rfl) (by omega) (drl_all (dr_pure (fun _ => rfl) ⟨_, rfl, by decide +kernel⟩) (drl_all (dr_pure (fun _ => rfl) ⟨_, rfl, by decide +kernel⟩) drl_end))
  refine ro_cons (go_asg (dr_eo pk2 b5 fun w st6 hw b6 s6 => ?_))
  obtain ⟨z, rfl, hz⟩ := hw
  refine ro_cons (go_pure (env' := [some (scr ns), some (.ref 0), some (.d (.lst some_)), some (.d v), some (.d (.lst (on v))), w5, some (.d o), some (.d (.lst (on o))), some (.d (.str z)), none, none, some (.d (wd z)), some (.d (wd "veiled")), none]) rfl ?_)
  refine ro_cons (go_if (eo_e (ev_or (p := false) (q := false) (ne_same (att_ok (c := "Undefined") rfl (by decide +kernel)) rfl hz (by omega)) fun _ => ne_same (k := 0) (att_ok (c := "Undefined") (v := .str "veiled") rfl (by decide +kernel)) rfl (by decide +kernel) (by omega)) ⟨false, rfl, (fun h => nomatch h), fun _ => go_nil ?_⟩))
  refine ro_cons (go_asg (eo_bin (eo_e (w := .d (.lst (on v))) rfl (eo_e (w := .d (.lst [wd z])) (st' := st6) rfl ?_))))
  rw [lst_add (by show 13 + 1 ≤ 2000; omega)]
  refine eo_ok (ro_cons (go_pure e13 ?_))
  refine ⟨.d (.bl true), st6 ++ [.ins "Book" [] []], ?_, rfl⟩
  show seqF (exec tabT (run tabT (36 + 3)) s14 _ _) _ = _
  rw [e14]
  rfl
end LL

set_option Elab.async false
set_option linter.all false
set_option maxRecDepth 100000
set_option maxHeartbeats 0
set_option autoImplicit false
open PySem PySem.W PySem.Calls PyProof.Rows
theorem PySem.Challenge.cw_ledgerloom_k01_errors_holds : PySem.Challenge.rw_ledgerloom_k01_errors.Holds := by
  w_on; o_law
  refine HandSHeadRun.head_imp (r := OpenLaw.row PySem.Challenge.rw_ledgerloom_k01_errors) (q := view (OpenLaw.row PySem.Challenge.rw_ledgerloom_k01_errors).prog [0, 91]) (H := LL.hk) (ob := LL.ob) (M := 12000) (loose := LL.loose) (d := HandSHeadRun.topDef (OpenLaw.row PySem.Challenge.rw_ledgerloom_k01_errors).prog 91) (kwd := []) LL.ob_eq LL.run_top
    (by kernel_rfl) (by kernel_rfl) (by kernel_rfl) (by rfl) (by first | assumption | decide +kernel) (by decide +kernel) ⟨rfl, rfl, rfl, rfl, rfl, by decide +kernel⟩ ?hw ?hc
  case hw => w_witness2
  case hc =>
    refine LL.walk_ofX (l := PySem.Challenge.rw_ledgerloom_k01_errors) (n := 63) (k := 2 * 40 + 2) (x := "script") rfl (by decide) (by kernel_rfl) ⟨rfl, by decide, by decide⟩ ?F
    intro w mg fa h Y G hmg0
    obtain ⟨K, KX, c⟩ := Y
    have hmg : mg ("law" : PySem.Str) = some (.ref fa) := by
      have e : (HandSHeadRun.topDef (OpenLaw.row PySem.Challenge.rw_ledgerloom_k01_errors).prog 91).name = ("law" : PySem.Str) := by kernel_rfl
      rw [← e]
      exact hmg0
    obtain ⟨fd, hb, hF⟩ := LL.law_ok (P := (PySem.Challenge.rw_ledgerloom_k01_errors).prog) (w := w) (k := 40) KX G c hmg
    exact ⟨K, fd, _, KX, hb, LL.law_sp LL.law_math, fun base _ _ => hF base⟩
