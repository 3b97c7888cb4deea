import PyProof.Rows.All
import Wide.All
import OpenK.AllK
import Wide.FinOn
import HandS.ForMost
import HandS.ForExc
import HandS.TupAny
import HandS.TupMul
import HandS.Wide
import HandS.IsInst
import HandS.More
import HandS.Deep
import KE.KEqDict
import HandS.Iter
import HandS.Text
import HandS.TupLen
import KE.LtSeq
import HandS.DictTup
import HandS.Style
import KE.KIntText
import HandS.Conv
import HandS.SortInts
import KE.KDictPairs
import KE.KDictKeyed
import PyProof.ReprRoads
import HandS.Flow
import KE.KIndexOf
import HandS.Dict
import HandS.Comp
import HandS.WideMore
import HandS.Walk
import HandS.Zip
import HandS.Rev
import HandS.DictComp
import HandS.Codes
import HandS.Defaults
import PyProof.StrLawsRepr
import PyProof.Rows.StrFit
import KE.KStrOpen
import PyProof.Rows.StrFin3
import PySem.Challenge.RW_woundwalks_k23_rows_gone
set_option Elab.async false
set_option linter.all false
set_option maxRecDepth 100000
/-! A small evaluator of my own for the Python that stands in these laws: data, a store of lists, dicts and instances, expressions, statements. -/
namespace WW
open PySem
abbrev Key := L2.Key
/-- a value: data that never changes, a thing of the store, a tuple with such things in it -/
inductive D where
  | py (d : PyData)
  | loc (n : Nat)
  | tup (ds : List D)
/-- a thing of the store; lck: one that is walked, and may be read alone -/
inductive SO where
  | lst (xs : List D)
  | dK (kvs : List (Key × D))
  | dT (kvs : List (List Key × D))
  | ins (c : Nat) (fs : List (Str × D))
  | lck (o : SO)
abbrev Store := List SO
abbrev Env := List (Option D)
inductive R (α : Type) where
  | stuck
  | ok (a : α) (st : Store)
  | exc (c : Nat) (fs : List (Str × D)) (st : Store)
def R.bind {α β : Type} (r : R α) (f : α → Store → R β) : R β := match r with
  | .stuck => .stuck
  | .ok a st => f a st
  | .exc c fs st => .exc c fs st
@[simp] theorem R.bind_ok {α β : Type} (a : α) (st : Store) (f : α → Store → R β) : (R.ok a st).bind f = f a st := rfl
@[simp] theorem R.bind_stuck {α β : Type} (f : α → Store → R β) : (R.stuck : R α).bind f = .stuck := rfl
@[simp] theorem R.bind_exc {α β : Type} (c : Nat) (fs : List (Str × D)) (st : Store) (f : α → Store → R β) : (R.exc c fs st : R α).bind f = .exc c fs st := rfl
/-- within a comprehension nothing may be raised -/
def R.nox {α : Type} (r : R α) : R α := match r with
  | .exc _ _ _ => .stuck
  | r => r
@[simp] theorem R.nox_ok {α : Type} (a : α) (st : Store) : (R.ok a st).nox = .ok a st := rfl
@[simp] theorem R.nox_stuck {α : Type} : (R.stuck : R α).nox = .stuck := rfl
abbrev Fn := List D → Store → R D
def giveS {α : Type} (st : Store) : Option α → R α
  | some d => .ok d st
  | none => .stuck
@[simp] theorem giveS_some {α : Type} (st : Store) (d : α) : giveS st (some d) = .ok d st := rfl
@[simp] theorem giveS_none {α : Type} (st : Store) : giveS st (none : Option α) = .stuck := rfl
abbrev give (st : Store) (o : Option D) : R D := giveS st o
def giveU : Option (D × Store) → R D
  | some (d, st) => .ok d st
  | none => .stuck
@[simp] theorem giveU_some (d : D) (st : Store) : giveU (some (d, st)) = .ok d st := rfl
@[simp] theorem giveU_none : giveU none = .stuck := rfl
/-- what is read at a place -/
def unl : SO → SO
  | .lck o => o
  | o => o
def getS (st : Store) (n : Nat) : Option SO := (st[n]?).map unl

/-! ### data -/
def keyD : Key → PyData
  | .inl i => .int i
  | .inr x => .str x
def keyP : PyData → Option Key
  | .int i => some (.inl i)
  | .str x => some (.inr x)
  | _ => none
def keysP : List PyData → Option (List Key)
  | [] => some []
  | d :: ds => (keyP d).bind fun k => (keysP ds).map (k :: ·)
/-- a dict's key: one, or a tuple of such -/
inductive DK where
  | one (k : Key)
  | many (ks : List Key)
  deriving DecidableEq
/-- the tuples of the text's own top -/
def kTup (_ : List PyData) : Bool := false
def dkey : D → Option DK
  | .py (.tuple ds) => if kTup ds = true then none else (keysP ds).map .many
  | .py d => (keyP d).map .one
  | _ => none
def allPy : List D → Option (List PyData)
  | [] => some []
  | .py d :: ds => (allPy ds).map (d :: ·)
  | _ => none
@[simp] theorem allPy_nil : allPy [] = some [] := rfl
@[simp] theorem allPy_cons (d : PyData) (ds : List D) : allPy (.py d :: ds) = (allPy ds).map (d :: ·) := rfl
@[simp] theorem allPy_loc (n : Nat) (ds : List D) : allPy (.loc n :: ds) = none := rfl
@[simp] theorem allPy_tup (n : List D) (ds : List D) : allPy (.tup n :: ds) = none := rfl
@[simp] theorem allPy_map (ds : List PyData) : allPy (ds.map .py) = some ds := by
  induction ds with
  | nil => rfl
  | cons d ds ih => simp [ih]
theorem allPy_eq : ∀ {ds : List D} {ps : List PyData}, allPy ds = some ps → ds = ps.map .py
  | [], ps, h => by cases h; rfl
  | .py d :: ds, ps, h => by
    simp only [allPy_cons, Option.map_eq_some_iff] at h
    obtain ⟨qs, h1, rfl⟩ := h
    rw [allPy_eq h1]; rfl
  | .loc _ :: _, _, h => nomatch h
  | .tup _ :: _, _, h => nomatch h
/-- a tuple -/
def mkT (ds : List D) : D := match allPy ds with
  | some ps => .py (.tuple ps)
  | none => .tup ds
/-- what stands there as data, things of the store read -/
def toPyL (f : D → Option PyData) : List D → Option (List PyData)
  | [] => some []
  | d :: ds => (f d).bind fun p => (toPyL f ds).map (p :: ·)
def toPyK (f : D → Option PyData) : List (Key × D) → Option (List (PyData × PyData))
  | [] => some []
  | (k, d) :: ds => (f d).bind fun p => (toPyK f ds).map ((keyD k, p) :: ·)
def toPyT (f : D → Option PyData) : List (List Key × D) → Option (List (PyData × PyData))
  | [] => some []
  | (k, d) :: ds => (f d).bind fun p => (toPyT f ds).map ((.tuple (k.map keyD), p) :: ·)
def toPyO (f : D → Option PyData) : SO → Option PyData
  | .lst xs => (toPyL f xs).map .list
  | .dK kvs => (toPyK f kvs).map .dict
  | .dT kvs => (toPyT f kvs).map .dict
  | _ => none
def toPyF (st : Store) : Nat → D → Option PyData
  | _, .py d => some d
  | 0, _ => none
  | n + 1, .tup ds => (toPyL (toPyF st n) ds).map .tuple
  | n + 1, .loc k => (getS st k).bind (toPyO (toPyF st n))
def emT : SO → Bool
  | .dT [] => true
  | _ => false
/-- data made of things of the store that nobody changes any more (p: which may be taken so) -/
def frzD (p : Nat → Bool) (st : Store) : Nat → D → Option PyData
  | _, .py d => some d
  | 0, _ => none
  | n + 1, .tup ds => (toPyL (frzD p st n) ds).map .tuple
  | n + 1, .loc k => if p k = true then (st[k]?).bind fun o => if emT o = true then none else toPyO (frzD p st n) o else none
@[simp] theorem frzD_py (p : Nat → Bool) (st : Store) (n : Nat) (d : PyData) : frzD p st n (.py d) = some d := by cases n <;> rfl
theorem frzD_loc (p : Nat → Bool) (st : Store) (n k : Nat) : frzD p st (n + 1) (.loc k) = if p k = true then (st[k]?).bind fun o => if emT o = true then none else toPyO (frzD p st n) o else none := rfl
theorem frzD_tup (p : Nat → Bool) (st : Store) (n : Nat) (ds : List D) : frzD p st (n + 1) (.tup ds) = (toPyL (frzD p st n) ds).map .tuple := rfl
@[simp] theorem toPyL_nil (f : D → Option PyData) : toPyL f [] = some [] := rfl
theorem toPyL_cons (f : D → Option PyData) (d : D) (ds : List D) : toPyL f (d :: ds) = (f d).bind fun p => (toPyL f ds).map (p :: ·) := rfl
@[simp] theorem frzL_map (p : Nat → Bool) (st : Store) (n : Nat) (ds : List PyData) : toPyL (frzD p st n) (ds.map .py) = some ds := by
  induction ds with
  | nil => rfl
  | cons d ds ih => simp [toPyL, ih]
/-- as deep as we look -/
abbrev toPy (st : Store) (d : D) : Option PyData := toPyF st 8 d
@[simp] theorem toPyF_py (st : Store) (n : Nat) (d : PyData) : toPyF st n (.py d) = some d := by cases n <;> rfl
theorem toPyF_loc (st : Store) (n k : Nat) : toPyF st (n + 1) (.loc k) = (getS st k).bind (toPyO (toPyF st n)) := rfl
theorem toPyF_tup (st : Store) (n : Nat) (ds : List D) : toPyF st (n + 1) (.tup ds) = (toPyL (toPyF st n) ds).map .tuple := rfl
@[simp] theorem toPyL_map (st : Store) (n : Nat) (ds : List PyData) : toPyL (toPyF st n) (ds.map .py) = some ds := by
  induction ds with
  | nil => rfl
  | cons d ds ih => simp [toPyL, ih]
/-- a list's items (as they stand), a tuple's, of either -/
def asL (st : Store) : D → Option (List D)
  | .py (.list ds) => some (ds.map .py)
  | .loc n => match getS st n with
    | some (.lst xs) => some xs
    | _ => none
  | _ => none
/-- a list that is walked by nobody -/
def asM (st : Store) : D → Option (List D)
  | .py (.list ds) => some (ds.map .py)
  | .loc n => match st[n]? with
    | some (.lst xs) => some xs
    | _ => none
  | _ => none
def asT : D → Option (List D)
  | .py (.tuple ds) => some (ds.map .py)
  | .tup ds => some ds
  | _ => none
def asLT (st : Store) (d : D) : Option (List D) := match asT d with
  | some xs => some xs
  | none => asL st d

def look {κ β : Type} [DecidableEq κ] (kvs : List (κ × β)) (k : κ) : Option β := (kvs.find? fun kv => decide (kv.1 = k)).map (·.2)
def put {κ β : Type} [DecidableEq κ] (kvs : List (κ × β)) (k : κ) (v : β) : List (κ × β) := if (kvs.any fun kv => decide (kv.1 = k)) = true then kvs.map fun kv => if kv.1 = k then (kv.1, v) else kv else kvs ++ [(k, v)]
def keysOne : List (PyData × PyData) → Option (List (Key × PyData))
  | [] => some []
  | (k, v) :: r => (keyP k).bind fun k => (keysOne r).map ((k, v) :: ·)
def keyMany : PyData → Option (List Key)
  | .tuple ds => keysP ds
  | _ => none
def keysMany : List (PyData × PyData) → Option (List (List Key × PyData))
  | [] => some []
  | (k, v) :: r => (keyMany k).bind fun k => (keysMany r).map ((k, v) :: ·)
/-- what a dict holds at a key: none of no dict; some none where it isn't there -/
def getO (st : Store) (a : D) (k : DK) : Option (Option D) := match a with
  | .loc n => match getS st n, k with
    | some (.dK kvs), .one k => some (look kvs k)
    | some (.dT kvs), .many k => some (look kvs k)
    | _, _ => none
  | .py (.dict kvs) => match k with
    | .one k => (keysOne kvs).map fun es => (look es k).map .py
    | .many k => match kvs with
      | [] => none
      | _ :: _ => (keysMany kvs).map fun es => (look es k).map .py
  | _ => none
def isD (st : Store) : D → Bool
  | .py (.dict _) => true
  | .loc n => match getS st n with
    | some (.dK _) => true
    | some (.dT _) => true
    | _ => false
  | _ => false
/-! ### operators -/
/-- two things that == compares by PyData.eqv -/
def flat : PyData → Bool
  | .none | .bool _ | .int _ | .str _ => true
  | _ => false
def bothS : PyData → PyData → Bool
  | .str _, .str _ => true
  | _, _ => false
def eqs (p q : PyData) : Bool := bothS p q || (SeqAt.shaped p && SeqAt.shaped q)
def eqV (st : Store) (a b : D) : Option Bool := (toPy st a).bind fun p => (toPy st b).bind fun q => if eqs p q = true then some (PyData.eqv p q) else none
/-- a dict's keys, ints and texts -/
def keysK (st : Store) : D → Option (List Key)
  | .py (.dict kvs) => (keysOne kvs).map fun es => es.map (·.1)
  | .loc n => match getS st n with
    | some (.dK kvs) => some (kvs.map (·.1))
    | _ => none
  | _ => none
def isE : D → Bool
  | .py (.dict []) => true
  | _ => false
/-- a dict beside {}, else two values -/
def eqO (st : Store) (a b : D) : Option Bool := match isE b with
  | true => (keysK st a).map (·.isEmpty)
  | false => eqV st a b
abbrev bo (b : Bool) : D := .py (.bool b)
abbrev io (i : Int) : D := .py (.int i)
abbrev so (x : Str) : D := .py (.str x)
def occurs (x y : Str) : Bool := !(Builtin.Str.occurrences y x 0 y.length 1).isEmpty
/-- x in ys -/
def inSeq (p : PyData) (qs : List PyData) : Option Bool := if (SeqAt.shaped p && PyData.canLayAll0 qs) = true then some (qs.any fun q => PyData.eqv q p) else none
def inO (st : Store) (a b : D) : Option Bool := match a, b with
  | .py (.str x), .py (.str y) => some (occurs x y)
  | a, b => match isD st b with
    | true => (dkey a).bind fun k => (getO st b k).map (·.isSome)
    | false => match toPy st a, toPy st b with
      | some p, some (.list qs) => inSeq p qs
      | some p, some (.tuple qs) => inSeq p qs
      | _, _ => none
mutual
/-- less, of data of one kind -/
def ltB : PyData → PyData → Bool
  | .int i, .int j => decide (i < j)
  | .str x, .str y => decide (x.cps.toList < y.cps.toList)
  | .tuple xs, .tuple ys => ltBs xs ys
  | _, _ => false
def ltBs : List PyData → List PyData → Bool
  | [], [] => false
  | [], _ :: _ => true
  | _ :: _, [] => false
  | x :: xs, y :: ys => if PyData.eqv x y = true then ltBs xs ys else ltB x y
end
mutual
/-- of one kind, so that less tells -/
def cmpB : PyData → PyData → Bool
  | .int _, .int _ => true
  | .str _, .str _ => true
  | .tuple xs, .tuple ys => cmpBs xs ys
  | _, _ => false
def cmpBs : List PyData → List PyData → Bool
  | [], _ => true
  | _ :: _, [] => true
  | x :: xs, y :: ys => cmpB x y && cmpBs xs ys
end
def ltO (st : Store) (a b : D) : Option Bool := match a, b with
  | .py p, .py q => if (SeqAt.shaped p && SeqAt.shaped q && cmpB p q) = true then some (ltB p q) else none
  | _, _ => none
def isN : D → Bool
  | .py .none => true
  | _ => false
def cmpO (op : CmpOp) (st : Store) (a b : D) : Option Bool := match op with
  | .Eq => eqO st a b
  | .NotEq => (eqO st a b).map (!·)
  | .Lt => ltO st a b
  | .LtE => match a, b with | .py (.int i), .py (.int j) => some (decide (i ≤ j)) | _, _ => none
  | .Gt => match a, b with | .py (.int i), .py (.int j) => some (decide (j < i)) | _, _ => none
  | .GtE => match a, b with | .py (.int i), .py (.int j) => some (decide (j ≤ i)) | _, _ => none
  | .In => inO st a b
  | .NotIn => (inO st a b).map (!·)
  | .Is => match b with | .py .none => some (isN a) | _ => none
  | .IsNot => match b with | .py .none => some (!isN a) | _ => none
def divOk (j : Int) : Bool := decide (0 < j) && decide (j.natAbs.log2 < 9000)
def mulOk (i j : Int) : Bool := decide (i.natAbs.log2 + j.natAbs.log2 < 1000000)
/-- a list: of the store where it may be changed (m), else data -/
def newL (m : Bool) (xs : List D) (st : Store) : R D := match m with
  | true => .ok (.loc st.length) (st ++ [.lst xs])
  | false => give st ((allPy xs).map fun ps => .py (.list ps))
def repL {α : Type} : Nat → List α → List α
  | 0, _ => []
  | n + 1, xs => xs ++ repL n xs
def binO (op : Operator) (m : Bool) (st : Store) (a b : D) : R D := match op with
  | .Add => match a, b with
    | .py (.int i), .py (.int j) => .ok (io (i + j)) st
    | .py (.str x), .py (.str y) => if x.length + y.length ≤ sizeLine then .ok (so (x ++ y)) st else .stuck
    | .py (.tuple xs), .py (.tuple ys) => if xs.length + ys.length ≤ sizeLine then .ok (.py (.tuple (xs ++ ys))) st else .stuck
    | a, b => match asM st a, asM st b with
      | some xs, some ys => if xs.length + ys.length ≤ sizeLine then newL m (xs ++ ys) st else .stuck
      | _, _ => .stuck
  | .Sub => match a, b with | .py (.int i), .py (.int j) => .ok (io (i - j)) st | _, _ => .stuck
  | .Mult => match a, b with
    | .py (.int i), .py (.int j) => if mulOk i j = true then .ok (io (i * j)) st else .stuck
    | .py (.str x), .py (.int j) => if (decide (0 ≤ j) && decide (j ≤ 1000000) && decide (x.length ≤ 10)) = true then .ok (so (Txt.mul x j)) st else .stuck
    | .py (.tuple xs), .py (.int j) => if (decide (-1000 ≤ j) && decide (j ≤ 1000) && decide (xs.length ≤ 1000)) = true then .ok (.py (.tuple (List.replicate j.toNat xs).flatten)) st else .stuck
    | a, .py (.int j) => match asM st a with
      | some xs => if (decide (-(2 ^ 63) ≤ j) && decide (j < 2 ^ 63) && decide (xs.length * j.toNat ≤ sizeLine)) = true then newL m (List.replicate j.toNat xs).flatten st else .stuck
      | none => .stuck
    | _, _ => .stuck
  | .FloorDiv => match a, b with | .py (.int i), .py (.int j) => if divOk j = true then .ok (io (i / j)) st else .stuck | _, _ => .stuck
  | .Mod => match a, b with | .py (.int i), .py (.int j) => if 0 < j then .ok (io (i % j)) st else .stuck | _, _ => .stuck
  | .Pow => match a, b with | .py (.int i), .py (.int j) => if (decide (0 ≤ j) && decide (j ≤ 1000000) && decide (i.natAbs < 2 ^ 64)) = true then .ok (io (i ^ j.toNat)) st else .stuck | _, _ => .stuck
  | _ => .stuck
def unO (op : UnaryOp) (a : D) : Option D := match op, a with
  | .USub, .py (.int i) => some (io (-i))
  | _, _ => none
/-- truth -/
def truO (st : Store) (a : D) : Option Bool := match a with
  | .py .none => some false
  | .py (.bool b) => some b
  | .py (.int i) => some (i != 0)
  | .py (.str x) => if x.length ≤ sizeLine then some ((x.length : Int) != 0) else none
  | .py (.dict _) => none
  | a => (asLT st a).map (!·.isEmpty)

/-! ### slices, subscripts -/
def cut {α : Type} (xs : List α) (lo hi : Option Int) : List α := (xs.drop (HT.sIx xs.length 0 lo)).take (HT.sIx xs.length xs.length hi - HT.sIx xs.length 0 lo)
def slcO (m : Bool) (st : Store) (a : D) (lo hi : Option Int) : R D := match a with
  | .py (.str x) => if x.length ≤ sizeLine then .ok (so (L2.cutS x lo hi)) st else .stuck
  | .py (.tuple xs) => .ok (.py (.tuple (cut xs lo hi))) st
  | a => match asL st a with
    | some xs => newL m (cut xs lo hi) st
    | none => .stuck
/-- a[::-1] -/
def revO (m : Bool) (st : Store) (a : D) : R D := match a with
  | .py (.tuple xs) => .ok (.py (.tuple xs.reverse)) st
  | a => match asL st a with
    | some xs => newL m xs.reverse st
    | none => .stuck
def idxO (st : Store) (a b : D) : Option D := match isD st a with
  | true => (dkey b).bind fun k => (getO st a k).bind id
  | false => match a, b with
    | .py (.str x), .py (.int i) => if x.length ≤ sizeLine then (L2.atI x.cps.toList i).map fun c => so ⟨#[c]⟩ else none
    | a, .py (.int i) => (asLT st a).bind fun xs => L2.atI xs i
    | _, _ => none
/-- a[b] = v -/
def setO (st : Store) (a b v : D) : Option Store := match a with
  | .loc n => match st[n]? with
    | some (.lst xs) => match b with
      | .py (.int i) => (L2.ixN xs.length i).map fun j => st.set n (.lst (xs.set j v))
      | _ => none
    | some (.dK kvs) => match dkey b with
      | some (.one k) => if kvs.length < sizeLine then some (st.set n (.dK (put kvs k v))) else none
      | _ => none
    | some (.dT kvs) => match dkey b with
      | some (.many k) => if kvs.length < sizeLine then some (st.set n (.dT (put kvs k v))) else none
      | _ => none
    | _ => none
  | _ => none
/-- o.f -/
def fldO (st : Store) (a : D) (f : Str) : Option D := match a with
  | .loc n => match st[n]? with
    | some (.ins _ fs) => look fs f
    | _ => none
  | _ => none
def putF (f : Str) (v : D) : List (Str × D) → List (Str × D)
  | [] => [(f, v)]
  | (g, x) :: r => if g = f then (g, v) :: r else (g, x) :: putF f v r
/-- o.f = v -/
def setF (st : Store) (a : D) (f : Str) (v : D) : Option Store := match a with
  | .loc n => match st[n]? with
    | some (.ins c fs) => if fs.length < 1000 then some (st.set n (.ins c (putF f v fs))) else none
    | _ => none
  | _ => none
end WW

namespace WW
open PySem
/-! ### calls by values -/
def frzO (p : Nat → Bool) (st : Store) : SO → Option SO
  | .lst xs => (toPyL (frzD p st 7) xs).map fun ps => .lst (ps.map .py)
  | .dK kvs => (toPyL (frzD p st 7) (kvs.map (·.2))).map fun ps => .dK ((kvs.map (·.1)).zip (ps.map .py))
  | .dT kvs => (toPyL (frzD p st 7) (kvs.map (·.2))).map fun ps => .dT ((kvs.map (·.1)).zip (ps.map .py))
  | _ => none
/-- an argument's thing: it may be walked meanwhile -/
def frzA (p : Nat → Bool) (st : Store) : SO → Option SO
  | .lck o => (frzO p st o).map .lck
  | o => frzO p st o
def frzAll (p : Nat → Bool) (st : Store) : List SO → Option (List SO)
  | [] => some []
  | o :: r => (frzA p st o).bind fun o' => (frzAll p st r).map (o' :: ·)
/-- the things of the store among arguments, in order; none where an argument may not be handed on so -/
def locsOf : List D → Option (List Nat)
  | [] => some []
  | .py _ :: r => locsOf r
  | .loc n :: r => (locsOf r).map (n :: ·)
  | _ => none
def renum : Nat → List D → List D
  | _, [] => []
  | k, .loc _ :: r => .loc k :: renum (k + 1) r
  | k, d :: r => d :: renum k r
def pick (st : Store) : List Nat → Option (List SO)
  | [] => some []
  | n :: r => (st[n]?).bind fun o => (pick st r).map (o :: ·)
def backIn (st : Store) : List Nat → List SO → Store
  | n :: r, o :: os => backIn (st.set n o) r os
  | _, _ => st
def frzF (p : Nat → Bool) (st : Store) : List (Str × D) → Option (List (Str × D))
  | [] => some []
  | (f, d) :: r => (frzD p st 7 d).bind fun q => (frzF p st r).map ((f, .py q) :: ·)
def from' (b : Nat) : Nat → Bool := fun k => decide (b ≤ k)
def butOne (b j : Nat) : Nat → Bool := fun k => decide (b ≤ k) && decide (k ≠ j)
/-- a call of a def that is handed data and whole lists and dicts of data; what it makes is data again (md 0), or one new list or dict of data (md 2) -/
def callSub (md : Nat) (φ : Fn) (ds : List D) (st : Store) : R D :=
  match locsOf ds with
  | none => .stuck
  | some ls => if ls.Nodup then match (pick st ls).bind (frzAll (fun _ => false) []) with
    | none => .stuck
    | some os => match φ (renum 0 ds) os with
      | .stuck => .stuck
      | .ok d st1 => match md with
        | 0 => match frzD (from' ls.length) st1 8 d, frzAll (from' ls.length) st1 (st1.take ls.length) with
          | some p, some os1 => .ok (.py p) (backIn st ls os1)
          | _, _ => .stuck
        | _ => match d with
          | .loc j => if ls.length ≤ j then match (st1[j]?).bind (frzO (butOne ls.length j) st1), frzAll (butOne ls.length j) st1 (st1.take ls.length) with
            | some o, some os1 => .ok (.loc st.length) (backIn st ls os1 ++ [o])
            | _, _ => .stuck
            else .stuck
          | _ => .stuck
      | .exc c fs st1 => match frzF (from' ls.length) st1 fs, frzAll (from' ls.length) st1 (st1.take ls.length) with
        | some gs, some os1 => .exc c gs (backIn st ls os1)
        | _, _ => .stuck
    else .stuck
def callM (md : Nat) (φ : Fn) (ds : List D) (st : Store) : R D := match md with
  | 1 => φ ds st
  | md => callSub md φ ds st

/-! ### builtins -/
inductive Bi where
  | len | all | any | abs | int | str | repr | tuple | list | max | min | sum | sorted | dict | dictT | tupR | lstR | sset
  deriving DecidableEq
def asBools : List PyData → Option (List Bool)
  | [] => some []
  | .bool b :: r => (asBools r).map (b :: ·)
  | _ => none
def asInts : List PyData → Option (List Int)
  | [] => some []
  | .int i :: r => (asInts r).map (i :: ·)
  | _ => none
def asStrs : List PyData → Option (List Str)
  | [] => some []
  | .str i :: r => (asStrs r).map (i :: ·)
  | _ => none
@[simp] theorem asBools_map {α : Type} (f : α → Bool) (xs : List α) : asBools (xs.map fun x => .bool (f x)) = some (xs.map f) := by
  induction xs with
  | nil => rfl
  | cons x xs ih => simp [asBools, ih]
@[simp] theorem asInts_map {α : Type} (f : α → Int) (xs : List α) : asInts (xs.map fun x => .int (f x)) = some (xs.map f) := by
  induction xs with
  | nil => rfl
  | cons x xs ih => simp [asInts, ih]
@[simp] theorem asStrs_map {α : Type} (f : α → Str) (xs : List α) : asStrs (xs.map fun x => .str (f x)) = some (xs.map f) := by
  induction xs with
  | nil => rfl
  | cons x xs ih => simp [asStrs, ih]
/-- the built-in class of a thing -/
def tyO (st : Store) : D → Option String
  | .py .none => some "NoneType"
  | .py (.bool _) => some "bool"
  | .py (.int _) => some "int"
  | .py (.str _) => some "str"
  | .py (.list _) => some "list"
  | .py (.tuple _) => some "tuple"
  | .py (.dict _) => some "dict"
  | .tup _ => some "tuple"
  | .loc n => match getS st n with
    | some (.lst _) => some "list"
    | some (.dK _) => some "dict"
    | some (.dT _) => some "dict"
    | _ => none
def subTy (t c : String) : Bool := t == c || (t == "bool" && c == "int")
def tyOk (c : String) : Bool := c == "int" || c == "str" || c == "tuple" || c == "list" || c == "bool" || c == "dict"
def lstI (st : Store) (d : D) : Option (List Int) := (asL st d).bind fun xs => (allPy xs).bind asInts
def lstB (st : Store) (d : D) : Option (List Bool) := (asL st d).bind fun xs => (allPy xs).bind asBools
def lstS (st : Store) (d : D) : Option (List Str) := (asLT st d).bind fun xs => (allPy xs).bind asStrs
def lenO (st : Store) (d : D) : Option Int := match d with
  | .py (.str x) => if x.length ≤ sizeLine then some (x.length : Int) else none
  | .py (.dict kvs) => some (kvs.length : Int)
  | .loc n => match getS st n with
    | some (.lst xs) => some (xs.length : Int)
    | some (.dK kvs) => some (kvs.length : Int)
    | some (.dT kvs) => some (kvs.length : Int)
    | _ => none
  | d => (asLT st d).map fun xs => (xs.length : Int)
mutual
/-- no list in it -/
def noL : PyData → Bool
  | .list _ => false
  | .tuple xs => noLs xs
  | .dict kvs => noLk kvs
  | _ => true
def noLs : List PyData → Bool
  | [] => true
  | x :: xs => noL x && noLs xs
def noLk : List (PyData × PyData) → Bool
  | [] => true
  | (_, v) :: r => noL v && noLk r
end
def showOk (p : PyData) : Bool := (!p.hasDict || noL p) && p.showable && decide (p.depth ≤ 60) && decide (p.shown.length ≤ sizeLine)
def leB (x y : PyData) : Bool := !(ltB y x)
def sortP (xs : List PyData) : List PyData := xs.mergeSort leB
def maxI : List Int → Option Int
  | [] => none
  | x :: xs => some (xs.foldl max x)
def minI : List Int → Option Int
  | [] => none
  | x :: xs => some (xs.foldl min x)
/-- what is walked of a thing, as it stands -/
def keysO (st : Store) (d : D) : Option (List D) := match d with
  | .py (.dict kvs) => some (kvs.map fun kv => .py kv.1)
  | .loc n => match getS st n with
    | some (.dK kvs) => some (kvs.map fun kv => .py (keyD kv.1))
    | some (.dT kvs) => some (kvs.map fun kv => .py (.tuple (kv.1.map keyD)))
    | some (.lst xs) => some xs
    | _ => none
  | d => asLT st d
def sortOk (xs : List PyData) : Bool := (xs.all fun x => xs.all fun y => cmpB x y) && xs.all SeqAt.shaped && decide (xs.length ≤ sizeLine)
def bi1 (f : D → R D) : List D → R D
  | [d] => f d
  | _ => .stuck
def biInt (st : Store) : D → R D
  | .py (.int i) => .ok (io i) st
  | .py (.bool b) => .ok (io (if b then 1 else 0)) st
  | .py (.str x) => if x.length ≤ sizeLine then give st ((PySem.intText? x).map io) else .stuck
  | _ => .stuck
def biRepr (st : Store) (d : D) : R D := match toPy st d with
  | some p => if showOk p = true then .ok (so p.shown) st else .stuck
  | none => .stuck
def biTuple (st : Store) (d : D) : R D := match asT d with
  | some _ => .ok d st
  | none => give st ((asL st d).map mkT)
def biList (m : Bool) (st : Store) : D → R D
  | .py (.str x) => if x.length ≤ sizeLine then newL m (x.cps.toList.map fun c => so ⟨#[c]⟩) st else .stuck
  | d => match asLT st d with
    | some xs => newL m xs st
    | none => .stuck
def biMax (st : Store) : List D → R D
  | [.py (.int i), .py (.int j)] => .ok (io (if j > i then j else i)) st
  | [d] => give st (((lstI st d).bind maxI).map io)
  | _ => .stuck
def biMin (st : Store) : List D → R D
  | [.py (.int i), .py (.int j)] => .ok (io (if j < i then j else i)) st
  | [d] => give st (((lstI st d).bind minI).map io)
  | _ => .stuck
def inR (i : Int) : Bool := decide (-(2 ^ 62) ≤ i) && decide (i < 2 ^ 62)
def isort (ns : List Int) : List Int := ns.mergeSort fun a b => decide (a ≤ b)
def leS (x y : Str) : Bool := !(PySem.Spec.ltCps y.cps.toList x.cps.toList)
def ssort (ss : List Str) : List Str := ss.mergeSort leS
def keysI : List Key → Option (List Int)
  | [] => some []
  | .inl i :: r => (keysI r).map (i :: ·)
  | _ => none
def keysS : List Key → Option (List Str)
  | [] => some []
  | .inr i :: r => (keysS r).map (i :: ·)
  | _ => none
/-- ints (any number), fewer than 64 texts; of a dict fewer than 64 keys -/
def biSorted (m : Bool) (st : Store) (d : D) : R D := match asL st d with
  | some xs => match (allPy xs).bind asInts with
    | some ns => newL m ((isort ns).map io) st
    | none => match (allPy xs).bind asStrs with
      | some ss => if ss.length < 64 then newL m ((ssort ss).map so) st else .stuck
      | none => .stuck
  | none => match keysK st d with
    | some ks => if ks.length < 64 then match keysI ks with
      | some ns => newL m ((isort ns).map io) st
      | none => match keysS ks with
        | some ss => newL m ((ssort ss).map so) st
        | none => .stuck
      else .stuck
    | none => .stuck
/-- dict(list of pairs) -/
def ofPK : List D → Option (List (Key × D))
  | [] => some []
  | d :: r => match asT d with
    | some [k, v] => match dkey k with
      | some (.one q) => (ofPK r).map ((q, v) :: ·)
      | _ => none
    | _ => none
def ofPT : List D → Option (List (List Key × D))
  | [] => some []
  | d :: r => match asT d with
    | some [k, v] => match dkey k with
      | some (.many q) => (ofPT r).map ((q, v) :: ·)
      | _ => none
    | _ => none
def mergeK' (more : List (Key × D)) : List (Key × D) := more.foldl (fun acc kv => put acc kv.1 kv.2) []
def mergeT (more : List (List Key × D)) : List (List Key × D) := more.foldl (fun acc kv => put acc kv.1 kv.2) []
def biDict (m : Bool) (st : Store) (d : D) : R D := match (asL st d).bind ofPK with
  | some kvs => match m with
    | true => .ok (.loc st.length) (st ++ [.dK (mergeK' kvs)])
    | false => give st ((toPyO (frzD (fun _ => false) [] 0) (.dK (mergeK' kvs))).map .py)
  | none => .stuck
def biDictT (st : Store) (d : D) : R D := match (asL st d).bind ofPT with
  | some kvs => .ok (.loc st.length) (st ++ [.dT (mergeT kvs)])
  | none => .stuck
/-- the ints of a range, as a tuple, as a list -/
def intsR (lo : Int) (n : Nat) : List PyData := (List.range n).map fun (i : Nat) => .int (lo + (i : Int))
def rgOk (a b : Int) : Bool := inR a && inR b && decide ((b - a).toNat ≤ 2 ^ 24)
def rgArgs : List D → Option (Int × Int)
  | [.py (.int n)] => some (0, n)
  | [.py (.int a), .py (.int b)] => some (a, b)
  | _ => none
def biTupR (st : Store) (ds : List D) : R D := match rgArgs ds with
  | some (a, b) => if rgOk a b = true then .ok (.py (.tuple (intsR a (b - a).toNat))) st else .stuck
  | none => .stuck
def biLstR (m : Bool) (st : Store) (ds : List D) : R D := match rgArgs ds with
  | some (a, b) => if rgOk a b = true then newL m ((intsR a (b - a).toNat).map .py) st else .stuck
  | none => .stuck
def biStr (st : Store) : D → R D
  | .py (.int i) => if i.natAbs.log2 < 1920 then .ok (so (toString i)) st else .stuck
  | _ => .stuck
def biAbs (st : Store) : D → R D
  | .py (.int i) => .ok (io (if i < 0 then -i else i)) st
  | _ => .stuck
def biO (b : Bi) (m : Bool) (st : Store) (ds : List D) : R D := match b with
  | .len => bi1 (fun d => give st ((lenO st d).map io)) ds
  | .all => bi1 (fun d => give st ((lstB st d).map fun bs => bo (bs.all id))) ds
  | .any => bi1 (fun d => give st ((lstB st d).map fun bs => bo (bs.any id))) ds
  | .abs => bi1 (biAbs st) ds
  | .int => bi1 (biInt st) ds
  | .str => bi1 (biStr st) ds
  | .repr => bi1 (biRepr st) ds
  | .tuple => bi1 (biTuple st) ds
  | .list => bi1 (biList m st) ds
  | .max => biMax st ds
  | .min => biMin st ds
  | .sum => bi1 (fun d => give st ((lstI st d).map fun ns => io ns.sum)) ds
  | .sorted => bi1 (biSorted m st) ds
  | .dict => bi1 (biDict m st) ds
  | .dictT => bi1 (biDictT st) ds
  | .tupR => biTupR st ds
  | .lstR => biLstR m st ds
  | .sset => .stuck

/-! ### methods -/
inductive Mt where
  | append | extend | upper | join | get | setdefault | pop | index | popAt | lindex
  deriving DecidableEq
def bi0 (f : R D) : List D → R D
  | [] => f
  | _ => .stuck
def mtAppend (st : Store) (o d : D) : R D := match o with
  | .loc n => match st[n]? with
    | some (.lst xs) => if xs.length < sizeLine then .ok (.py .none) (st.set n (.lst (xs ++ [d]))) else .stuck
    | _ => .stuck
  | _ => .stuck
def mtExtend (st : Store) (o d : D) : R D := match o with
  | .loc n => match st[n]? with
    | some (.lst xs) => match asM st d with
      | some ys => if xs.length + ys.length ≤ sizeLine then .ok (.py .none) (st.set n (.lst (xs ++ ys))) else .stuck
      | none => .stuck
    | _ => .stuck
  | _ => .stuck
def mtPop (st : Store) (o : D) : R D := match o with
  | .loc n => match st[n]? with
    | some (.lst xs) => match xs[xs.length - 1]? with
      | some x => .ok x (st.set n (.lst xs.dropLast))
      | none => .stuck
    | _ => .stuck
  | _ => .stuck
def mtPopAt (st : Store) (o : D) : D → R D
  | .py (.int i) => match o with
    | .loc n => match st[n]? with
      | some (.lst xs) => if (decide (-(2 ^ 63) ≤ i) && decide (i < 2 ^ 63)) = true then match seqIndex? i xs.length with
        | some k => match xs[k]? with
          | some x => .ok x (st.set n (.lst (xs.eraseIdx k)))
          | none => .stuck
        | none => .stuck
        else .stuck
      | _ => .stuck
    | _ => .stuck
  | _ => .stuck
/-- the first place of an int or a text that is there -/
def mtIndex (o : Option (List D)) (st : Store) : D → R D
  | .py (.int i) => match o.bind fun xs => (allPy xs).bind asInts with
    | some ns => if i ∈ ns then .ok (io (ns.idxOf i : Nat)) st else .stuck
    | none => .stuck
  | .py (.str x) => match o.bind fun xs => (allPy xs).bind asStrs with
    | some ns => if x ∈ ns then .ok (io (ns.idxOf x : Nat)) st else .stuck
    | none => .stuck
  | _ => .stuck
def mtUpper (st : Store) : D → R D
  | .py (.str x) => if x.length ≤ 5592405 then .ok (so (Txt.upper x)) st else .stuck
  | _ => .stuck
def mtJoin (st : Store) (o d : D) : R D := match o with
  | .py (.str x) => match lstS st d with
    | some ys => if (ys.map (·.length)).sum + ys.length * x.length ≤ 16777216 then .ok (so (Txt.join x ys)) st else .stuck
    | none => .stuck
  | _ => .stuck
def mtGet (st : Store) (o : D) : List D → R D
  | [k] => match (dkey k).bind (getO st o) with
    | some r => .ok (r.getD (.py .none)) st
    | none => .stuck
  | [k, w] => match (dkey k).bind (getO st o) with
    | some r => .ok (r.getD w) st
    | none => .stuck
  | _ => .stuck
def mtSetdef (st : Store) (o : D) : List D → R D
  | [k, w] => match o with
    | .loc n => match (dkey k).bind (getO st (.loc n)) with
      | some (some v) => .ok v st
      | some none => match setO st (.loc n) k w with
        | some st' => .ok w st'
        | none => .stuck
      | none => .stuck
    | _ => .stuck
  | _ => .stuck
def mtO (m : Mt) (st : Store) (o : D) (ds : List D) : R D := match m with
  | .append => bi1 (mtAppend st o) ds
  | .extend => bi1 (mtExtend st o) ds
  | .pop => bi0 (mtPop st o) ds
  | .upper => bi0 (mtUpper st o) ds
  | .join => bi1 (mtJoin st o) ds
  | .get => mtGet st o ds
  | .setdefault => mtSetdef st o ds
  | .index => bi1 (mtIndex (asT o) st) ds
  | .popAt => bi1 (mtPopAt st o) ds
  | .lindex => bi1 (mtIndex (asL st o) st) ds

def isStrD : D → Bool
  | .py (.str _) => true
  | _ => false
/-- whose method it is -/
def mtPre (m : Mt) (st : Store) (o : D) : Bool := match m with
  | .append | .extend | .pop | .popAt => (asL st o).isSome
  | .upper | .join => isStrD o
  | .get | .setdefault => isD st o
  | .index => (asT o).isSome
  | .lindex => (asL st o).isSome
/-! ### the terms -/
inductive Tg where
  | nam (i : Nat)
  | nil
  | cons (a b : Tg)
mutual
def asg : Tg → D → Env → Option Env
  | .nam i, d, env => some (env.set i (some d))
  | .nil, d, env => match asT d with
    | some [] => some env
    | _ => none
  | .cons a b, d, env => match asT d with
    | some (x :: xs) => (asg a x env).bind fun env => asgs b xs env
    | _ => none
def asgs : Tg → List D → Env → Option Env
  | .nam _, _, _ => none
  | .nil, ds, env => match ds with
    | [] => some env
    | _ :: _ => none
  | .cons a b, ds, env => match ds with
    | [] => none
    | x :: xs => (asg a x env).bind fun env => asgs b xs env
end
inductive CE where
  | con (d : PyData) | var (i : Nat)
  | bin (op : Operator) (m : Bool) (a b : CE) | un (op : UnaryOp) (a : CE)
  | nt (a : CE) | and (a b : CE) | or (a b : CE) | ite (c a b : CE)
  | cmp (op : CmpOp) (a b : CE) | chn (op op' : CmpOp) (a b c : CE)
  | nil | cons (a as : CE)
  | tup (as : CE) | lst (m : Bool) (as : CE) | dct (k : Nat) (as : CE)
  | idx (a b : CE) | slc (m : Bool) (a lo hi : CE) | rev (m : Bool) (a : CE) | abs
  | lc (m : Bool) (own : List Nat) (src : CE) (tg : Tg) (t e : CE)
  | dc (k : Nat) (own : List Nat) (src : CE) (tg : Tg) (t ke ve : CE)
  | call (md f : Nat) (as : CE) | callK (md f : Nat) (sel : List (Nat ⊕ PyData)) (as ks : CE)
  | new (c f : Nat) (as : CE) | mc (c f : Nat) (o as : CE) | fld (o : CE) (f : Str)
  | bi (b : Bi) (m : Bool) (as : CE) | mt (m : Mt) (o as : CE) | isi (cs : List String) (a : CE)
  -- tests
  | tnt (a : CE) | tand (a b : CE) | tor (a b : CE) | tof (a : CE) | yes
  -- what is walked
  | seq (a : CE) | rng (as : CE) | zip (as : CE) | enum (a : CE) | keys (a : CE) | items (a : CE) | vals (a : CE) | rvd (a : CE)
def wipe (env : Env) : List Nat → Env
  | [] => env
  | v :: vs => (wipe env vs).set v none
/-- items one by one; lists that stand still meanwhile; dicts that are locked meanwhile -/
structure Src where
  its : List D
  gs : List (Nat × List D) := []
  lk : Option Nat := none
  isd : Bool := false
def rngI (lo : Int) (n : Nat) : List D := (List.range n).map fun (i : Nat) => io (lo + (i : Int))
def rngD (lo : Int) (n : Nat) : List D := (List.range n).map fun (i : Nat) => io (lo + (i : Int) * (-1))
def gsO (st : Store) (d : D) : List (Nat × List D) := match d with
  | .loc n => match getS st n with
    | some (.lst xs) => [(n, xs)]
    | _ => []
  | _ => []
def lkO (d : D) : Option Nat := match d with
  | .loc n => some n
  | _ => none
def itemsO (st : Store) (d : D) : Option Src := match d with
  | .py (.str x) => some { its := x.cps.toList.map fun c => so ⟨#[c]⟩ }
  | d => (asLT st d).map fun xs => { its := xs, gs := gsO st d }
def entsO (st : Store) (d : D) : Option (List (D × D)) := match d with
  | .py (.dict kvs) => some (kvs.map fun kv => (.py kv.1, .py kv.2))
  | .loc n => match getS st n with
    | some (.dK kvs) => some (kvs.map fun kv => (.py (keyD kv.1), kv.2))
    | some (.dT kvs) => some (kvs.map fun kv => (.py (.tuple (kv.1.map keyD)), kv.2))
    | _ => none
  | _ => none
def rngO (ds : List D) : Option Src := match ds with
  | [.py (.int n)] => if inR n = true then some { its := rngI 0 n.toNat } else none
  | [.py (.int a), .py (.int b)] => if (inR a && inR b) = true then some { its := rngI a (b - a).toNat } else none
  | [.py (.int a), .py (.int b), .py (.int c)] => if (inR a && inR b && decide (c = -1)) = true then some { its := rngD a (a - b).toNat } else none
  | _ => none
def zipD : List D → List D → List D
  | x :: xs, y :: ys => mkT [x, y] :: zipD xs ys
  | _, _ => []
def zipO (st : Store) (ds : List D) : Option Src := match ds with
  | [a, b] => match asT a, asT b with
    | some xs, some ys => some { its := zipD xs ys }
    | none, none => (asL st a).bind fun xs => (asL st b).map fun ys => { its := zipD xs ys, gs := gsO st a ++ gsO st b }
    | _, _ => none
  | _ => none
def enumD : Nat → List D → List D
  | _, [] => []
  | i, x :: xs => mkT [io (i : Nat), x] :: enumD (i + 1) xs
/-- the lists that are walked stand as they were -/
def Still (gs : List (Nat × List D)) (st : Store) : Prop := ∀ g ∈ gs, getS st g.1 = some (.lst g.2)
/-- a comprehension's turns: acc what is made so far -/
noncomputable def lcL {α β : Type} (gs : List (Nat × List D)) (tg : Tg) (t : Env → Store → R Bool) (e : Env → Store → R α) (add : β → α → Option β) (env : Env) : List D → Store → β → R β
  | [], st, acc => open Classical in if Still gs st then .ok acc st else .stuck
  | x :: xs, st, acc => open Classical in if Still gs st then match asg tg x env with
    | none => .stuck
    | some env1 => (t env1 st).bind fun b st => match b with
      | true => (e env1 st).bind fun y st => match add acc y with
        | some acc => lcL gs tg t e add env xs st acc
        | none => .stuck
      | false => lcL gs tg t e add env xs st acc
    else .stuck
/-- a walk under its lock -/
def lockR {α : Type} (lk : Option Nat) (st : Store) (f : Store → R α) : R α := match lk with
  | none => f st
  | some n => match st[n]? with
    | none => .stuck
    | some o => match f (st.set n (.lck o)) with
      | .stuck => .stuck
      | .ok a st1 => .ok a (st1.set n o)
      | .exc c fs st1 => .exc c fs (st1.set n o)
def addL (acc : List D) (y : D) : Option (List D) := if acc.length < sizeLine then some (acc ++ [y]) else none
/-- a display's entries: key, value, key, value -/
def pairsO : List D → Option (List (Key × D))
  | [] => some []
  | .py k :: v :: r => (keyP k).bind fun k => (pairsO r).map ((k, v) :: ·)
  | _ => none
def mergeD (kvs more : List (Key × D)) : List (Key × D) := more.foldl (fun acc kv => put acc kv.1 kv.2) kvs
/-- a dict: of the store where it may be changed (1: its keys ints and texts, 2: tuples), else data (0) -/
def newD (k : Nat) (o : SO) (st : Store) : R D := match k with
  | 0 => if emT o = true then .stuck else give st ((toPyO (frzD (fun _ => false) [] 0) o).map .py)
  | _ => .ok (.loc st.length) (st ++ [o])
def addK (acc : List (Key × D)) (y : D × D) : Option (List (Key × D)) := match dkey y.1 with
  | some (.one k) => if acc.length < sizeLine then some (put acc k y.2) else none
  | _ => none
def addT (acc : List (List Key × D)) (y : D × D) : Option (List (List Key × D)) := match dkey y.1 with
  | some (.many k) => if acc.length < sizeLine then some (put acc k y.2) else none
  | _ => none
def selO (ds : List D) : List (Nat ⊕ PyData) → Option (List D)
  | [] => some []
  | .inl i :: r => (ds[i]?).bind fun d => (selO ds r).map (d :: ·)
  | .inr p :: r => (selO ds r).map (.py p :: ·)
def isAbs : CE → Bool
  | .abs => true
  | _ => false
def partO (st : Store) : D → R (Option Int)
  | .py (.int i) => .ok (some i) st
  | _ => .stuck
/-- an instance's class -/
def clsO (st : Store) : D → Option Nat
  | .loc n => match st[n]? with
    | some (.ins c _) => some c
    | _ => none
  | _ => none
section
variable (Φ : Nat → Fn)
mutual
noncomputable def ev : CE → Env → Store → R D
  | .con d, _, st => .ok (.py d) st
  | .var i, env, st => match env[i]? with
    | some (some d) => .ok d st
    | _ => .stuck
  | .bin op m a b, env, st => (ev a env st).bind fun x st => (ev b env st).bind fun y st => binO op m st x y
  | .un op a, env, st => (ev a env st).bind fun x st => give st (unO op x)
  | .nt a, env, st => (ev a env st).bind fun x st => match truO st x with
    | some b => .ok (bo (!b)) st
    | none => .stuck
  | .and a b, env, st => (ev a env st).bind fun x st => match truO st x with
    | some true => ev b env st
    | some false => .ok x st
    | none => .stuck
  | .or a b, env, st => (ev a env st).bind fun x st => match truO st x with
    | some true => .ok x st
    | some false => ev b env st
    | none => .stuck
  | .ite c a b, env, st => (tst c env st).bind fun t st => match t with
    | true => ev a env st
    | false => ev b env st
  | .cmp op a b, env, st => (ev a env st).bind fun x st => (ev b env st).bind fun y st => give st ((cmpO op st x y).map bo)
  | .chn op op' a b c, env, st => (ev a env st).bind fun x st => (ev b env st).bind fun y st => match cmpO op st x y with
    | some true => (ev c env st).bind fun z st => give st ((cmpO op' st y z).map bo)
    | some false => .ok (bo false) st
    | none => .stuck
  | .tup as, env, st => (evs as env st).bind fun ds st => if ds.length ≤ sizeLine then .ok (mkT ds) st else .stuck
  | .lst m as, env, st => (evs as env st).bind fun ds st => if ds.length ≤ sizeLine then newL m ds st else .stuck
  | .dct k as, env, st => (evs as env st).bind fun ds st => match pairsO ds with
    | none => .stuck
    | some kvs => if kvs.length ≤ 15 then match k with
      | 2 => match kvs with
        | [] => newD 2 (.dT []) st
        | _ :: _ => .stuck
      | k => newD k (.dK (mergeD [] kvs)) st
      else .stuck
  | .idx a b, env, st => (ev a env st).bind fun x st => (ev b env st).bind fun y st => give st (idxO st x y)
  | .slc m a lo hi, env, st => (ev a env st).bind fun x st => (if isAbs lo = true then .ok none st else (ev lo env st).bind fun l st => partO st l).bind fun l st =>
    (if isAbs hi = true then .ok none st else (ev hi env st).bind fun l st => partO st l).bind fun h st => slcO m st x l h
  | .rev m a, env, st => (ev a env st).bind fun x st => revO m st x
  | .lc m own src tg t e, env, st => (srcs src env st).bind fun s st => (lockR s.lk st fun st => lcL s.gs tg (tst t) (ev e) addL (wipe env own) s.its st []).nox.bind fun ys st => newL m ys st
  | .dc k own src tg t ke ve, env, st => (srcs src env st).bind fun s st => match k with
    | 0 => (lockR s.lk st fun st => lcL s.gs tg (tst t) (fun env st => (ev ke env st).bind fun a st => (ev ve env st).bind fun b st => .ok (a, b) st) addK (wipe env own) s.its st []).nox.bind fun ys st => newD 0 (.dK ys) st
    | 1 => (lockR s.lk st fun st => lcL s.gs tg (tst t) (fun env st => (ev ke env st).bind fun a st => (ev ve env st).bind fun b st => .ok (a, b) st) addK (wipe env own) s.its st []).nox.bind fun ys st => newD 1 (.dK ys) st
    | 2 => (lockR s.lk st fun st => lcL s.gs tg (tst t) (fun env st => (ev ke env st).bind fun a st => (ev ve env st).bind fun b st => .ok (a, b) st) addT (wipe env own) s.its st []).nox.bind fun ys st => newD 1 (.dT ys) st
    | _ => (lockR s.lk st fun st => lcL s.gs tg (tst t) (fun env st => (ev ke env st).bind fun a st => (ev ve env st).bind fun b st => .ok (a, b) st) addT (wipe env own) s.its st []).nox.bind fun ys st => newD 0 (.dT ys) st
  | .call md f as, env, st => (evs as env st).bind fun ds st => callM md (Φ f) ds st
  | .callK md f sel as ks, env, st => (evs as env st).bind fun ds st => (evs ks env st).bind fun es st => match selO (ds ++ es) sel with
    | some ds => callM md (Φ f) ds st
    | none => .stuck
  | .new c f as, env, st => (evs as env st).bind fun ds st => (Φ f (.loc st.length :: ds) (st ++ [.ins c []])).bind fun d st1 => match d with
    | .py .none => .ok (.loc st.length) st1
    | _ => .stuck
  | .mc c f o as, env, st => (ev o env st).bind fun x st => if clsO st x = some c then (evs as env st).bind fun ds st => Φ f (x :: ds) st else .stuck
  | .fld o f, env, st => (ev o env st).bind fun x st => give st (fldO st x f)
  | .bi b m as, env, st => (evs as env st).bind fun ds st => biO b m st ds
  | .mt m o as, env, st => (ev o env st).bind fun x st => if mtPre m st x = true then (evs as env st).bind fun ds st => mtO m st x ds else .stuck
  | .isi cs a, env, st => (ev a env st).bind fun x st => match tyO st x with
    | some t => if cs.all tyOk = true then .ok (bo (cs.any (subTy t))) st else .stuck
    | none => .stuck
  | .abs, _, st => .ok (.py .none) st
  | _, _, _ => .stuck
noncomputable def evs : CE → Env → Store → R (List D)
  | .nil, _, st => .ok [] st
  | .cons a as, env, st => (ev a env st).bind fun x st => (evs as env st).bind fun xs st => .ok (x :: xs) st
  | _, _, _ => .stuck
noncomputable def tst : CE → Env → Store → R Bool
  | .yes, _, st => .ok true st
  | .tnt a, env, st => (tst a env st).bind fun b st => .ok (!b) st
  | .tand a b, env, st => (tst a env st).bind fun x st => match x with
    | true => tst b env st
    | false => .ok false st
  | .tor a b, env, st => (tst a env st).bind fun x st => match x with
    | true => .ok true st
    | false => tst b env st
  | .tof a, env, st => (ev a env st).bind fun x st => giveS st (truO st x)
  | _, _, _ => .stuck
noncomputable def srcs : CE → Env → Store → R Src
  | .seq a, env, st => (ev a env st).bind fun x st => giveS st (itemsO st x)
  | .rng as, env, st => (evs as env st).bind fun ds st => giveS st (rngO ds)
  | .zip as, env, st => (evs as env st).bind fun ds st => giveS st (zipO st ds)
  | .enum a, env, st => (ev a env st).bind fun x st => giveS st ((asL st x).map fun xs => { its := enumD 0 xs, gs := gsO st x })
  | .keys a, env, st => (ev a env st).bind fun x st => giveS st ((entsO st x).map fun es => { its := es.map (·.1), lk := lkO x, isd := true })
  | .items a, env, st => (ev a env st).bind fun x st => giveS st ((entsO st x).map fun es => { its := es.map fun e => mkT [e.1, e.2], lk := lkO x, isd := true })
  | .vals a, env, st => (ev a env st).bind fun x st => giveS st ((entsO st x).map fun es => { its := es.map (·.2), lk := lkO x, isd := true })
  | .rvd a, env, st => (ev a env st).bind fun x st => giveS st ((asLT st x).map fun xs => { its := xs.reverse, gs := gsO st x })
  | _, _, _ => .stuck
end
end
/-! ### statements -/
inductive RS where
  | stuck
  | nx (env : Env) (st : Store) | bk (env : Env) (st : Store) | ct (env : Env) (st : Store)
  | rt (d : D) (st : Store)
  | exc (c : Nat) (fs : List (Str × D)) (env : Env) (st : Store)
/-- an expression's answer, then -/
def R.thn {α : Type} (env : Env) (r : R α) (f : α → Store → RS) : RS := match r with
  | .stuck => .stuck
  | .ok a st => f a st
  | .exc c fs st => .exc c fs env st
@[simp] theorem R.thn_ok {α : Type} (env : Env) (a : α) (st : Store) (f : α → Store → RS) : R.thn env (R.ok a st) f = f a st := rfl
@[simp] theorem R.thn_stuck {α : Type} (env : Env) (f : α → Store → RS) : R.thn env (R.stuck : R α) f = .stuck := rfl
@[simp] theorem R.thn_exc {α : Type} (env : Env) (c : Nat) (fs : List (Str × D)) (st : Store) (f : α → Store → RS) : R.thn env (R.exc c fs st : R α) f = .exc c fs env st := rfl
def RS.thn (r : RS) (f : Env → Store → RS) : RS := match r with
  | .nx env st => f env st
  | r => r
@[simp] theorem RS.thn_nx (env : Env) (st : Store) (f : Env → Store → RS) : (RS.nx env st).thn f = f env st := rfl
@[simp] theorem RS.thn_rt (d : D) (st : Store) (f : Env → Store → RS) : (RS.rt d st).thn f = .rt d st := rfl
@[simp] theorem RS.thn_bk (env : Env) (st : Store) (f : Env → Store → RS) : (RS.bk env st).thn f = .bk env st := rfl
@[simp] theorem RS.thn_ct (env : Env) (st : Store) (f : Env → Store → RS) : (RS.ct env st).thn f = .ct env st := rfl
@[simp] theorem RS.thn_stuck (f : Env → Store → RS) : RS.stuck.thn f = .stuck := rfl
@[simp] theorem RS.thn_exc (c : Nat) (fs : List (Str × D)) (env : Env) (st : Store) (f : Env → Store → RS) : (RS.exc c fs env st).thn f = .exc c fs env st := rfl
/-- a turn's end: on to the next, or out -/
def RS.turn (r : RS) (f : Env → Store → RS) : RS := match r with
  | .nx env st => f env st
  | .ct env st => f env st
  | .bk env st => .nx env st
  | r => r
@[simp] theorem RS.turn_nx (env : Env) (st : Store) (f : Env → Store → RS) : (RS.nx env st).turn f = f env st := rfl
@[simp] theorem RS.turn_rt (d : D) (st : Store) (f : Env → Store → RS) : (RS.rt d st).turn f = .rt d st := rfl
@[simp] theorem RS.turn_bk (env : Env) (st : Store) (f : Env → Store → RS) : (RS.bk env st).turn f = .nx env st := rfl
@[simp] theorem RS.turn_ct (env : Env) (st : Store) (f : Env → Store → RS) : (RS.ct env st).turn f = f env st := rfl
@[simp] theorem RS.turn_stuck (f : Env → Store → RS) : RS.stuck.turn f = .stuck := rfl
@[simp] theorem RS.turn_exc (c : Nat) (fs : List (Str × D)) (env : Env) (st : Store) (f : Env → Store → RS) : (RS.exc c fs env st).turn f = .exc c fs env st := rfl
noncomputable def forL (gs : List (Nat × List D)) (tg : Tg) (b : Env → Store → RS) : List D → Env → Store → RS
  | [], env, st => open Classical in if Still gs st then .nx env st else .stuck
  | x :: xs, env, st => open Classical in if Still gs st then match asg tg x env with
    | none => .stuck
    | some env1 => (b env1 st).turn fun env st => forL gs tg b xs env st
    else .stuck
def lockS (lk : Option Nat) (st : Store) (f : Store → RS) : RS := match lk with
  | none => f st
  | some n => match st[n]? with
    | none => .stuck
    | some o => match f (st.set n (.lck o)) with
      | .stuck => .stuck
      | .nx env st1 => .nx env (st1.set n o)
      | .bk env st1 => .bk env (st1.set n o)
      | .ct env st1 => .ct env (st1.set n o)
      | .rt d st1 => .rt d (st1.set n o)
      | .exc c fs env st1 => .exc c fs env (st1.set n o)
def whF (t : Env → Store → R Bool) (b : Env → Store → RS) : Nat → Env → Store → RS
  | 0, _, _ => .stuck
  | m + 1, env, st => (t env st).thn env fun c st => match c with
    | true => (b env st).turn fun env st => whF t b m env st
    | false => .nx env st
noncomputable def whL (t : Env → Store → R Bool) (b : Env → Store → RS) (env : Env) (st : Store) : RS :=
  open Classical in if h : ∃ n, whF t b n env st ≠ .stuck then whF t b (choose h) env st else .stuck
theorem whF_mono (t : Env → Store → R Bool) (b : Env → Store → RS) : ∀ (n m : Nat) (env : Env) (st : Store), whF t b n env st ≠ .stuck → n ≤ m → whF t b m env st = whF t b n env st
  | 0, _, _, _, h, _ => absurd rfl h
  | n + 1, 0, _, _, _, h => by omega
  | n + 1, m + 1, env, st, h, hm => by
    simp only [whF] at h ⊢
    cases e : t env st with
    | stuck => rfl
    | exc c fs st => rfl
    | ok c st1 =>
      rw [e] at h
      simp only [R.thn_ok] at h ⊢
      cases c with
      | false => rfl
      | true =>
        simp only at h ⊢
        cases e2 : b env st1 with
        | nx env2 st2 => rw [e2] at h; exact whF_mono t b n m env2 st2 h (by omega)
        | ct env2 st2 => rw [e2] at h; exact whF_mono t b n m env2 st2 h (by omega)
        | _ => rfl
theorem whL_at {t : Env → Store → R Bool} {b : Env → Store → RS} {env : Env} {st : Store} (n : Nat) (h : whF t b n env st ≠ .stuck) : whL t b env st = whF t b n env st := by
  have hx : ∃ n, whF t b n env st ≠ .stuck := ⟨n, h⟩
  unfold whL
  rw [dif_pos hx]
  have h1 := Classical.choose_spec hx
  generalize Classical.choose hx = k at h1
  rcases Nat.le_total k n with z | z
  · exact (whF_mono t b k n env st h1 z).symm
  · exact whF_mono t b n k env st h z
theorem whL_fuel {t : Env → Store → R Bool} {b : Env → Store → RS} {env : Env} {st : Store} (h : whL t b env st ≠ .stuck) : ∃ n, whL t b env st = whF t b n env st := by
  by_cases hx : ∃ n, whF t b n env st ≠ .stuck
  · obtain ⟨n, hn⟩ := hx
    exact ⟨n, whL_at n hn⟩
  · exfalso; apply h; unfold whL; rw [dif_neg hx]
theorem whL_no {t : Env → Store → R Bool} {b : Env → Store → RS} {env : Env} {st : Store} (h : ∀ n, whF t b n env st = .stuck) : whL t b env st = .stuck := by
  unfold whL; rw [dif_neg]; rintro ⟨n, hn⟩; exact hn (h n)
theorem whL_eq (t : Env → Store → R Bool) (b : Env → Store → RS) (env : Env) (st : Store) : whL t b env st = (t env st).thn env fun c st => match c with
    | true => (b env st).turn fun env st => whL t b env st
    | false => .nx env st := by
  by_cases hx : ∃ n, whF t b n env st ≠ .stuck
  · obtain ⟨n, hn⟩ := hx
    cases n with
    | zero => exact absurd rfl hn
    | succ n =>
      rw [whL_at _ hn]
      simp only [whF] at hn ⊢
      cases e : t env st with
      | stuck => rfl
      | exc c fs st => rfl
      | ok c st1 =>
        rw [e] at hn
        simp only [R.thn_ok] at hn ⊢
        cases c with
        | false => rfl
        | true =>
          simp only at hn ⊢
          cases e2 : b env st1 with
          | nx env2 st2 => rw [e2] at hn; exact (whL_at n hn).symm
          | ct env2 st2 => rw [e2] at hn; exact (whL_at n hn).symm
          | _ => rfl
  · have hz : ∀ n, whF t b n env st = .stuck := fun n => Classical.byContradiction fun q => hx ⟨n, q⟩
    rw [whL_no hz]
    cases e : t env st with
    | stuck => rfl
    | exc c fs st1 => have := hz 1; simp only [whF, e, R.thn_exc] at this; exact absurd this (by simp)
    | ok c st1 =>
      simp only [R.thn_ok]
      cases c with
      | false => have := hz 1; simp only [whF, e, R.thn_ok] at this; exact absurd this (by simp)
      | true =>
        simp only
        have hz2 : ∀ n, ((b env st1).turn fun env st => whF t b n env st) = .stuck := fun n => by
          have := hz (n + 1); simpa only [whF, e, R.thn_ok] using this
        cases e2 : b env st1 with
        | nx env2 st2 => rw [e2] at hz2; exact (whL_no hz2).symm
        | ct env2 st2 => rw [e2] at hz2; exact (whL_no hz2).symm
        | stuck => rfl
        | bk env2 st2 => have := hz2 0; rw [e2] at this; exact absurd this (by simp)
        | rt d st2 => have := hz2 0; rw [e2] at this; exact absurd this (by simp)
        | exc c fs e3 st2 => have := hz2 0; rw [e2] at this; exact absurd this (by simp)
def setAll (env : Env) : List Nat → List D → Env
  | i :: is, d :: ds => setAll (env.set i (some d)) is ds
  | _, _ => env
inductive CS where
  | skip | seq (a b : CS) | exp (e : CE) | asg (tg : Tg) (e : CE) | par (is : List Nat) (as : CE)
  | set (o i e : CE) | aug (i : Nat) (op : Operator) (e : CE) | setf (o : CE) (f : Str) (e : CE) | augs (o i : CE) (op : Operator) (e : CE)
  | ret (e : CE) | retN | ite (c : CE) (a b : CS) | for (src : CE) (tg : Tg) (b : CS) | whl (c : CE) (b : CS) | brk | cnt
  | rai (c : Nat) (fs : List Str) (as : CE)
section
variable (Φ : Nat → Fn)
noncomputable def exec : CS → Env → Store → RS
  | .skip, env, st => .nx env st
  | .seq a b, env, st => (exec a env st).thn fun env st => exec b env st
  | .exp e, env, st => (ev Φ e env st).thn env fun _ st => .nx env st
  | .asg tg e, env, st => (ev Φ e env st).thn env fun d st => match WW.asg tg d env with
    | some env => .nx env st
    | none => .stuck
  | .par is as, env, st => (evs Φ as env st).thn env fun ds st => if ds.length = is.length then .nx (setAll env is ds) st else .stuck
  | .set o i e, env, st => (ev Φ e env st).thn env fun v st => (ev Φ o env st).thn env fun x st => (ev Φ i env st).thn env fun y st => match setO st x y v with
    | some st => .nx env st
    | none => .stuck
  | .aug i op e, env, st => match env[i]? with
    | some (some x) => (ev Φ e env st).thn env fun y st => match x, y with
      | .py (.int _), .py (.int _) => (binO op false st x y).thn env fun z st => .nx (env.set i (some z)) st
      | _, _ => .stuck
    | _ => .stuck
  | .setf o f e, env, st => (ev Φ e env st).thn env fun v st => (ev Φ o env st).thn env fun x st => match setF st x f v with
    | some st => .nx env st
    | none => .stuck
  | .augs o i op e, env, st => (ev Φ o env st).thn env fun x st => (ev Φ i env st).thn env fun y st => match idxO st x y with
    | some (.py (.int j)) => (ev Φ e env st).thn env fun z st => match z with
      | .py (.int _) => (binO op false st (io j) z).thn env fun w st => match setO st x y w with
        | some st => .nx env st
        | none => .stuck
      | _ => .stuck
    | _ => .stuck
  | .ret e, env, st => (ev Φ e env st).thn env fun d st => .rt d st
  | .retN, _, st => .rt (.py .none) st
  | .ite c a b, env, st => (tst Φ c env st).thn env fun t st => match t with
    | true => exec a env st
    | false => exec b env st
  | .for src tg b, env, st => (srcs Φ src env st).thn env fun s st => lockS s.lk st fun st => forL s.gs tg (exec b) s.its env st
  | .whl c b, env, st => whL (tst Φ c) (exec b) env st
  | .brk, env, st => .bk env st
  | .cnt, env, st => .ct env st
  | .rai c fs as, env, st => (evs Φ as env st).thn env fun ds st => if ds.length = fs.length then .exc c (fs.zip ds) env st else .stuck
/-- a def: how many arguments, how many slots, its body -/
structure CF where
  ar : Nat
  sl : Nat
  body : CS
def start (sl : Nat) (ds : List D) : Env := ds.map some ++ List.replicate (sl - ds.length) none
noncomputable def run (f : CF) : Fn := fun ds st => if ds.length = f.ar then match exec Φ f.body (start f.sl ds) st with
  | .nx _ st => .ok (.py .none) st
  | .rt d st => .ok d st
  | .exc c fs _ st => .exc c fs st
  | _ => .stuck
  else .stuck
end
end WW

namespace WW
open PySem PySem.Spec L2
section
variable (K : PySem.W.Frag)
mutual
/-- data as it stands: F the part of the heap that never changes any more -/
inductive Rep (F : Hp) : V → PyData → Prop
  | non : Rep F .non .none
  | bl (b : Bool) : Rep F (.bl b) (.bool b)
  | int (i : Int) : Rep F (.int i) (.int i)
  | str (x : Str) : Rep F (.str x) (.str x)
  | lst {a : Addr} {xs : List V} {ds : List PyData} : F a = some (.lst xs) → Reps F xs ds → Rep F (.ref a) (.list ds)
  | tup {a : Addr} {xs : List V} {ds : List PyData} : F a = some (.tup xs) → Reps F xs ds → Rep F (.ref a) (.tuple ds)
  | tupK {a : Addr} {xs : List V} {ds : List PyData} : kTup ds = true → SqT K (fun _ => none) a xs → Reps F xs ds → Rep F (.ref a) (.tuple ds)
  | dK {a : Addr} {kvs : List (Key × V)} {es : List (PyData × PyData)} : F a = some (.dK kvs) → RepK F kvs es → Rep F (.ref a) (.dict es)
  | dT {a : Addr} {kvs : List (List Key × V)} {es : List (PyData × PyData)} : F a = some (.dT kvs) → RepT F kvs es → es ≠ [] → Rep F (.ref a) (.dict es)
inductive Reps (F : Hp) : List V → List PyData → Prop
  | nil : Reps F [] []
  | cons {v : V} {vs : List V} {d : PyData} {ds : List PyData} : Rep F v d → Reps F vs ds → Reps F (v :: vs) (d :: ds)
inductive RepK (F : Hp) : List (Key × V) → List (PyData × PyData) → Prop
  | nil : RepK F [] []
  | cons {k : Key} {v : V} {vs : List (Key × V)} {d : PyData} {ds : List (PyData × PyData)} : Rep F v d → RepK F vs ds → RepK F ((k, v) :: vs) ((keyD k, d) :: ds)
inductive RepT (F : Hp) : List (List Key × V) → List (PyData × PyData) → Prop
  | nil : RepT F [] []
  | cons {k : List Key} {v : V} {vs : List (List Key × V)} {d : PyData} {ds : List (PyData × PyData)} : Rep F v d → RepT F vs ds → RepT F ((k, v) :: vs) ((.tuple (k.map keyD), d) :: ds)
end
mutual
/-- a value as it stands: ρ where the things of the store are -/
inductive Rp (F : Hp) (ρ : List Addr) : V → D → Prop
  | py {v : V} {d : PyData} : Rep K F v d → Rp F ρ v (.py d)
  | loc {n : Nat} {a : Addr} : ρ[n]? = some a → Rp F ρ (.ref a) (.loc n)
  | tup {a : Addr} {xs : List V} {ds : List D} : F a = some (.tup xs) → Rps F ρ xs ds → Rp F ρ (.ref a) (.tup ds)
inductive Rps (F : Hp) (ρ : List Addr) : List V → List D → Prop
  | nil : Rps F ρ [] []
  | cons {v : V} {vs : List V} {d : D} {ds : List D} : Rp F ρ v d → Rps F ρ vs ds → Rps F ρ (v :: vs) (d :: ds)
end
inductive RpK {κ : Type} (F : Hp) (ρ : List Addr) : List (κ × V) → List (κ × D) → Prop
  | nil : RpK F ρ [] []
  | cons {k : κ} {v : V} {vs : List (κ × V)} {d : D} {ds : List (κ × D)} : Rp K F ρ v d → RpK F ρ vs ds → RpK F ρ ((k, v) :: vs) ((k, d) :: ds)
variable (cl : Nat → Option Addr)
inductive ObjR (F : Hp) (ρ : List Addr) : HO → SO → Prop
  | lst {xs : List V} {ds : List D} : Rps K F ρ xs ds → ObjR F ρ (.lst xs) (.lst ds)
  | dK {xs : List (Key × V)} {ds : List (Key × D)} : RpK K F ρ xs ds → ObjR F ρ (.dK xs) (.dK ds)
  | dT {xs : List (List Key × V)} {ds : List (List Key × D)} : RpK K F ρ xs ds → ObjR F ρ (.dT xs) (.dT ds)
  | ins {c : Nat} {C dx : Addr} {xs : List (Str × V)} {ds : List (Str × D)} : cl c = some C → RpK K F ρ xs ds → ObjR F ρ (.ins C dx xs) (.ins c ds)
  | lck {ob : Obj} {u : HO} {o : SO} : ObjR F ρ u o → ObjR F ρ (.frz ob u) (.lck o)
def isDH : HO → Bool
  | .dK _ => true
  | .dT _ => true
  | _ => false
structure Ok (H : Hp) (ρ : List Addr) (F : Hp) (st : Store) : Prop where
  sub' : ∀ a u, F a = some u → H a = some u ∨ (isDH u = true ∧ ∃ o, H a = some (.frz o u))
  nf : ∀ a ob u, F a ≠ some (.frz ob u)
  len : ρ.length = st.length
  nd : ρ.Nodup
  free : ∀ a ∈ ρ, F a = none
  obj : ∀ (n : Nat) (a : Addr) (o : SO), ρ[n]? = some a → st[n]? = some o → ∃ u, H a = some u ∧ ObjR K cl F ρ u o
end
def isTup : Option HO → Bool
  | some (.tup _) => true
  | _ => false
structure Step (ρ : List Addr) (F H : Hp) (ρ' : List Addr) (F' H' : Hp) : Prop where
  more : ∃ m, ρ' = ρ ++ m ∧ ∀ a ∈ m, H a = none
  grow : Same F F'
  fresh : ∀ a, F a = none → H a ≠ none → isTup (H a) = false → F' a = none ∧ isTup (H' a) = false
  keep : ∀ a o, H a = some o → a ∉ ρ → H' a = some o
  dom : ∀ a, H a ≠ none → H' a ≠ none
  frzs : ∀ a ob u, H a = some (.frz ob u) → H' a = some (.frz ob u)
theorem Step.refl {ρ : List Addr} {F H : Hp} : Step ρ F H ρ F H := ⟨⟨[], by simp, by simp⟩, Same.refl F, fun _ h _ t => ⟨h, t⟩, fun _ _ h _ => h, fun _ h => h, fun _ _ _ h => h⟩
theorem Step.trans {ρ ρ1 ρ2 : List Addr} {F F1 F2 H H1 H2 : Hp} (a : Step ρ F H ρ1 F1 H1) (b : Step ρ1 F1 H1 ρ2 F2 H2) : Step ρ F H ρ2 F2 H2 := by
  obtain ⟨m1, e1, n1⟩ := a.more
  obtain ⟨m2, e2, n2⟩ := b.more
  refine ⟨⟨m1 ++ m2, by rw [e2, e1, List.append_assoc], fun x hx => ?_⟩, a.grow.trans b.grow, fun x h1 h2 h3 => b.fresh x (a.fresh x h1 h2 h3).1 (a.dom x h2) (a.fresh x h1 h2 h3).2, fun x o h hx => b.keep x o (a.keep x o h hx) fun z => ?_, fun x h => b.dom x (a.dom x h), fun x o u h => b.frzs x o u (a.frzs x o u h)⟩
  · rcases List.mem_append.mp hx with q | q
    · exact n1 x q
    · cases e : H x with
      | none => rfl
      | some o => exact absurd (n2 x q) (a.dom x (by rw [e]; simp))
  · rw [e1] at z
    rcases List.mem_append.mp z with q | q
    · exact hx q
    · rw [n1 x q] at h; cases h
section
variable {K : PySem.W.Frag} {cl : Nat → Option Addr} {F F' H H' : Hp} {ρ ρ' : List Addr} {st : Store}
theorem Rd.mono {a : Addr} {u : HO} (e : Same F F') (h : Rd F a u) : Rd F' a u := by
  rcases h with h | ⟨o, h⟩
  · exact .inl (e _ _ h)
  · exact .inr ⟨o, e _ _ h⟩
theorem SqL.mono {a : Addr} {xs : List V} (e : Same F F') (h : SqL K F a xs) : SqL K F' a xs := h.imp (Rd.mono e) id
theorem SqT.mono {a : Addr} {xs : List V} (e : Same F F') (h : SqT K F a xs) : SqT K F' a xs := h.imp (Rd.mono e) id
mutual
theorem Rep.mono (e : Same F F') : ∀ {v : V} {d : PyData}, Rep K F v d → Rep K F' v d
  | _, _, .non => .non
  | _, _, .bl b => .bl b
  | _, _, .int b => .int b
  | _, _, .str b => .str b
  | _, _, .lst h r => .lst (e _ _ h) (Reps.mono e r)
  | _, _, .tup h r => .tup (e _ _ h) (Reps.mono e r)
  | _, _, .tupK k h r => .tupK k h (Reps.mono e r)
  | _, _, .dK h r => .dK (e _ _ h) (RepK.mono e r)
  | _, _, .dT h r n => .dT (e _ _ h) (RepT.mono e r) n
theorem Reps.mono (e : Same F F') : ∀ {v : List V} {d : List PyData}, Reps K F v d → Reps K F' v d
  | _, _, .nil => .nil
  | _, _, .cons h r => .cons (Rep.mono e h) (Reps.mono e r)
theorem RepK.mono (e : Same F F') : ∀ {v : List (Key × V)} {d : List (PyData × PyData)}, RepK K F v d → RepK K F' v d
  | _, _, .nil => .nil
  | _, _, .cons h r => .cons (Rep.mono e h) (RepK.mono e r)
theorem RepT.mono (e : Same F F') : ∀ {v : List (List Key × V)} {d : List (PyData × PyData)}, RepT K F v d → RepT K F' v d
  | _, _, .nil => .nil
  | _, _, .cons h r => .cons (Rep.mono e h) (RepT.mono e r)
end
mutual
theorem Rp.mono (e : Same F F') (er : ∃ m, ρ' = ρ ++ m) : ∀ {v : V} {d : D}, Rp K F ρ v d → Rp K F' ρ' v d
  | _, _, .py r => .py (r.mono e)
  | _, _, .loc h => .loc (by
    obtain ⟨m, rfl⟩ := er
    rw [List.getElem?_append_left (List.getElem?_eq_some_iff.mp h).1]; exact h)
  | _, _, .tup h r => .tup (e _ _ h) (Rps.mono e er r)
theorem Rps.mono (e : Same F F') (er : ∃ m, ρ' = ρ ++ m) : ∀ {v : List V} {d : List D}, Rps K F ρ v d → Rps K F' ρ' v d
  | _, _, .nil => .nil
  | _, _, .cons h r => .cons (Rp.mono e er h) (Rps.mono e er r)
end
theorem RpK.mono {κ : Type} (e : Same F F') (er : ∃ m, ρ' = ρ ++ m) : ∀ {v : List (κ × V)} {d : List (κ × D)}, RpK K F ρ v d → RpK K F' ρ' v d
  | _, _, .nil => .nil
  | _, _, .cons h r => .cons (h.mono e er) (RpK.mono e er r)
theorem ObjR.mono (e : Same F F') (er : ∃ m, ρ' = ρ ++ m) {u : HO} {o : SO} (h : ObjR K cl F ρ u o) : ObjR K cl F' ρ' u o := by
  induction h with
  | lst r => exact .lst (r.mono e er)
  | dK r => exact .dK (r.mono e er)
  | dT r => exact .dT (r.mono e er)
  | ins c r => exact .ins c (r.mono e er)
  | lck _ ih => exact .lck ih
theorem ObjR.notTup {u : HO} {o : SO} (h : ObjR K cl F ρ u o) : isTup (some u) = false := by cases h <;> rfl
theorem Step.ext (s : Step ρ F H ρ' F' H') : ∃ m, ρ' = ρ ++ m := let ⟨m, e, _⟩ := s.more; ⟨m, e⟩
theorem Rp.step (s : Step ρ F H ρ' F' H') {v : V} {d : D} (h : Rp K F ρ v d) : Rp K F' ρ' v d := h.mono s.grow s.ext
theorem Rps.step (s : Step ρ F H ρ' F' H') {v : List V} {d : List D} (h : Rps K F ρ v d) : Rps K F' ρ' v d := h.mono s.grow s.ext
theorem Rps.length : ∀ {v : List V} {d : List D}, Rps K F ρ v d → v.length = d.length
  | _, _, .nil => rfl
  | _, _, .cons _ r => by rw [List.length_cons, List.length_cons, Rps.length r]
theorem Reps.length : ∀ {v : List V} {d : List PyData}, Reps K F v d → v.length = d.length
  | _, _, .nil => rfl
  | _, _, .cons _ r => by rw [List.length_cons, List.length_cons, Reps.length r]
theorem Reps.rps : ∀ {v : List V} {d : List PyData}, Reps K F v d → Rps K F ρ v (d.map .py)
  | _, _, .nil => .nil
  | _, _, .cons h r => .cons (.py h) r.rps
theorem Rps.reps : ∀ {v : List V} {d : List PyData}, Rps K F ρ v (d.map .py) → Reps K F v d
  | _, [], .nil => .nil
  | _, _ :: _, .cons (.py h) r => .cons h r.reps
theorem Rps.get : ∀ {v : List V} {d : List D} {i : Nat} {x : D}, Rps K F ρ v d → d[i]? = some x → ∃ u, v[i]? = some u ∧ Rp K F ρ u x
  | _, _, _, _, .nil, e => by simp at e
  | _, _, 0, _, .cons h _, e => by simp at e; subst e; exact ⟨_, rfl, h⟩
  | _, _, i + 1, x, .cons _ r, e => by
    obtain ⟨u, h1, h2⟩ := Rps.get (i := i) (x := x) r (by simpa using e)
    exact ⟨u, by simpa using h1, h2⟩
theorem Rps.append : ∀ {v w : List V} {d e : List D}, Rps K F ρ v d → Rps K F ρ w e → Rps K F ρ (v ++ w) (d ++ e)
  | _, _, _, _, .nil, s => s
  | _, _, _, _, .cons h r, s => .cons h (Rps.append r s)
theorem Reps.append : ∀ {v w : List V} {d e : List PyData}, Reps K F v d → Reps K F w e → Reps K F (v ++ w) (d ++ e)
  | _, _, _, _, .nil, s => s
  | _, _, _, _, .cons h r, s => .cons h (Reps.append r s)
theorem Rps.set {x : D} {u : V} (h : Rp K F ρ u x) : ∀ {v : List V} {d : List D} (i : Nat), Rps K F ρ v d → Rps K F ρ (v.set i u) (d.set i x)
  | _, _, _, .nil => .nil
  | _, _, 0, .cons _ r => .cons h r
  | _, _, i + 1, .cons q r => .cons q (Rps.set h i r)
theorem Rps.take : ∀ {v : List V} {d : List D} (n : Nat), Rps K F ρ v d → Rps K F ρ (v.take n) (d.take n)
  | _, _, 0, _ => by simpa using .nil
  | _, _, _ + 1, .nil => .nil
  | _, _, n + 1, .cons h r => .cons h (Rps.take n r)
theorem Rps.drop : ∀ {v : List V} {d : List D} (n : Nat), Rps K F ρ v d → Rps K F ρ (v.drop n) (d.drop n)
  | _, _, 0, r => r
  | _, _, _ + 1, .nil => .nil
  | _, _, n + 1, .cons _ r => Rps.drop n r
theorem Ok.sub (O : Ok K cl H ρ F st) : ∀ a u, F a = some u → Rd H a u := fun a u h => (O.sub' a u h).imp id And.right
theorem Ok.subE (O : Ok K cl H ρ F st) {a : Addr} {u : HO} (h : F a = some u) (hu : isDH u = false) : H a = some u := by
  rcases O.sub' a u h with h | ⟨h, _⟩
  · exact h
  · rw [hu] at h; exact nomatch h
theorem Ok.subO (O : Ok K cl H ρ F st) {H1 : Hp} (h : ∀ b w, F b = some w → H b = some w → H1 b = some w) (h2 : ∀ b o w, F b = some w → H b = some (.frz o w) → H1 b = some (.frz o w)) : ∀ a u, F a = some u → H1 a = some u ∨ (isDH u = true ∧ ∃ o, H1 a = some (.frz o u)) := fun a u e => by
  rcases O.sub' a u e with q | ⟨q, o, z⟩
  · exact .inl (h a u e q)
  · exact .inr ⟨q, o, h2 a o u e z⟩
theorem Rd.some_ne {p : Addr} {u : HO} (h : Rd H p u) : H p ≠ none := by
  rcases h with h | ⟨o, h⟩ <;> rw [h] <;> simp
theorem Ok.fnone (O : Ok K cl H ρ F st) {p : Addr} (hp : H p = none) : F p = none := by
  cases e : F p with
  | none => rfl
  | some o => exact absurd hp (Rd.some_ne (O.sub p o e))
theorem Ok.nin (O : Ok K cl H ρ F st) {p : Addr} (hp : H p = none) : ∀ a ∈ ρ, a ≠ p := fun a ha e => by
  subst e
  obtain ⟨n, hn, e⟩ := List.getElem_of_mem ha
  have h1 : n < st.length := by rw [← O.len]; exact hn
  obtain ⟨w, hw, _⟩ := O.obj n a st[n] (by rw [List.getElem?_eq_getElem hn, e]) (List.getElem?_eq_getElem h1)
  rw [hw] at hp; cases hp
theorem Rd.upd {p b : Addr} {u w : HO} (hp : H p = none) (h : Rd H b w) : Rd (upd H p u) b w := by
  rcases h with h | ⟨o, h⟩
  · exact .inl (by rw [upd_ne (ne_of_none h hp)]; exact h)
  · exact .inr ⟨o, by rw [upd_ne (ne_of_none h hp)]; exact h⟩
theorem Rd.other {p b : Addr} {u w : HO} (hp : b ≠ p) (h : Rd H b w) : Rd (L2.upd H p u) b w := by
  rcases h with h | ⟨o, h⟩
  · exact .inl (by rw [upd_ne hp]; exact h)
  · exact .inr ⟨o, by rw [upd_ne hp]; exact h⟩
/-- a new thing that never changes -/
theorem Ok.lay {p : Addr} {u : HO} (O : Ok K cl H ρ F st) (hp : H p = none) (hu : ∀ ob w, u ≠ .frz ob w := by intros; nofun) : Step ρ F H ρ (upd F p u) (upd H p u) ∧ Ok K cl (upd H p u) ρ (upd F p u) st := by
  have fp : F p = none := O.fnone hp
  have np : ∀ a ∈ ρ, a ≠ p := O.nin hp
  have sF : Same F (upd F p u) := fun b o e => by rw [upd_ne (ne_of_none e fp)]; exact e
  refine ⟨⟨⟨[], by simp, by simp⟩, sF, fun a h1 h2 h3 => ?_, fun a o e _ => by rw [upd_ne (ne_of_none e hp)]; exact e, fun a h => ?_, fun a ob w e => by rw [upd_ne (ne_of_none e hp)]; exact e⟩, ⟨fun b o e => ?_, fun b ob w e => ?_, O.len, O.nd, fun a ha => by rw [upd_ne (np a ha)]; exact O.free a ha, fun n a o e1 e2 => ?_⟩⟩
  · have : a ≠ p := fun z => h2 (by rw [z]; exact hp)
    rw [upd_ne this, upd_ne this]; exact ⟨h1, h3⟩
  · by_cases z : a = p
    · rw [z, upd_same]; simp
    · rw [upd_ne z]; exact h
  · by_cases z : b = p
    · subst z
      rw [upd_same] at e; cases e; exact .inl upd_same
    · rw [upd_ne z] at e; rw [upd_ne z]; exact O.sub' b o e
  · by_cases z : b = p
    · subst z
      rw [upd_same] at e; exact hu ob w (Option.some.inj e)
    · rw [upd_ne z] at e; exact O.nf b ob w e
  · obtain ⟨w, hw, r⟩ := O.obj n a o e1 e2
    exact ⟨w, by rw [upd_ne (np a (List.mem_of_getElem? e1))]; exact hw, r.mono sF ⟨[], by simp⟩⟩
/-- a new thing of the store -/
theorem Ok.make {p : Addr} {u : HO} {o : SO} (O : Ok K cl H ρ F st) (hp : H p = none) (r : ObjR K cl F (ρ ++ [p]) u o) : Step ρ F H (ρ ++ [p]) F (upd H p u) ∧ Ok K cl (upd H p u) (ρ ++ [p]) F (st ++ [o]) := by
  have fp : F p = none := O.fnone hp
  have np : ∀ a ∈ ρ, a ≠ p := O.nin hp
  refine ⟨⟨⟨[p], rfl, fun a ha => by rw [List.mem_singleton.mp ha]; exact hp⟩, Same.refl F, fun a h1 h2 h3 => ⟨h1, by rw [upd_ne (fun z => h2 (by rw [z]; exact hp))]; exact h3⟩, fun a o e _ => by rw [upd_ne (ne_of_none e hp)]; exact e, fun a h => ?_, fun a ob w e => by rw [upd_ne (ne_of_none e hp)]; exact e⟩, ⟨fun b w e => ?_, O.nf, by rw [List.length_append, List.length_append, O.len]; rfl, ?_, fun a ha => ?_, fun n a w e1 e2 => ?_⟩⟩
  · by_cases z : a = p
    · rw [z, upd_same]; simp
    · rw [upd_ne z]; exact h
  · rw [upd_ne (ne_of_none e fp)]; exact O.sub' b w e
  · rw [List.nodup_append]
    exact ⟨O.nd, by simp, fun a ha b hb => by rw [List.mem_singleton.mp hb]; exact np a ha⟩
  · rcases List.mem_append.mp ha with q | q
    · exact O.free a q
    · rw [List.mem_singleton.mp q]; exact fp
  · by_cases hn : n < ρ.length
    · rw [List.getElem?_append_left hn] at e1
      rw [List.getElem?_append_left (by rw [← O.len]; exact hn)] at e2
      obtain ⟨w2, hw, r2⟩ := O.obj n a w e1 e2
      exact ⟨w2, by rw [upd_ne (np a (List.mem_of_getElem? e1))]; exact hw, r2.mono (Same.refl F) ⟨[p], rfl⟩⟩
    · have h1 : n < (ρ ++ [p]).length := (List.getElem?_eq_some_iff.mp e1).1
      rw [List.length_append, List.length_singleton] at h1
      have h2 : n = ρ.length := by omega
      subst h2
      rw [List.getElem?_append_right (Nat.le_refl _), Nat.sub_self] at e1
      rw [O.len, List.getElem?_append_right (Nat.le_refl _), Nat.sub_self] at e2
      cases e1; cases e2
      exact ⟨u, upd_same, r⟩
/-- a thing of the store changed -/
theorem Ok.write {n : Nat} {a : Addr} {u w0 : HO} {o : SO} (O : Ok K cl H ρ F st) (ha : ρ[n]? = some a) (hw0 : H a = some w0) (hf0 : ∀ ob w, w0 ≠ .frz ob w) (r : ObjR K cl F ρ u o) : Step ρ F H ρ F (upd H a u) ∧ Ok K cl (upd H a u) ρ F (st.set n o) := by
  have ma : a ∈ ρ := List.mem_of_getElem? ha
  refine ⟨⟨⟨[], by simp, by simp⟩, Same.refl F, fun b h1 h2 h3 => ⟨h1, by
    by_cases z : b = a
    · rw [z, upd_same]; exact r.notTup
    · rw [upd_ne z]; exact h3⟩, fun b o e hb => by rw [upd_ne fun z => hb (by rw [z]; exact ma)]; exact e, fun b h => ?_, fun b ob w e => by rw [upd_ne (fun z => by rw [z, hw0] at e; exact hf0 ob w (Option.some.inj e))]; exact e⟩, ⟨fun b w e => ?_, O.nf, by rw [List.length_set]; exact O.len, O.nd, O.free, fun m b w e1 e2 => ?_⟩⟩
  · by_cases z : b = a
    · rw [z, upd_same]; simp
    · rw [upd_ne z]; exact h
  · rw [upd_ne (fun z => by rw [z, O.free a ma] at e; cases e)]; exact O.sub' b w e
  · by_cases z : n = m
    · subst z
      rw [ha] at e1; cases e1
      have hn : n < st.length := by rw [← O.len]; exact (List.getElem?_eq_some_iff.mp ha).1
      rw [List.getElem?_set_self hn] at e2; cases e2
      exact ⟨u, upd_same, r⟩
    · rw [List.getElem?_set_ne z] at e2
      obtain ⟨w2, hw, r2⟩ := O.obj m b w e1 e2
      refine ⟨w2, ?_, r2⟩
      rw [upd_ne fun q => z ?_]
      · exact hw
      · subst q
        obtain ⟨h1, e3⟩ := List.getElem?_eq_some_iff.mp ha
        obtain ⟨h2, e4⟩ := List.getElem?_eq_some_iff.mp e1
        exact (List.getElem_inj O.nd).mp (e3.trans e4.symm)
theorem Ok.at (O : Ok K cl H ρ F st) {n : Nat} {a : Addr} {o : SO} (ha : ρ[n]? = some a) (ho : st[n]? = some o) : ∃ u, H a = some u ∧ ObjR K cl F ρ u o := O.obj n a o ha ho
/-- a thing of the store as it is read -/
theorem Ok.rd (O : Ok K cl H ρ F st) {n : Nat} {a : Addr} {o : SO} (ha : ρ[n]? = some a) (ho : getS st n = some o) (hn : ∀ x, o ≠ .lck x) : ∃ u, Rd H a u ∧ ObjR K cl F ρ u o := by
  unfold getS at ho
  obtain ⟨o', h1, h2⟩ := Option.map_eq_some_iff.mp ho
  obtain ⟨u, hu, r⟩ := O.at ha h1
  cases r with
  | lck r => cases h2; exact ⟨_, .inr ⟨_, hu⟩, r⟩
  | lst r => cases h2; exact ⟨_, .inl hu, .lst r⟩
  | dK r => cases h2; exact ⟨_, .inl hu, .dK r⟩
  | dT r => cases h2; exact ⟨_, .inl hu, .dT r⟩
  | ins c r => cases h2; exact ⟨_, .inl hu, .ins c r⟩
/-- a tuple that stands there, taken as one that never changes -/
theorem Ok.adopt (O : Ok K cl H ρ F st) {b : Addr} {xs : List V} (h : H b = some (.tup xs)) : ∃ F', Step ρ F H ρ F' H ∧ Ok K cl H ρ F' st ∧ F' b = some (.tup xs) := by
  cases e : F b with
  | some u =>
    refine ⟨F, .refl, O, ?_⟩
    rcases O.sub b u e with z | ⟨o, z⟩
    · rw [h] at z; cases z; exact e
    · rw [h] at z; cases z
  | none =>
    have nb : ∀ a ∈ ρ, a ≠ b := fun a ha z => by
      subst z
      obtain ⟨n, hn, e⟩ := List.getElem_of_mem ha
      have h1 : n < st.length := by rw [← O.len]; exact hn
      obtain ⟨w, hw, r⟩ := O.obj n a st[n] (by rw [List.getElem?_eq_getElem hn, e]) (List.getElem?_eq_getElem h1)
      have := r.notTup
      rw [hw] at h; cases h; cases this
    have sF : Same F (upd F b (.tup xs)) := fun c o z => by rw [upd_ne (ne_of_none z e)]; exact z
    refine ⟨upd F b (.tup xs), ⟨⟨[], by simp, by simp⟩, sF, fun a h1 h2 h3 => ?_, fun _ _ z _ => z, fun _ z => z, fun _ _ _ z => z⟩, ⟨fun c u z => ?_, fun c ob w z => ?_, O.len, O.nd, fun a ha => by rw [upd_ne (nb a ha)]; exact O.free a ha, fun n a o e1 e2 => ?_⟩, upd_same⟩
    · have : a ≠ b := fun z => by rw [z, h] at h3; cases h3
      rw [upd_ne this]; exact ⟨h1, h3⟩
    · by_cases y : c = b
      · subst y; rw [upd_same] at z; cases z; exact .inl h
      · rw [upd_ne y] at z; exact O.sub' c u z
    · by_cases y : c = b
      · subst y; rw [upd_same] at z; cases z
      · rw [upd_ne y] at z; exact O.nf c ob w z
    · obtain ⟨w, hw, r⟩ := O.obj n a o e1 e2
      exact ⟨w, hw, r.mono sF ⟨[], by simp⟩⟩
theorem Ok.sqT (O : Ok K cl H ρ F st) {a : Addr} {xs : List V} (h : SqT K F a xs) : SqT K H a xs := by
  rcases h with (h | ⟨o, h⟩) | h
  · exact .inl (O.sub _ _ h)
  · exact absurd h (O.nf _ _ _)
  · exact .inr h
end
end WW

namespace WW
open PySem PySem.Spec L2
/-! ### what is wanted behind -/
/-- an exception as it stands: its class by its name, its fields -/
def ExcR (K : PySem.W.Frag) (cl : Nat → Option Addr) (F : Hp) (ρ : List Addr) (H : Hp) (cls : Value) (dx : Option Addr) (c : Nat) (fs : List (Str × D)) : Prop :=
  ∃ A, cl c = some A ∧ cls = .ref A ∧ ((fs = [] ∧ dx = none) ∨ ∃ d fv, dx = some d ∧ H d = some (.xd fv) ∧ RpK K F ρ fv fs)
/-- behind an evaluation that ended in r -/
def Post {α β : Type} (K : PySem.W.Frag) (cl : Nat → Option Addr) (rel : Hp → List Addr → β → α → Prop) (E : XK) (ρ : List Addr) (F H : Hp) (r : R α) (Q : β → Hp → Prop) : Prop := match r with
  | .stuck => False
  | .ok d st => ∀ v H' ρ' F', Step ρ F H ρ' F' H' → Ok K cl H' ρ' F' st → rel F' ρ' v d → Q v H'
  | .exc c fs st => ∀ cls dx H' ρ' F', Step ρ F H ρ' F' H' → Ok K cl H' ρ' F' st → ExcR K cl F' ρ' H' cls dx c fs → E cls dx H'
section
variable {α β γ δ : Type} {K : PySem.W.Frag} {cl : Nat → Option Addr} {rel : Hp → List Addr → β → α → Prop} {rel' : Hp → List Addr → δ → γ → Prop} {E : XK} {ρ ρ1 : List Addr} {F H F1 H1 : Hp}
theorem Post.imp {r : R α} {Q Q' : β → Hp → Prop} (h : Post K cl rel E ρ F H r Q) (i : ∀ v H, Q v H → Q' v H) : Post K cl rel E ρ F H r Q' := by
  cases r with
  | stuck => exact h
  | ok d st => exact fun v H' ρ' F' a b c => i _ _ (h v H' ρ' F' a b c)
  | exc c fs st => exact h
theorem Post.shift {r : R α} {Q : β → Hp → Prop} (s : Step ρ F H ρ1 F1 H1) (h : Post K cl rel E ρ F H r Q) : Post K cl rel E ρ1 F1 H1 r Q := by
  cases r with
  | stuck => exact h
  | ok d st => exact fun v H' ρ' F' a b c => h v H' ρ' F' (s.trans a) b c
  | exc c fs st => exact fun cls dx H' ρ' F' a b c => h cls dx H' ρ' F' (s.trans a) b c
theorem Post.bind {r : R α} {f : α → Store → R γ} {Q : δ → Hp → Prop} (h : Post K cl rel' E ρ F H (r.bind f) Q) :
    Post K cl rel E ρ F H r (fun x H1 => ∃ ρ1 F1 st1 a, Step ρ F H ρ1 F1 H1 ∧ Ok K cl H1 ρ1 F1 st1 ∧ rel F1 ρ1 x a ∧ Post K cl rel' E ρ1 F1 H1 (f a st1) Q) := by
  cases r with
  | stuck => exact h
  | ok d st => exact fun v H' ρ' F' a b c => ⟨ρ', F', st, d, a, b, c, Post.shift a h⟩
  | exc c fs st => exact h
theorem Post.ok {d : α} {st : Store} {v : β} {Q : β → Hp → Prop} (h : Post K cl rel E ρ F H (.ok d st) Q) (s : Step ρ F H ρ1 F1 H1) (o : Ok K cl H1 ρ1 F1 st) (r : rel F1 ρ1 v d) : Q v H1 := h v H1 ρ1 F1 s o r
end
/-- slots as they stand -/
structure EnvR (K : PySem.W.Frag) (F : Hp) (ρ : List Addr) (σ : St) (env : Env) : Prop where
  len : σ.length = env.length
  at' : ∀ (i : Nat) (d : D), env[i]? = some (some d) → ∃ v, σ[i]? = some (some v) ∧ Rp K F ρ v d
theorem EnvR.step {K : PySem.W.Frag} {ρ ρ' : List Addr} {F F' H H' : Hp} {σ : St} {env : Env} (s : Step ρ F H ρ' F' H') (h : EnvR K F ρ σ env) : EnvR K F' ρ' σ env :=
  ⟨h.len, fun i d e => let ⟨v, a, b⟩ := h.at' i d e; ⟨v, a, b.step s⟩⟩
theorem EnvR.set {K : PySem.W.Frag} {ρ : List Addr} {F : Hp} {σ : St} {env : Env} {i : Nat} {v : V} {d : D} (h : EnvR K F ρ σ env) (r : Rp K F ρ v d) : EnvR K F ρ (σ.set i (some v)) (env.set i (some d)) := by
  refine ⟨by rw [List.length_set, List.length_set]; exact h.len, fun j e he => ?_⟩
  by_cases z : i = j
  · subst z
    have hi : i < env.length := by
      have := (List.getElem?_eq_some_iff.mp he).1
      rwa [List.length_set] at this
    rw [List.getElem?_set_self hi] at he
    cases he
    exact ⟨v, List.getElem?_set_self (by rw [h.len]; exact hi), r⟩
  · rw [List.getElem?_set_ne z] at he ⊢
    exact h.at' j e he
theorem EnvR.wipe {K : PySem.W.Frag} {ρ : List Addr} {F : Hp} {σ : St} {env : Env} (h : EnvR K F ρ σ env) : ∀ vs : List Nat, EnvR K F ρ (L2.wipe σ vs) (WW.wipe env vs)
  | [] => h
  | v :: vs => by
    have ih := EnvR.wipe h vs
    refine ⟨?_, fun j e he => ?_⟩
    · show ((L2.wipe σ vs).set v none).length = ((WW.wipe env vs).set v none).length
      rw [List.length_set, List.length_set]; exact ih.len
    · have he' : ((WW.wipe env vs).set v none)[j]? = some (some e) := he
      show ∃ w, ((L2.wipe σ vs).set v none)[j]? = some (some w) ∧ _
      by_cases z : v = j
      · subst z
        have hi : v < (WW.wipe env vs).length := by
          have := (List.getElem?_eq_some_iff.mp he').1
          rwa [List.length_set] at this
        rw [List.getElem?_set_self hi] at he'
        cases he'
      · rw [List.getElem?_set_ne z] at he' ⊢
        exact ih.at' j e he'

/-- a def's promise by its answer -/
def spG (K : PySem.W.Frag) (cl : Nat → Option Addr) (φ : Fn) (n : Nat) : Sp := fun vs H Q E => vs.length = n ∧ ∃ ρ F st ds, Ok K cl H ρ F st ∧ Rps K F ρ vs ds ∧
  Post K cl (Rp K) E ρ F H (φ ds st) Q

/-! ### what stands around -/
structure Shape where
  n : Nat
  ks : List Str
  sel : List (Nat ⊕ PyData)
inductive GE where
  | blt
  | con (d : PyData)
  | fn (f : Nat) (ps : List Str) (plain : Bool) (shapes : List Shape)
/-- what a def's text is read by -/
structure CC where
  N : List Str
  sc : Scope
  fn : Str → Bool
  G : List (Str × GE)
def SelOk (K : PySem.W.Frag) (l : List Value) : (Nat ⊕ PyData) → Value → Prop
  | .inl i, z => l[i]? = some z
  | .inr p, z => ∃ v, (∀ F, Rep K F v p) ∧ RelV v z
/-- how a call of such a shape binds -/
def ShapeOk (K : PySem.W.Frag) (fd : FuncData) (ps : List Str) (sh : Shape) : Prop := ∀ (s : Shared) (us ws : List Value), K.In s.heap → us.length = sh.n → ws.length = sh.ks.length →
  ∃ zs, zs.length = ps.length ∧ BindsTo s fd ⟨us, sh.ks.zip ws⟩ (ps.zip zs) ∧ Paired (SelOk K (us ++ ws)) sh.sel zs
/-- a def's promise, where no text is being shown -/
structure FnG (P : Program) (w : World) (K : PySem.W.Frag) (mg : Str → Option Value) (base : Heap) (k : Nat) (f : Addr) (fd : FuncData) (ps : List Str) (sp : Sp) : Prop where
  len : ∀ vs H Q E, sp vs H Q E → vs.length = ps.length
  run : ∀ (A : Around) (outer : List PySem.Env) (s : Shared) (H : Hp) (args : Args) (us : List Value) (vs : List V) (Q : VK) (E : XK), A.guards = some [] → Room k A → Env0 P w K mg base A outer s H → BindsTo s fd args (ps.zip us) → Vals vs us → sp vs H Q E →
    codeAny (model P w) A (.call (.ref f) args) (CR (L2.CX P w) outer P w H s Q E) s
def GlobOk (X : Cx) (cl : Nat → Option Addr) (Φ : Nat → Fn) (x : Str) : GE → Prop
  | .blt => X.mg x = none
  | .con d => ∃ v u, X.mg x = some u ∧ RelV v u ∧ ∀ F, Rep X.K F v d
  | .fn n ps plain shapes => ∃ f fd k, X.mg x = some (.ref f) ∧ FnG X.prog X.w X.K X.mg X.base k f fd ps (spG X.K cl (Φ n) ps.length) ∧ Room k X.A ∧ PySem.W.keepIn X.K (.ref f) = true ∧ (plain = true → Binds X.K fd ps []) ∧ ∀ sh ∈ shapes, ShapeOk X.K fd ps sh
structure CtxOk (C : CC) (cl : Nat → Option Addr) (Φ : Nat → Fn) (X : Cx) (W : WX) : Prop where
  N : X.N = C.N
  nd : C.N.Nodup
  sc : X.env.scope = C.sc
  fn : ∀ x, C.fn x = true → X.fn x = true
  calm : X.calm = true
  tk : Takes X W
  hu : X.A.units + 200 < cLine
  gu : X.A.guards = some []
  po : PassesOwn (model X.prog X.w) X.A X.env X.xe
  glo : ∀ x g, (x, g) ∈ C.G → GlobOk X cl Φ x g
  nst : PySem.W.nsIn X.K cStatics "sys.int_max_str_digits" = some none
/-- a comprehension's block -/
def CC.blk (C : CC) (scope : Scope) : CC := { C with sc := relS scope C.sc, fn := fun x => scope.names.lookup x == some .cell }
theorem CtxOk.blk {C : CC} {cl : Nat → Option Addr} {Φ : Nat → Fn} {X : Cx} {W : WX} (c : CtxOk C cl Φ X W) (scope : Scope) (s : Shared) (H : Hp) (Ca : Addr) (cls : List (Str × Addr)) (fp : List Addr) :
    CtxOk (C.blk scope) cl Φ (X.blk s H scope (compEnvC scope cls Ca X.env) fp) (fun _ _ _ _ => False) where
  N := c.N
  nd := c.nd
  sc := by
    show (compEnvC scope cls Ca X.env).scope = relS scope C.sc
    rw [← c.sc]; rfl
  fn := fun x h => h
  calm := c.calm
  tk := takes0
  hu := c.hu
  gu := c.gu
  po := PassesOwn.never
  glo := fun x g hx => by
    have := c.glo x g hx
    cases g with
    | blt => exact this
    | con d => exact this
    | fn f ps pl sh => exact this
  nst := c.nst

/-! ### readings -/
section
variable (K : PySem.W.Frag) (cl : Nat → Option Addr) (W : WX) (Φ : Nat → Fn)
def tG {α β : Type} (rel : Hp → List Addr → β → α → Prop) (r : Env → Store → R α) : St → Hp → (β → Hp → Prop) → Prop := fun σ H Q =>
  ∃ ρ F st env, Ok K cl H ρ F st ∧ EnvR K F ρ σ env ∧ Post K cl rel (WE W σ) ρ F H (r env st) Q
abbrev tE (c : CE) : TE := tG K cl W (Rp K) (ev Φ c)
abbrev tEs (c : CE) : TA := tG K cl W (Rps K) (evs Φ c)
abbrev tTs (c : CE) : TT := tG K cl W (fun _ _ (b : Bool) b' => b = b') (tst Φ c)
end
theorem tG_bind {α β γ δ : Type} {K : PySem.W.Frag} {cl : Nat → Option Addr} {W : WX} {rel : Hp → List Addr → β → α → Prop} {rel' : Hp → List Addr → δ → γ → Prop} {r : Env → Store → R α} {f : Env → α → Store → R γ} {σ : St} {H : Hp} {Q : δ → Hp → Prop}
    {g : Env → Store → R γ} (hg : ∀ env st, g env st = (r env st).bind (f env)) (h : tG K cl W rel' g σ H Q) :
    tG K cl W rel r σ H (fun x H1 => ∃ ρ1 F1 st1 env a, Ok K cl H1 ρ1 F1 st1 ∧ EnvR K F1 ρ1 σ env ∧ rel F1 ρ1 x a ∧ Post K cl rel' (WE W σ) ρ1 F1 H1 (f env a st1) Q) := by
  obtain ⟨ρ, F, st, env, O, E, h⟩ := h
  rw [hg] at h
  exact ⟨ρ, F, st, env, O, E, h.bind.imp fun x H1 ⟨ρ1, F1, st1, a, s, o, r, p⟩ => ⟨ρ1, F1, st1, env, a, o, E.step s, r, p⟩⟩
theorem tG_imp {α β : Type} {K : PySem.W.Frag} {cl : Nat → Option Addr} {W : WX} {rel : Hp → List Addr → β → α → Prop} {r : Env → Store → R α} {σ : St} {H : Hp} {Q Q' : β → Hp → Prop} (h : tG K cl W rel r σ H Q) (i : ∀ v H, Q v H → Q' v H) : tG K cl W rel r σ H Q' := by
  obtain ⟨ρ, F, st, env, O, E, h⟩ := h
  exact ⟨ρ, F, st, env, O, E, h.imp i⟩
section
variable {X : Cx}
theorem weakPE {e : Expr} {t t' : TE} (h : PE X e t) (i : ∀ σ H Q, t' σ H Q → t σ H Q) : PE X e t' := ⟨fun pins s σ H Q I q => h.run pins s σ H Q I (i σ H Q q)⟩
theorem weakPT {e : Expr} {t t' : TT} (h : PT X e t) (i : ∀ σ H Q, t' σ H Q → t σ H Q) : PT X e t' := ⟨fun pins s σ H Q I q => h.run pins s σ H Q I (i σ H Q q)⟩
theorem weakPW {e : Expr} {t t' : TT} (h : PW X e t) (i : ∀ σ H Q, t' σ H Q → t σ H Q) : PW X e t' := ⟨fun w pins s σ H Q I q => h.run w pins s σ H Q I (i σ H Q q)⟩
theorem weakPA {e : List Expr} {t t' : TA} (h : PA X e t) (i : ∀ σ H Q, t' σ H Q → t σ H Q) : PA X e t' := ⟨fun p pins s σ H Q I q => h.run p pins s σ H Q I (i σ H Q q)⟩
theorem weakPK {e : List Keyword} {t t' : TA} (h : PK X e t) (i : ∀ σ H Q, t' σ H Q → t σ H Q) : PK X e t' := ⟨fun p pins s σ H Q I q => h.run p pins s σ H Q I (i σ H Q q)⟩
theorem weakPS {e : Stmt} {t t' : TS} (h : PS X e t) (i : ∀ D σ H, t' D σ H → t D σ H) : PS X e t' := ⟨fun pins s σ H D I q => h.run pins s σ H D I (i D σ H q)⟩
theorem weakPSs {e : List Stmt} {t t' : TS} (h : PSs X e t) (i : ∀ D σ H, t' D σ H → t D σ H) : PSs X e t' := ⟨fun pins s σ H D I q => h.run pins s σ H D I (i D σ H q)⟩
theorem weakPG {e : Expr} {t t' : TG} (h : PG X e t) (i : ∀ v σ H Q, t' v σ H Q → t v σ H Q) : PG X e t' := ⟨fun pins s σ H v u Q I r q => h.run pins s σ H v u Q I r (i v σ H Q q)⟩

/-! ### answers of one, two things -/
/-- what an operator of mine asks -/
def rB (K : PySem.W.Frag) (cl : Nat → Option Addr) (f : Store → D → D → R D) : R2 := fun x y H Q => ∃ ρ F st a b, Ok K cl H ρ F st ∧ Rp K F ρ x a ∧ Rp K F ρ y b ∧ ∃ d st', f st a b = .ok d st' ∧
  ∀ v H' ρ' F', Step ρ F H ρ' F' H' → Ok K cl H' ρ' F' st' → Rp K F' ρ' v d → Q v H'
/-- .. of one thing -/
def rU (K : PySem.W.Frag) (cl : Nat → Option Addr) (f : Store → D → R D) : V → Hp → VK → Prop := fun x H Q => ∃ ρ F st a, Ok K cl H ρ F st ∧ Rp K F ρ x a ∧ ∃ d st', f st a = .ok d st' ∧
  ∀ v H' ρ' F', Step ρ F H ρ' F' H' → Ok K cl H' ρ' F' st' → Rp K F' ρ' v d → Q v H'
/-- .. of some things -/
def rN (K : PySem.W.Frag) (cl : Nat → Option Addr) (f : Store → List D → R D) : List V → Hp → VK → Prop := fun xs H Q => ∃ ρ F st ds, Ok K cl H ρ F st ∧ Rps K F ρ xs ds ∧ ∃ d st', f st ds = .ok d st' ∧
  ∀ v H' ρ' F', Step ρ F H ρ' F' H' → Ok K cl H' ρ' F' st' → Rp K F' ρ' v d → Q v H'
/-- .. of a thing and some others -/
def rM (K : PySem.W.Frag) (cl : Nat → Option Addr) (f : Store → D → List D → R D) : V → List V → Hp → VK → Prop := fun x xs H Q => ∃ ρ F st a ds, Ok K cl H ρ F st ∧ Rp K F ρ x a ∧ Rps K F ρ xs ds ∧ ∃ d st', f st a ds = .ok d st' ∧
  ∀ v H' ρ' F', Step ρ F H ρ' F' H' → Ok K cl H' ρ' F' st' → Rp K F' ρ' v d → Q v H'
/-- no operator of mine raises -/
def NoExc {α : Type} (r : R α) : Prop := ∀ c fs st, r ≠ .exc c fs st
theorem noExc_give {α : Type} (st : Store) (o : Option α) : NoExc (giveS st o) := by cases o <;> exact fun _ _ _ h => nomatch h
theorem post_ok {α β : Type} {K : PySem.W.Frag} {cl : Nat → Option Addr} {rel : Hp → List Addr → β → α → Prop} {E : XK} {ρ : List Addr} {F H : Hp} {r : R α} {Q : β → Hp → Prop} (hn : NoExc r) (h : Post K cl rel E ρ F H r Q) :
    ∃ d st', r = .ok d st' ∧ ∀ v H' ρ' F', Step ρ F H ρ' F' H' → Ok K cl H' ρ' F' st' → rel F' ρ' v d → Q v H' := by
  cases r with
  | stuck => exact h.elim
  | ok d st => exact ⟨d, st, rfl, h⟩
  | exc c fs st => exact absurd rfl (hn c fs st)
variable {cl : Nat → Option Addr} {W : WX} {Φ : Nat → Fn}
theorem sE_bin {a b : Expr} {op : Operator} {pos : Pos} {ca cb : CE} {m : Bool} (ho : OpR X (binaryOp op) (rB X.K cl (binO op m))) (hn : ∀ st x y, NoExc (binO op m st x y)) (ha : PE X a (tE X.K cl W Φ ca)) (hb : PE X b (tE X.K cl W Φ cb)) : PE X (.BinOp a op b pos) (tE X.K cl W Φ (.bin op m ca cb)) :=
  weakPE (pe_op ho ha hb) fun σ H Q h => tG_imp (tG_bind (fun _ _ => by rw [ev]) h) fun x H1 ⟨ρ1, F1, st1, env, d1, O1, E1, R1, p1⟩ =>
    ⟨ρ1, F1, st1, env, O1, E1, p1.bind.imp fun y H2 ⟨ρ2, F2, st2, d2, S2, O2, R2, p2⟩ =>
      ⟨ρ2, F2, st2, d1, d2, O2, R1.step S2, R2, post_ok (hn _ _ _) p2⟩⟩
theorem sE_cmp {a b : Expr} {op : CmpOp} {pos : Pos} {ca cb : CE} (ho : OpR X (compareOp op) (rB X.K cl fun st x y => give st ((cmpO op st x y).map bo))) (ha : PE X a (tE X.K cl W Φ ca)) (hb : PE X b (tE X.K cl W Φ cb)) (hm : behindInMarks op b = false) :
    PE X (.Compare a [op] [b] pos) (tE X.K cl W Φ (.cmp op ca cb)) :=
  weakPE (pe_cmpR ho ha hb hm) fun σ H Q h => tG_imp (tG_bind (fun _ _ => by rw [ev]) h) fun x H1 ⟨ρ1, F1, st1, env, d1, O1, E1, R1, p1⟩ =>
    ⟨ρ1, F1, st1, env, O1, E1, p1.bind.imp fun y H2 ⟨ρ2, F2, st2, d2, S2, O2, R2, p2⟩ =>
      ⟨ρ2, F2, st2, d1, d2, O2, R1.step S2, R2, post_ok (noExc_give _ _) p2⟩⟩
end
end WW

set_option maxHeartbeats 4000000
namespace WW
open PySem PySem.Spec L2 PyProof.Rows
/-! ### a tuple times an int: the same tuple, the empty one, a new one -/
theorem tmul_same (l : Addr) (items : Array Value) (n : Nat) (dd : Option Addr) (sl : Array (Option Value)) (x : Int) (u : Tok) (c0 : (decide (x < -(2 ^ 63)) || decide (x ≥ 2 ^ 63)) = false) (c1 : (items.isEmpty || x == 1) = true) :
    Meets (Builtin.«tuple.__mul__» ⟨[.ref l, .int x u], []⟩) (fun _ R s => s.heap.get? l = some { cls := .type "tuple", dict := dd, data := .seq items n, slots := sl } ∧ R (.ok (.ret (Value.ref l))) s) := .of_wp fun prog w A R s h => by
  obtain ⟨hp, g, d, tk, os⟩ := s
  obtain ⟨hl, h⟩ := h
  have f1 := AutoSeq1.idx_int
  wp_walk using wpAny_loadPart' hl
  repeat (first
    | (refine wpAny_ite_false (decide_eq_false (by rw [c0]; simp)) ?_; wp_walk using wpAny_loadPart' hl)
    | (refine wpAny_ite_true (decide_eq_true c1) ?_; wp_walk using wpAny_loadPart' hl))
  exact ⟨_, rfl, h⟩
theorem tmul_none (l : Addr) (items : Array Value) (n : Nat) (dd : Option Addr) (sl : Array (Option Value)) (x : Int) (u : Tok) (c0 : (decide (x < -(2 ^ 63)) || decide (x ≥ 2 ^ 63)) = false) (c1 : (items.isEmpty || x == 1) = false) (c2 : (decide (x ≤ 0) || items.isEmpty) = true) :
    Meets (Builtin.«tuple.__mul__» ⟨[.ref l, .int x u], []⟩) (fun _ R s => s.heap.get? l = some { cls := .type "tuple", dict := dd, data := .seq items n, slots := sl } ∧
      R (.ok (.ret (Value.ref s.heap.objs.size))) { s with heap := s.heap.push { cls := Value.type "tuple", data := Data.seq #[] } }) := .of_wp fun prog w A R s h => by
  obtain ⟨hp, g, d, tk, os⟩ := s
  obtain ⟨hl, h⟩ := h
  have f1 := AutoSeq1.idx_int
  wp_walk using wpAny_loadPart' hl
  repeat (first
    | (refine wpAny_ite_false (decide_eq_false (by rw [c0]; simp)) ?_; wp_walk using wpAny_loadPart' hl)
    | (refine wpAny_ite_false (decide_eq_false (by rw [c1]; simp)) ?_; wp_walk using wpAny_loadPart' hl)
    | (refine wpAny_ite_true (decide_eq_true c2) ?_; wp_walk using wpAny_loadPart' hl))
  exact ⟨_, rfl, h⟩
def rTm (K : PySem.W.Frag) : R2 := fun x y H Q => ∃ l k xs, x = .ref l ∧ y = .int k ∧ SqT K H l xs ∧ -1000 ≤ k ∧ k ≤ 1000 ∧ xs.length ≤ 1000 ∧ ((xs = [] ∨ k = 1) → Q (.ref l) H) ∧ (xs ≠ [] → k ≠ 1 → ∀ p, H p = none → Q (.ref p) (upd H p (.tup (List.replicate k.toNat xs).flatten)))
theorem op_tm {X : Cx} : OpR X (binaryOp .Mult) (rTm X.K) := by
  intro pins s σ H x y v u Q I rx ry h
  obtain ⟨l, k, xs, rfl, rfl, hT, h1, h2, hz, q1, q2⟩ := h
  by_cases hbig : xs ≠ [] ∧ 2 ≤ k
  · exact op_repT pins s σ H _ _ v u Q I rx ry ⟨l, k, xs, rfl, rfl, hT, hbig.1, hbig.2, h2, hz, q2 hbig.1 (by omega)⟩
  cases rx
  obtain ⟨t, rfl⟩ := ry
  obtain ⟨its, r, ⟨⟨cls, dd, data, sl⟩, ho, hc, n, hd⟩, hs⟩ := I.tuple hT
  simp only at hc hd
  subst hc hd
  have hle : its.length = xs.length := r.length.symm
  have c0 : (decide (k < -(2 ^ 63)) || decide (k ≥ 2 ^ 63)) = false := by
    rw [decide_eq_false (by omega), decide_eq_false (by omega)] <;> rfl
  by_cases hs1 : xs = [] ∨ k = 1
  · have c1 : (its.toArray.isEmpty || k == 1) = true := by
      rcases hs1 with e | e
      · rw [e] at hle
        rw [List.length_eq_zero_iff.mp hle]; rfl
      · rw [e]; simp
    refine wpAny_binaryOp_repeat_ref (T := "tuple") (U := "int") (by decide) ⟨_, ho, rfl⟩ (fun s' => typeIs_int s' k t) noFill_tuple_mul F.fills_int_mul F.slot_int_rmul repeat_tuple F.slot_int_index.lookup (call_meets F.slot_int_rmul (typeIs_int s k t) F.entry_int_rmul (F.args_int_rmul_2 _ _) (int_rmul_tuple k t l its.toArray n dd sl) ⟨ho, rfl, ⟨_, ho, rfl⟩, ?_⟩)
    exact (call_meets F.slot_tuple_mul ⟨_, ho, rfl⟩ F.entry_tuple_mul (F.args_tuple_mul_2 _ _) (tmul_same l its.toArray n dd sl k t c0 c1) ⟨ho, .ref l, H, I, rfl, q1 hs1⟩)
  · rw [not_or] at hs1
    have hk : k ≤ 0 := by
      rcases Int.lt_or_le k 2 with z | z
      · omega
      · exact absurd ⟨hs1.1, z⟩ hbig
    have hi : its.toArray.isEmpty = false := by
      cases its with
      | nil => exact absurd (List.eq_nil_of_length_eq_zero hle.symm) hs1.1
      | cons a b => rfl
    have c1 : (its.toArray.isEmpty || k == 1) = false := by
      rw [hi, Bool.false_or]
      exact beq_eq_false_iff_ne.mpr hs1.2
    have c2 : (decide (k ≤ 0) || its.toArray.isEmpty) = true := by rw [decide_eq_true hk]; rfl
    have q3 := q2 hs1.1 hs1.2 s.heap.objs.size (I.hok.fresh (Nat.le_refl _))
    have e0 : (List.replicate k.toNat xs).flatten = [] := by rw [show k.toNat = 0 by omega]; rfl
    rw [e0] at q3
    refine wpAny_binaryOp_repeat_ref (T := "tuple") (U := "int") (by decide) ⟨_, ho, rfl⟩ (fun s' => typeIs_int s' k t) noFill_tuple_mul F.fills_int_mul F.slot_int_rmul repeat_tuple F.slot_int_index.lookup (call_meets F.slot_int_rmul (typeIs_int s k t) F.entry_int_rmul (F.args_int_rmul_2 _ _) (int_rmul_tuple k t l its.toArray n dd sl) ⟨ho, rfl, ⟨_, ho, rfl⟩, ?_⟩)
    refine (call_meets F.slot_tuple_mul ⟨_, ho, rfl⟩ F.entry_tuple_mul (F.args_tuple_mul_2 _ _) (tmul_none l its.toArray n dd sl k t c0 c1 c2) ⟨ho, ?_⟩)
    refine ⟨.ref s.heap.objs.size, _, I.laid (t' := s.toks) (o := .tup []) (fun b ob q => Heap.get?_push_of_some _ q) (Nat.le_refl _) ?_, rfl, q3⟩
    exact ⟨Nat.zero_le _, [], .nil, IsTup.new _ _⟩
end WW

namespace WW
open PySem PySem.Spec L2
/-! ### what stands behind a value's form -/
section
variable {K : PySem.W.Frag} {cl : Nat → Option Addr} {F H : Hp} {ρ : List Addr} {st st' : Store} {v : V} {d : D}
theorem SqT.none_mono {a : Addr} {xs : List V} (h : SqT K (fun _ => none) a xs) : SqT K H a xs := SqT.mono (fun _ _ e => by cases e) h
theorem Rp.pyE {p : PyData} (h : Rp K F ρ v (.py p)) : Rep K F v p := by cases h; assumption
theorem Rp.intE {i : Int} (h : Rp K F ρ v (.py (.int i))) : v = .int i := by cases h.pyE; rfl
theorem Rp.strE {i : Str} (h : Rp K F ρ v (.py (.str i))) : v = .str i := by cases h.pyE; rfl
theorem Rp.blE {i : Bool} (h : Rp K F ρ v (.py (.bool i))) : v = .bl i := by cases h.pyE; rfl
theorem Rp.nonE (h : Rp K F ρ v (.py .none)) : v = .non := by cases h.pyE; rfl
theorem asL_ok {xs : List D} (O : Ok K cl H ρ F st) (r : Rp K F ρ v d) (e : asL st d = some xs) : ∃ a vs, v = .ref a ∧ Rd H a (.lst vs) ∧ Rps K F ρ vs xs := by
  cases r with
  | py r =>
    cases r with
    | lst h r =>
      have e' : some _ = some xs := e
      cases e'
      exact ⟨_, _, rfl, O.sub _ _ h, r.rps⟩
    | _ => exact nomatch e
  | loc h =>
    rename_i n a
    simp only [asL] at e
    split at e
    · rename_i ys hs
      cases e
      obtain ⟨u, hu, hr⟩ := O.rd h hs (by intro x; nofun)
      cases hr with
      | lst r => exact ⟨_, _, rfl, hu, r⟩
    · exact nomatch e
  | _ => exact nomatch e
theorem asM_ok {xs : List D} (O : Ok K cl H ρ F st) (r : Rp K F ρ v d) (e : asM st d = some xs) : ∃ a vs, v = .ref a ∧ H a = some (.lst vs) ∧ Rps K F ρ vs xs := by
  cases r with
  | py r =>
    cases r with
    | lst h r =>
      have e' : some _ = some xs := e
      cases e'
      exact ⟨_, _, rfl, O.subE h rfl, r.rps⟩
    | _ => exact nomatch e
  | loc h =>
    rename_i n a
    simp only [asM] at e
    split at e
    · rename_i ys hs
      cases e
      obtain ⟨u, hu, hr⟩ := O.at h hs
      cases hr with
      | lst r => exact ⟨_, _, rfl, hu, r⟩
    · exact nomatch e
  | _ => exact nomatch e
theorem SqL.rd {a : Addr} {xs : List V} (h : Rd H a (.lst xs)) : SqL K H a xs := .inl h
theorem asT_ok {xs : List D} (O : Ok K cl H ρ F st) (r : Rp K F ρ v d) (e : asT d = some xs) : ∃ a vs, v = .ref a ∧ SqT K H a vs ∧ Rps K F ρ vs xs := by
  cases r with
  | py r =>
    cases r with
    | tup h r => cases e; exact ⟨_, _, rfl, .inl (O.sub _ _ h), r.rps⟩
    | tupK _ h r => cases e; exact ⟨_, _, rfl, SqT.none_mono h, r.rps⟩
    | _ => exact nomatch e
  | tup h r => cases e; exact ⟨_, _, rfl, .inl (O.sub _ _ h), r⟩
  | _ => exact nomatch e
theorem asLT_ok {xs : List D} (O : Ok K cl H ρ F st) (r : Rp K F ρ v d) (e : asLT st d = some xs) : ∃ a vs, v = .ref a ∧ (SqL K H a vs ∨ SqT K H a vs) ∧ Rps K F ρ vs xs := by
  unfold asLT at e
  split at e
  · cases e
    obtain ⟨a, vs, e1, e2, e3⟩ := asT_ok O r ‹_›
    exact ⟨a, vs, e1, .inr e2, e3⟩
  · obtain ⟨a, vs, e1, e2, e3⟩ := asL_ok O r e
    exact ⟨a, vs, e1, .inl (.inl e2), e3⟩
theorem mkT_ok {p : Addr} {vs : List V} {ds : List D} (h : F p = some (.tup vs)) (r : Rps K F ρ vs ds) : Rp K F ρ (.ref p) (mkT ds) := by
  unfold mkT
  split
  · rename_i ps e
    rw [allPy_eq e] at r
    exact .py (.tup h r.reps)
  · exact .tup h r
theorem Rps.nil_iff {vs : List V} {ds : List D} (r : Rps K F ρ vs ds) : vs = [] ↔ ds = [] := by
  cases r <;> simp
theorem Reps.nil_iff {vs : List V} {ds : List PyData} (r : Reps K F vs ds) : vs = [] ↔ ds = [] := by
  cases r <;> simp
/-- data in full -/
theorem Reps.get {vs : List V} {ds : List PyData} {i : Nat} {x : PyData} (r : Reps K F vs ds) (e : ds[i]? = some x) : ∃ u, vs[i]? = some u ∧ Rep K F u x := by
  obtain ⟨u, h1, h2⟩ := (r.rps (ρ := [])).get (i := i) (x := .py x) (by rw [List.getElem?_map, e]; rfl)
  cases h2 with
  | py h => exact ⟨u, h1, h⟩
/-- a new list -/
theorem newL_ok {m : Bool} {xs : List D} {vs : List V} {p : Addr} (O : Ok K cl H ρ F st) (r : Rps K F ρ vs xs) (e : newL m xs st = .ok d st') (hp : H p = none) :
    ∃ ρ' F', Step ρ F H ρ' F' (upd H p (.lst vs)) ∧ Ok K cl (upd H p (.lst vs)) ρ' F' st' ∧ Rp K F' ρ' (.ref p) d := by
  cases m with
  | true =>
    cases e
    obtain ⟨S, O'⟩ := O.make (o := .lst xs) hp (.lst (r.mono (Same.refl F) ⟨[p], rfl⟩))
    refine ⟨_, _, S, O', .loc ?_⟩
    rw [List.getElem?_append_right (Nat.le_of_eq O.len), O.len, Nat.sub_self]; rfl
  | false =>
    simp only [newL] at e
    cases h : allPy xs with
    | none => rw [h] at e; exact nomatch e
    | some ps =>
      rw [h] at e
      cases e
      rw [allPy_eq h] at r
      obtain ⟨S, O'⟩ := O.lay (u := .lst vs) hp
      exact ⟨_, _, S, O', .py (.lst upd_same (r.reps.mono S.grow))⟩
theorem noExc_newL (m : Bool) (xs : List D) (st : Store) : NoExc (newL m xs st) := by
  intro c fs st'
  cases m with
  | true => intro h; exact nomatch h
  | false => exact noExc_give _ _ c fs st'
end
/-! ### operators -/
section
variable {X : Cx} {cl : Nat → Option Addr}
theorem sO_add {m : Bool} : OpR X (binaryOp .Add) (rB X.K cl (binO .Add m)) := by
  intro pins s σ H x y v u Q I rx ry ⟨ρ, F, st, a, b, O, R1, R2, d, st', e, q⟩
  simp only [binO] at e
  split at e
  · cases e
    obtain rfl := R1.intE; obtain rfl := R2.intE
    exact op_add pins s σ H _ _ v u Q I rx ry ⟨_, _, rfl, rfl, q _ _ _ _ .refl O (.py (.int _))⟩
  · split at e
    · cases e
      obtain rfl := R1.strE; obtain rfl := R2.strE
      exact op_add_str pins s σ H _ _ v u Q I rx ry ⟨_, _, rfl, rfl, ‹_›, q _ _ _ _ .refl O (.py (.str _))⟩
    · cases e
  · rename_i xs ys
    split at e
    · rename_i hz
      cases e
      obtain ⟨a, vs, rfl, h1, p1⟩ := asT_ok O R1 rfl
      obtain ⟨b, ws, rfl, h2, p2⟩ := asT_ok O R2 rfl
      have p1 := p1.reps; have p2 := p2.reps
      refine op_catA pins s σ H _ _ v u Q I rx ry ⟨a, b, vs, ws, rfl, rfl, h1, h2, by rw [p1.length, p2.length]; exact hz, fun z => ?_, fun z1 z => ?_, fun z1 z2 p hp => ?_⟩
      · have e1 : xs = [] := p1.nil_iff.mp z
        subst e1
        exact q _ _ _ _ .refl O R2
      · have e1 : ys = [] := p2.nil_iff.mp z
        subst e1
        rw [List.append_nil] at q
        exact q _ _ _ _ .refl O R1
      · obtain ⟨S, O'⟩ := O.lay (u := .tup (vs ++ ws)) hp
        exact q _ _ _ _ S O' (.py (.tup upd_same ((p1.append p2).mono S.grow)))
    · cases e
  · split at e
    · rename_i xs ys h1 h2
      split at e
      · rename_i hz
        obtain ⟨a, vs, rfl, g1, p1⟩ := asM_ok O R1 h1
        obtain ⟨b, ws, rfl, g2, p2⟩ := asM_ok O R2 h2
        refine op_cat pins s σ H _ _ v u Q I rx ry ⟨a, b, vs, ws, rfl, rfl, g1, g2, by rw [p1.length, p2.length]; exact hz, fun p hp => ?_⟩
        obtain ⟨ρ', F', S, O', R⟩ := newL_ok O (p1.append p2) e hp
        exact q _ _ _ _ S O' R
      · cases e
    · cases e
theorem sO_sub {m : Bool} : OpR X (binaryOp .Sub) (rB X.K cl (binO .Sub m)) := by
  intro pins s σ H x y v u Q I rx ry ⟨ρ, F, st, a, b, O, R1, R2, d, st', e, q⟩
  simp only [binO] at e
  split at e
  · cases e
    obtain rfl := R1.intE; obtain rfl := R2.intE
    exact op_sub pins s σ H _ _ v u Q I rx ry ⟨_, _, rfl, rfl, q _ _ _ _ .refl O (.py (.int _))⟩
  · cases e
theorem mul_ok {x : Str} {j : Int} (h0 : 0 ≤ j) (h1 : j ≤ 1000000) (hx : x.length ≤ 10) : MulOk x j := by
  refine ⟨?_, fun h _ => ?_, fun h _ => ?_⟩
  · rw [Bool.or_eq_false_iff]
    exact ⟨decide_eq_false (by omega), decide_eq_false (by omega)⟩
  · intro z
    have z' : (2 ^ 63 - 1 : Int) / j < (x.length : Int) := z
    have h3 := Int.lt_ediv_add_one_mul_self (2 ^ 63 - 1 : Int) (b := j) (by omega)
    have h4 : ((2 ^ 63 - 1 : Int) / j + 1) * j ≤ (x.length : Int) * j := Int.mul_le_mul_of_nonneg_right (by omega) h0
    have h2 : (x.length : Int) * j ≤ 10 * 1000000 := Int.mul_le_mul (by omega) h1 h0 (by decide)
    omega
  · have h2 : x.length * j.toNat ≤ 10 * 1000000 := Nat.mul_le_mul hx (by omega)
    show decide (x.length * j.toNat > sizeLine) = false
    rw [decide_eq_false_iff_not, sizeLine_eq]
    omega
theorem op_mul_str : OpR X (binaryOp .Mult) (fun x y H Q => ∃ i j, x = .str i ∧ y = .int j ∧ 0 ≤ j ∧ j ≤ 1000000 ∧ i.length ≤ 10 ∧ Q (.str (Txt.mul i j)) H) := by
  intro pins s σ H x y v u Q I rx ry ⟨i, j, e1, e2, h0, h1, h2, q⟩
  subst e1; subst e2
  obtain ⟨t, rfl⟩ := rx
  obtain ⟨t', rfl⟩ := ry
  exact SB.mul (mul_ok h0 h1 h2) fun t2 k => ⟨.str (Txt.mul i j), H, I.tok k, ⟨_, rfl⟩, q⟩
theorem Rps.rep {K : PySem.W.Frag} {F : Hp} {ρ : List Addr} {vs : List V} {xs : List D} (r : Rps K F ρ vs xs) : ∀ n : Nat, Rps K F ρ (List.replicate n vs).flatten (List.replicate n xs).flatten
  | 0 => by simpa using .nil
  | n + 1 => by simpa [List.replicate_succ] using r.append (Rps.rep r n)
theorem sO_mul {m : Bool} : OpR X (binaryOp .Mult) (rB X.K cl (binO .Mult m)) := by
  intro pins s σ H x y v u Q I rx ry ⟨ρ, F, st, a, b, O, R1, R2, d, st', e, q⟩
  simp only [binO] at e
  split at e
  · split at e
    · rename_i hm
      cases e
      obtain rfl := R1.intE; obtain rfl := R2.intE
      have hm' := of_decide_eq_true hm
      exact op_mulW pins s σ H _ _ v u Q I rx ry ⟨_, _, rfl, rfl, hm', q _ _ _ _ .refl O (.py (.int _))⟩
    · cases e
  · split at e
    · rename_i hm
      cases e
      simp only [Bool.and_eq_true, decide_eq_true_eq] at hm
      obtain rfl := R1.strE; obtain rfl := R2.intE
      exact op_mul_str pins s σ H _ _ v u Q I rx ry ⟨_, _, rfl, rfl, hm.1.1, hm.1.2, hm.2, q _ _ _ _ .refl O (.py (.str _))⟩
    · cases e
  · split at e
    · rename_i hm
      cases e
      simp only [Bool.and_eq_true, decide_eq_true_eq] at hm
      obtain ⟨a, vs, rfl, g1, p1⟩ := asT_ok O R1 (show asT (.py (.tuple _)) = some _ from rfl)
      obtain rfl := R2.intE
      have hlen : vs.length ≤ 1000 := by rw [p1.length, List.length_map]; exact hm.2
      rename_i xs j
      refine op_tm pins s σ H _ _ v u Q I rx ry ⟨a, _, vs, rfl, rfl, g1, hm.1.1, hm.1.2, hlen, fun h1 => ?_, fun h1 h2 p hp => ?_⟩
      · refine q _ _ _ _ .refl O ?_
        have : (List.replicate j.toNat xs).flatten = xs := by
          by_cases h2 : j = 1
          · subst h2; simp
          · have : xs = [] := by
              have e := h1.resolve_right h2
              rw [e] at p1
              have := p1.length
              rw [List.length_map, List.length_nil] at this
              exact List.length_eq_zero_iff.mp this.symm
            subst this
            induction j.toNat with
            | zero => rfl
            | succ n ih => rw [List.replicate_succ, List.flatten_cons, ih]; rfl
        rw [this]; exact R1
      · obtain ⟨S, O'⟩ := O.lay (u := .tup (List.replicate j.toNat vs).flatten) hp
        have p2 := p1.rep j.toNat
        rw [show (List.replicate j.toNat (xs.map D.py)).flatten = (List.replicate j.toNat xs).flatten.map D.py by rw [List.map_flatten, List.map_replicate]] at p2
        exact q _ _ _ _ S O' (.py (.tup upd_same (p2.reps.mono S.grow)))
    · cases e
  · split at e
    · rename_i hl
      split at e
      · rename_i hm
        simp only [Bool.and_eq_true, decide_eq_true_eq] at hm
        obtain ⟨a, vs, rfl, g1, p1⟩ := asM_ok O R1 hl
        obtain rfl := R2.intE
        refine op_rep pins s σ H _ _ v u Q I rx ry ⟨a, _, vs, rfl, rfl, g1, hm.1.1, hm.1.2, by rw [p1.length]; exact hm.2, fun p hp => ?_⟩
        obtain ⟨ρ', F', S, O', R⟩ := newL_ok O (p1.rep _) e hp
        exact q _ _ _ _ S O' R
      · cases e
    · cases e
  · cases e
theorem sO_div {m : Bool} : OpR X (binaryOp .FloorDiv) (rB X.K cl (binO .FloorDiv m)) := by
  intro pins s σ H x y v u Q I rx ry ⟨ρ, F, st, a, b, O, R1, R2, d, st', e, q⟩
  simp only [binO] at e
  split at e
  · split at e
    · rename_i hm
      cases e
      simp only [divOk, Bool.and_eq_true, decide_eq_true_eq] at hm
      obtain rfl := R1.intE; obtain rfl := R2.intE
      exact op_fdivW pins s σ H _ _ v u Q I rx ry ⟨_, _, rfl, rfl, hm, q _ _ _ _ .refl O (.py (.int _))⟩
    · cases e
  · cases e
theorem sO_mod {m : Bool} : OpR X (binaryOp .Mod) (rB X.K cl (binO .Mod m)) := by
  intro pins s σ H x y v u Q I rx ry ⟨ρ, F, st, a, b, O, R1, R2, d, st', e, q⟩
  simp only [binO] at e
  split at e
  · split at e
    · rename_i hm
      cases e
      obtain rfl := R1.intE; obtain rfl := R2.intE
      exact op_mod pins s σ H _ _ v u Q I rx ry ⟨_, _, rfl, rfl, hm, q _ _ _ _ .refl O (.py (.int _))⟩
    · cases e
  · cases e
theorem sO_pow {m : Bool} : OpR X (binaryOp .Pow) (rB X.K cl (binO .Pow m)) := by
  intro pins s σ H x y v u Q I rx ry ⟨ρ, F, st, a, b, O, R1, R2, d, st', e, q⟩
  simp only [binO] at e
  split at e
  · split at e
    · rename_i hm
      cases e
      simp only [Bool.and_eq_true, decide_eq_true_eq] at hm
      obtain rfl := R1.intE; obtain rfl := R2.intE
      exact op_pow pins s σ H _ _ v u Q I rx ry ⟨_, _, rfl, rfl, ⟨hm.1.1, hm.1.2, hm.2⟩, q _ _ _ _ .refl O (.py (.int _))⟩
    · cases e
  · cases e
def binOk : Operator → Bool
  | .Add | .Sub | .Mult | .FloorDiv | .Mod | .Pow => true
  | _ => false
theorem sO_bin {op : Operator} {m : Bool} (h : binOk op = true) : OpR X (binaryOp op) (rB X.K cl (binO op m)) := by
  cases op with
  | Add => exact sO_add
  | Sub => exact sO_sub
  | Mult => exact sO_mul
  | FloorDiv => exact sO_div
  | Mod => exact sO_mod
  | Pow => exact sO_pow
  | _ => exact nomatch h
theorem noExc_bin (op : Operator) (m : Bool) (st : Store) (x y : D) : NoExc (binO op m st x y) := by
  intro c fs st'
  cases op <;> simp only [binO] <;> (try (repeat' split)) <;> first | (exact noExc_newL _ _ _ c fs st') | (intro h; exact nomatch h)
end
end WW

namespace WW
open PySem PySem.Spec L2
/-! ### data as it is read -/
section
variable (K : PySem.W.Frag)
mutual
inductive View (H : Hp) : V → PyData → Prop
  | non : View H .non .none
  | bl (b : Bool) : View H (.bl b) (.bool b)
  | int (i : Int) : View H (.int i) (.int i)
  | str (x : Str) : View H (.str x) (.str x)
  | lst {a : Addr} {xs : List V} {ds : List PyData} : SqL K H a xs → Views H xs ds → View H (.ref a) (.list ds)
  | tup {a : Addr} {xs : List V} {ds : List PyData} : SqT K H a xs → Views H xs ds → View H (.ref a) (.tuple ds)
  | dK {a : Addr} {kvs : List (Key × V)} {es : List (PyData × PyData)} : Rd H a (.dK kvs) → ViewK H kvs es → View H (.ref a) (.dict es)
  | dT {a : Addr} {kvs : List (List Key × V)} {es : List (PyData × PyData)} : Rd H a (.dT kvs) → ViewT H kvs es → View H (.ref a) (.dict es)
inductive Views (H : Hp) : List V → List PyData → Prop
  | nil : Views H [] []
  | cons {v : V} {vs : List V} {d : PyData} {ds : List PyData} : View H v d → Views H vs ds → Views H (v :: vs) (d :: ds)
inductive ViewK (H : Hp) : List (Key × V) → List (PyData × PyData) → Prop
  | nil : ViewK H [] []
  | cons {k : Key} {v : V} {vs : List (Key × V)} {d : PyData} {ds : List (PyData × PyData)} : View H v d → ViewK H vs ds → ViewK H ((k, v) :: vs) ((keyD k, d) :: ds)
inductive ViewT (H : Hp) : List (List Key × V) → List (PyData × PyData) → Prop
  | nil : ViewT H [] []
  | cons {k : List Key} {v : V} {vs : List (List Key × V)} {d : PyData} {ds : List (PyData × PyData)} : View H v d → ViewT H vs ds → ViewT H ((k, v) :: vs) ((.tuple (k.map keyD), d) :: ds)
end
end
section
variable {K : PySem.W.Frag} {cl : Nat → Option Addr} {F H : Hp} {ρ : List Addr} {st : Store} {v : V} {d : D}
mutual
theorem Rep.view (O : Ok K cl H ρ F st) : ∀ {v : V} {d : PyData}, Rep K F v d → View K H v d
  | _, _, .non => .non
  | _, _, .bl b => .bl b
  | _, _, .int b => .int b
  | _, _, .str b => .str b
  | _, _, .lst h r => .lst (.inl (O.sub _ _ h)) (Reps.view O r)
  | _, _, .tup h r => .tup (.inl (O.sub _ _ h)) (Reps.view O r)
  | _, _, .tupK _ h r => .tup (SqT.none_mono h) (Reps.view O r)
  | _, _, .dK h r => .dK (O.sub _ _ h) (RepK.view O r)
  | _, _, .dT h r _ => .dT (O.sub _ _ h) (RepT.view O r)
theorem Reps.view (O : Ok K cl H ρ F st) : ∀ {v : List V} {d : List PyData}, Reps K F v d → Views K H v d
  | _, _, .nil => .nil
  | _, _, .cons h r => .cons (Rep.view O h) (Reps.view O r)
theorem RepK.view (O : Ok K cl H ρ F st) : ∀ {v : List (Key × V)} {d : List (PyData × PyData)}, RepK K F v d → ViewK K H v d
  | _, _, .nil => .nil
  | _, _, .cons h r => .cons (Rep.view O h) (RepK.view O r)
theorem RepT.view (O : Ok K cl H ρ F st) : ∀ {v : List (List Key × V)} {d : List (PyData × PyData)}, RepT K F v d → ViewT K H v d
  | _, _, .nil => .nil
  | _, _, .cons h r => .cons (Rep.view O h) (RepT.view O r)
end
/-- a list seen one by one -/
theorem views_of {f : D → Option PyData} (hf : ∀ v d p, Rp K F ρ v d → f d = some p → View K H v p) : ∀ {vs : List V} {ds : List D} {ps : List PyData}, Rps K F ρ vs ds → toPyL f ds = some ps → Views K H vs ps
  | _, _, _, .nil, e => by cases e; exact .nil
  | _, _, _, .cons h r, e => by
    simp only [toPyL, Option.bind_eq_some_iff, Option.map_eq_some_iff] at e
    obtain ⟨p, e1, qs, e2, rfl⟩ := e
    exact .cons (hf _ _ _ h e1) (views_of hf r e2)
theorem viewsK_of {f : D → Option PyData} (hf : ∀ v d p, Rp K F ρ v d → f d = some p → View K H v p) : ∀ {vs : List (Key × V)} {ds : List (Key × D)} {ps : List (PyData × PyData)}, RpK K F ρ vs ds → toPyK f ds = some ps → ViewK K H vs ps
  | _, _, _, .nil, e => by cases e; exact .nil
  | _, _, _, .cons h r, e => by
    simp only [toPyK, Option.bind_eq_some_iff, Option.map_eq_some_iff] at e
    obtain ⟨p, e1, qs, e2, rfl⟩ := e
    exact .cons (hf _ _ _ h e1) (viewsK_of hf r e2)
theorem viewsT_of {f : D → Option PyData} (hf : ∀ v d p, Rp K F ρ v d → f d = some p → View K H v p) : ∀ {vs : List (List Key × V)} {ds : List (List Key × D)} {ps : List (PyData × PyData)}, RpK K F ρ vs ds → toPyT f ds = some ps → ViewT K H vs ps
  | _, _, _, .nil, e => by cases e; exact .nil
  | _, _, _, .cons h r, e => by
    simp only [toPyT, Option.bind_eq_some_iff, Option.map_eq_some_iff] at e
    obtain ⟨p, e1, qs, e2, rfl⟩ := e
    exact .cons (hf _ _ _ h e1) (viewsT_of hf r e2)
theorem toPyO_ok {f : D → Option PyData} (hf : ∀ v d p, Rp K F ρ v d → f d = some p → View K H v p) {a : Addr} {u : HO} {o : SO} {p : PyData} (hu : Rd H a u) (r : ObjR K cl F ρ u o) (e : toPyO f o = some p) : View K H (.ref a) p := by
  cases r with
  | lst r => obtain ⟨ps, e1, rfl⟩ := Option.map_eq_some_iff.mp e; exact .lst (.inl hu) (views_of hf r e1)
  | dK r => obtain ⟨ps, e1, rfl⟩ := Option.map_eq_some_iff.mp e; exact .dK hu (viewsK_of hf r e1)
  | dT r => obtain ⟨ps, e1, rfl⟩ := Option.map_eq_some_iff.mp e; exact .dT hu (viewsT_of hf r e1)
  | ins => exact nomatch e
  | lck => exact nomatch e
theorem toPy_ok (O : Ok K cl H ρ F st) : ∀ (n : Nat) (v : V) (d : D) (p : PyData), Rp K F ρ v d → toPyF st n d = some p → View K H v p
  | n, _, .py d, p, .py r, e => by
    rw [toPyF_py] at e
    cases e
    exact r.view O
  | 0, _, .tup ds, p, _, e => by cases e
  | 0, _, .loc k, p, _, e => by cases e
  | n + 1, _, .tup ds, p, .tup h r, e => by
    have e' : (toPyL (toPyF st n) ds).map .tuple = some p := e
    obtain ⟨ps, e1, rfl⟩ := Option.map_eq_some_iff.mp e'
    exact .tup (.inl (O.sub _ _ h)) (views_of (fun v d p => toPy_ok O n v d p) r e1)
  | n + 1, _, .loc k, p, .loc h, e => by
    rw [toPyF_loc, Option.bind_eq_some_iff] at e
    obtain ⟨o, hs, e⟩ := e
    obtain ⟨u, hu, hr⟩ := O.rd h hs (by intro x hx; subst hx; exact nomatch e)
    exact toPyO_ok (fun v d p => toPy_ok O n v d p) hu hr e
mutual
theorem View.dp : ∀ {v : V} {d : PyData}, View K H v d → d.canLay0 = true → Dp K H v d
  | _, _, .non, _ => .non
  | _, _, .bl b, _ => .bl b
  | _, _, .int b, _ => .int b
  | _, _, .str b, _ => .str b
  | _, _, .lst h r, e => .lst h (Views.dp r (by simpa [PyData.canLay0] using e))
  | _, _, .tup h r, e => .tup h (Views.dp r (by simpa [PyData.canLay0] using e))
  | _, _, .dK h r, e => by simp [PyData.canLay0] at e
  | _, _, .dT h r, e => by simp [PyData.canLay0] at e
theorem Views.dp : ∀ {v : List V} {d : List PyData}, Views K H v d → PyData.canLayAll0 d = true → DpAll K H v d
  | _, _, .nil, _ => .nil
  | _, _, .cons h r, e => by
    simp only [PyData.canLayAll0, Bool.and_eq_true] at e
    exact .cons (View.dp h e.1) (Views.dp r e.2)
end
end
theorem keys_reads {P : Program} {w : World} {h : Heap} : ∀ {kvs : List (Key × V)} {es : List (PyData × PyData)} {l : List DictEntry} {vs : List (Key × Value)}, ViewK K H kvs es → KV kvs vs → Pairs (mixKind P w) l vs → ReadsAll h (l.map (·.key)) (es.map (·.1)) []
  | _, _, _, _, .nil, .nil, .nil => .nil
  | _, _, _, _, .cons (k := k) _ r, .cons e1 t, .cons (e := e) hk _ q => by
    have ih := keys_reads (h := h) r t q
    have hk' : keyIs k e.key = true := by
      have z : keyIs _ e.key = true := hk
      rw [← e1.1] at z
      exact z
    have h1 : Reads h e.key (keyD k) [] := by
      cases k with
      | inl i =>
        obtain ⟨t, z⟩ := Value.isInt_shape (k := i) (v := e.key) hk'
        rw [z]; exact .int i t
      | inr x =>
        obtain ⟨t, z⟩ := Value.isStrOf_shape (x := x) (v := e.key) hk'
        rw [z]; exact .str x t
    exact ReadsAll.cons (as := []) (bs := []) h1 ih
section
variable {X : Cx} {pins : List (Addr × Obj)} {σ : St} {s : Shared}
theorem key_reads (I : Inv X pins σ H s) : ∀ {ks : List Key} {us : List Value}, Vals (ks.map kV) us → ReadsAll s.heap us (ks.map keyD) []
  | [], _, .nil => .nil
  | .inl i :: r, _, .cons h t => by
    obtain ⟨tk, rfl⟩ := h
    exact ReadsAll.cons (as := []) (bs := []) (.int i tk) (key_reads I t)
  | .inr x :: r, _, .cons h t => by
    obtain ⟨tk, rfl⟩ := h
    exact ReadsAll.cons (as := []) (bs := []) (.str x tk) (key_reads I t)
mutual
theorem View.reads (I : Inv X pins σ H s) : ∀ {v : V} {d : PyData} {u : Value}, View X.K H v d → RelV v u → ∃ as, Reads s.heap u d as ∧ (noL d = true → sysModules ∉ as)
  | _, _, _, .non, r => by cases r; exact ⟨_, .none, fun _ => by simp⟩
  | _, _, _, .bl b, r => by cases r; exact ⟨_, .bool b, fun _ => by simp⟩
  | _, _, _, .int i, r => by obtain ⟨t, rfl⟩ := r; exact ⟨_, .int i t, fun _ => by simp⟩
  | _, _, _, .str x, r => by obtain ⟨t, rfl⟩ := r; exact ⟨_, .str x t, fun _ => by simp⟩
  | _, _, _, .lst h q, r => by
    cases r
    obtain ⟨its, rv, ⟨o, n, ho, hc, _, hd⟩, _⟩ := I.list h
    obtain ⟨as, hr, _⟩ := Views.reads I q rv
    exact ⟨_, .list ho hc hd hr, fun z => by simp [noL] at z⟩
  | _, _, _, .tup h q, r => by
    cases r
    obtain ⟨its, rv, ⟨o, ho, hc, n, hd⟩, _⟩ := I.tuple h
    obtain ⟨as, hr, hn⟩ := Views.reads I q rv
    exact ⟨_, .tuple ho hc hd hr, fun z => hn (by simpa [noL] using z)⟩
  | _, _, _, .dK (es := es) h q, r => by
    cases r
    obtain ⟨_, ns, vs, rel, ⟨o, l, ep, ho, hx, hd, _, hp, _⟩⟩ := dk_rd I.hok h
    obtain ⟨bs, hr, hn⟩ := ViewK.reads I q rel hp
    refine ⟨_, .dict ho hx.1 hd (keys_reads q rel hp) hr, fun z => ?_⟩
    have z' : noLk es = true := by simpa [noL] using z
    simp only [List.append_nil, List.mem_cons, not_or, List.cons_append, List.nil_append]
    exact ⟨fun e => by rw [← e] at ns; simp at ns, hn z'⟩
  | _, _, _, .dT (es := es) h q, r => by
    cases r
    obtain ⟨_, ns, xs, rel, ⟨o, l, ep, ho, hx, hd, he, _⟩⟩ := dt_rd I.hok h
    obtain ⟨bs, h1, hr, hn⟩ := ViewT.reads I q rel
    have hd' : o.data = .dict l ep := hd
    refine ⟨_, .dict ho hx.1 hd (as := []) (bs := bs) (by rw [he]; exact h1) (by rw [he]; exact hr), fun z => ?_⟩
    have z' : noLk es = true := by simpa [noL] using z
    simp only [List.append_nil, List.mem_cons, not_or, List.cons_append, List.nil_append]
    exact ⟨fun e => by rw [← e] at ns; simp at ns, hn z'⟩
theorem Views.reads (I : Inv X pins σ H s) : ∀ {v : List V} {d : List PyData} {u : List Value}, Views X.K H v d → Vals v u → ∃ as, ReadsAll s.heap u d as ∧ (noLs d = true → sysModules ∉ as)
  | _, _, _, .nil, .nil => ⟨_, .nil, fun _ => by simp⟩
  | _, _, _, .cons h q, .cons r t => by
    obtain ⟨as, h1, n1⟩ := View.reads I h r
    obtain ⟨bs, h2, n2⟩ := Views.reads I q t
    refine ⟨_, .cons h1 h2, fun z => ?_⟩
    simp only [noLs, Bool.and_eq_true] at z
    rw [List.mem_append, not_or]
    exact ⟨n1 z.1, n2 z.2⟩
theorem ViewK.reads (I : Inv X pins σ H s) : ∀ {kvs : List (Key × V)} {es : List (PyData × PyData)} {l : List DictEntry} {vs : List (Key × Value)}, ViewK X.K H kvs es → KV kvs vs → Pairs (mixKind X.prog X.w) l vs → ∃ as, ReadsAll s.heap (l.map (·.val)) (es.map (·.2)) as ∧ (noLk es = true → sysModules ∉ as)
  | _, _, _, _, .nil, .nil, .nil => ⟨_, .nil, fun _ => by simp⟩
  | _, _, _, _, .cons h r, .cons e1 t, .cons hk hv q => by
    obtain ⟨as, h1, n1⟩ := View.reads I h e1.2
    obtain ⟨bs, h2, n2⟩ := ViewK.reads I r t q
    rw [← hv] at h1
    refine ⟨_, .cons h1 h2, fun z => ?_⟩
    simp only [noLk, Bool.and_eq_true] at z
    rw [List.mem_append, not_or]
    exact ⟨n1 z.1, n2 z.2⟩
theorem ViewT.reads (I : Inv X pins σ H s) : ∀ {kvs : List (List Key × V)} {es : List (PyData × PyData)} {xs : List (List Key × Addr × Value)}, ViewT X.K H kvs es → KT H kvs xs →
    ∃ as, ReadsAll s.heap ((xs.map (entryOfKey (tupleKind (mixKind X.prog X.w)))).map (·.key)) (es.map (·.1)) [] ∧ ReadsAll s.heap ((xs.map (entryOfKey (tupleKind (mixKind X.prog X.w)))).map (·.val)) (es.map (·.2)) as ∧ (noLk es = true → sysModules ∉ as)
  | _, _, _, .nil, .nil => ⟨_, .nil, .nil, fun _ => by simp⟩
  | _, _, _, .cons (k := k) h r, .cons (b := b) e1 t => by
    obtain ⟨as, h1, n1⟩ := View.reads I h e1.2.2
    obtain ⟨bs, g1, h2, n2⟩ := ViewT.reads I r t
    obtain ⟨_, its, rv, ⟨o, ho, hc, n, hd⟩⟩ := (show ObjOk X.prog X.w H s.heap b.2.1 (.tup (k.map kV)) from I.hok _ _ (by have := e1.2.1; rw [← show k = _ from rfl] at this; exact this))
    refine ⟨_, ReadsAll.cons (as := []) (bs := []) (.tuple ho hc hd (key_reads I rv)) g1, .cons h1 h2, fun z => ?_⟩
    simp only [noLk, Bool.and_eq_true] at z
    rw [List.mem_append, not_or]
    exact ⟨n1 z.1, n2 z.2⟩
end
end
end WW

namespace WW
open PySem PySem.Spec L2
/-! ### dicts -/
section
variable {K : PySem.W.Frag} {cl : Nat → Option Addr} {F H : Hp} {ρ : List Addr} {st : Store} {v w : V} {d : D}
theorem keyP_ok {p : PyData} {k : Key} (r : Rep K F v p) (e : keyP p = some k) : v = kV k := by
  cases r with
  | int i => cases e; rfl
  | str x => cases e; rfl
  | _ => exact nomatch e
theorem keysP_ok : ∀ {vs : List V} {ps : List PyData} {ks : List Key}, Reps K F vs ps → keysP ps = some ks → vs = ks.map kV
  | _, _, _, .nil, e => by cases e; rfl
  | _, _, _, .cons h r, e => by
    simp only [keysP, Option.bind_eq_some_iff, Option.map_eq_some_iff] at e
    obtain ⟨k, e1, ks, e2, rfl⟩ := e
    rw [List.map_cons, ← keyP_ok h e1, ← keysP_ok r e2]
theorem dkey_one {k : Key} (r : Rp K F ρ v d) (e : dkey d = some (.one k)) : v = kV k := by
  cases r with
  | py r =>
    unfold dkey at e
    split at e
    · split at e
      · cases e
      · obtain ⟨_, _, e⟩ := Option.map_eq_some_iff.mp e; cases e
    · obtain ⟨k', h1, e2⟩ := Option.map_eq_some_iff.mp e
      cases e2
      rename_i z
      cases z
      exact keyP_ok r h1
    · cases e
  | _ => exact nomatch e
theorem dkey_many {ks : List Key} (O : Ok K cl H ρ F st) (r : Rp K F ρ v d) (e : dkey d = some (.many ks)) : ∃ b, v = .ref b ∧ H b = some (.tup (ks.map kV)) := by
  cases r with
  | py r =>
    cases r with
    | tup h r =>
      simp only [dkey] at e
      split at e
      · cases e
      · obtain ⟨k', h1, e2⟩ := Option.map_eq_some_iff.mp e
        cases e2
        refine ⟨_, rfl, ?_⟩
        rw [← keysP_ok r h1]
        exact O.subE h rfl
    | tupK k h r => simp only [dkey, k, if_true] at e; cases e
    | _ => simp only [dkey, keyP] at e; first | exact nomatch e | (obtain ⟨_, _, z⟩ := Option.map_eq_some_iff.mp e; exact nomatch z)
  | _ => exact nomatch e
def RelD (K : PySem.W.Frag) (F : Hp) (ρ : List Addr) : Option D → Option V → Prop
  | none, r => r = none
  | some d, r => ∃ x, r = some x ∧ Rp K F ρ x d
theorem RpK.look {κ : Type} [DecidableEq κ] : ∀ {kvs : List (κ × V)} {ds : List (κ × D)}, RpK K F ρ kvs ds → ∀ k, RelD K F ρ (WW.look ds k) (valV kvs k)
  | _, _, .nil, k => rfl
  | _, _, .cons (k := k') (v := v') (vs := vs') h r, k => by
    by_cases z : k' = k
    · have e1 : ∀ (d : D) (ds : List (κ × D)), WW.look ((k', d) :: ds) k = some d := fun d ds => by unfold WW.look; rw [List.find?_cons_of_pos (by exact decide_eq_true z)]; rfl
      rw [e1]
      exact ⟨_, valV_pos z, h⟩
    · have e1 : ∀ (d : D) (ds : List (κ × D)), WW.look ((k', d) :: ds) k = WW.look ds k := fun d ds => by unfold WW.look; rw [List.find?_cons_of_neg (by simpa using z)]
      rw [e1, valV_neg z]
      exact RpK.look r k
theorem keyP_keyD (k : Key) : keyP (keyD k) = some k := by cases k <;> rfl
theorem keysP_keyD : ∀ ks : List Key, keysP (ks.map keyD) = some ks
  | [] => rfl
  | k :: ks => by simp [keysP, keyP_keyD, keysP_keyD ks]
theorem RepK.one : ∀ {kvs : List (Key × V)} {es : List (PyData × PyData)} {fs : List (Key × PyData)}, RepK K F kvs es → keysOne es = some fs → RpK K F ρ kvs (fs.map fun e => (e.1, .py e.2))
  | _, _, _, .nil, e => by cases e; exact .nil
  | _, _, _, .cons h r, e => by
    simp only [keysOne, keyP_keyD, Option.bind_some, Option.map_eq_some_iff] at e
    obtain ⟨fs, e1, rfl⟩ := e
    exact .cons (.py h) (RepK.one r e1)
theorem RepT.many : ∀ {kvs : List (List Key × V)} {es : List (PyData × PyData)} {fs : List (List Key × PyData)}, RepT K F kvs es → keysMany es = some fs → RpK K F ρ kvs (fs.map fun e => (e.1, .py e.2))
  | _, _, _, .nil, e => by cases e; exact .nil
  | _, _, _, .cons h r, e => by
    simp only [keysMany, keyMany, keysP_keyD, Option.bind_some, Option.map_eq_some_iff] at e
    obtain ⟨fs, e1, rfl⟩ := e
    exact .cons (.py h) (RepT.many r e1)
theorem look_map {κ : Type} [DecidableEq κ] (k : κ) : ∀ fs : List (κ × PyData), look (fs.map fun e => (e.1, D.py e.2)) k = (look fs k).map .py
  | [] => rfl
  | (k', p) :: fs => by
    by_cases z : k' = k
    · unfold look; rw [List.map_cons, List.find?_cons_of_pos (by exact decide_eq_true z), List.find?_cons_of_pos (by exact decide_eq_true z)]; rfl
    · have := look_map k fs
      unfold look at this ⊢
      rw [List.map_cons, List.find?_cons_of_neg (by simpa using z), List.find?_cons_of_neg (by simpa using z)]
      exact this
/-- what a dict of data holds where its keys are of the other kind -/
theorem keysOne_T {kvs : List (List Key × V)} {es : List (PyData × PyData)} (r : RepT K F kvs es) (hn : es ≠ []) : keysOne es = none := by
  cases r with
  | nil => exact absurd rfl hn
  | cons h r => simp [keysOne, keyP]
theorem keysMany_K {kvs : List (Key × V)} {es : List (PyData × PyData)} (r : RepK K F kvs es) (hn : es ≠ []) : keysMany es = none := by
  cases r with
  | nil => exact absurd rfl hn
  | cons h r => rename_i k _ _ _ _; cases k <;> simp [keysMany, keyD, keyMany]
theorem getO_ok {a kd : D} {k : DK} {o : Option D} (O : Ok K cl H ρ F st) (r : Rp K F ρ v a) (rk : Rp K F ρ w kd) (hk : dkey kd = some k) (e : getO st a k = some o) :
    ∃ b u, v = .ref b ∧ DGet H b w u ∧ RelD K F ρ o u := by
  have fin1 : ∀ {b : Addr} {kvs : List (Key × V)} {ds : List (Key × D)} {q : Key}, k = .one q → Rd H b (.dK kvs) → RpK K F ρ kvs ds → o = look ds q → ∃ u, DGet H b w u ∧ RelD K F ρ o u := by
    rintro b kvs ds q rfl hR hr rfl
    refine ⟨valV kvs q, .inl ⟨kvs, q, hR, dkey_one rk hk, rfl⟩, hr.look q⟩
  have fin2 : ∀ {b : Addr} {kvs : List (List Key × V)} {ds : List (List Key × D)} {q : List Key}, k = .many q → Rd H b (.dT kvs) → RpK K F ρ kvs ds → o = look ds q → ∃ u, DGet H b w u ∧ RelD K F ρ o u := by
    rintro b kvs ds q rfl hR hr rfl
    obtain ⟨c, hc, hc2⟩ := dkey_many O rk hk
    refine ⟨valV kvs q, .inr ⟨kvs, q, c, hR, hc, hc2, rfl⟩, hr.look q⟩
  cases r with
  | loc h =>
    rename_i n b
    simp only [getO] at e
    cases hs : getS st n with
    | none => rw [hs] at e; exact nomatch e
    | some so =>
      rw [hs] at e
      cases so with
      | dK kvs =>
        cases k with
        | one q =>
          cases e
          obtain ⟨u, hu, hr⟩ := O.rd h hs (by intro x; nofun)
          cases hr with
          | dK r => obtain ⟨u, x⟩ := fin1 rfl hu r rfl; exact ⟨_, u, rfl, x⟩
        | many q => exact nomatch e
      | dT kvs =>
        cases k with
        | many q =>
          cases e
          obtain ⟨u, hu, hr⟩ := O.rd h hs (by intro x; nofun)
          cases hr with
          | dT r => obtain ⟨u, x⟩ := fin2 rfl hu r rfl; exact ⟨_, u, rfl, x⟩
        | one q => exact nomatch e
      | _ => exact nomatch e
  | py r =>
    cases r with
    | dK h r =>
      cases k with
      | one q =>
        obtain ⟨fs, h1, h2⟩ := Option.map_eq_some_iff.mp (show (keysOne _).map _ = some o from e)
        obtain ⟨u, x⟩ := fin1 rfl (O.sub _ _ h) (r.one h1) (by rw [look_map, h2])
        exact ⟨_, u, rfl, x⟩
      | many q =>
        rename_i es
        cases es with
        | nil => exact nomatch e
        | cons e1 es =>
          obtain ⟨fs, h1, h2⟩ := Option.map_eq_some_iff.mp (show (keysMany (e1 :: es)).map _ = some o from e)
          rw [keysMany_K r (by simp)] at h1
          cases h1
    | dT h r hn =>
      cases k with
      | one q =>
        obtain ⟨fs, h1, h2⟩ := Option.map_eq_some_iff.mp (show (keysOne _).map _ = some o from e)
        rw [keysOne_T r hn] at h1
        cases h1
      | many q =>
        rename_i es
        cases es with
        | nil => exact nomatch e
        | cons e1 es =>
          obtain ⟨fs, h1, h2⟩ := Option.map_eq_some_iff.mp (show (keysMany (e1 :: es)).map _ = some o from e)
          obtain ⟨u, x⟩ := fin2 rfl (O.sub _ _ h) (r.many h1) (by rw [look_map, h2])
          exact ⟨_, u, rfl, x⟩
    | _ => exact nomatch e
  | _ => exact nomatch e
theorem RpK.put {κ : Type} [DecidableEq κ] {kvs : List (κ × V)} {ds : List (κ × D)} (r : RpK K F ρ kvs ds) (k : κ) {x : V} (rx : Rp K F ρ x d) : RpK K F ρ (putK kvs k x) (WW.put ds k d) := by
  have h1 : (kvs.any fun kv => decide (kv.1 = k)) = (ds.any fun kv => decide (kv.1 = k)) := by
    induction r with
    | nil => rfl
    | cons h r ih => rw [List.any_cons, List.any_cons, ih]
  have h2 : RpK K F ρ (kvs.map fun kv => if kv.1 = k then (kv.1, x) else kv) (ds.map fun kv => if kv.1 = k then (kv.1, d) else kv) := by
    clear h1
    induction r with
    | nil => exact .nil
    | cons h r ih =>
      rename_i k' _ _ _ _
      by_cases z : k' = k
      · simp only [List.map_cons, if_pos z]; exact .cons rx ih
      · simp only [List.map_cons, if_neg z]; exact .cons h ih
  have h3 : RpK K F ρ (kvs ++ [(k, x)]) (ds ++ [(k, d)]) := by
    clear h1 h2
    induction r with
    | nil => exact .cons rx .nil
    | cons h r ih => exact .cons h ih
  unfold putK WW.put
  rw [h1]
  split
  · exact h2
  · exact h3
theorem RpK.length {κ : Type} : ∀ {kvs : List (κ × V)} {ds : List (κ × D)}, RpK K F ρ kvs ds → kvs.length = ds.length
  | _, _, .nil => rfl
  | _, _, .cons _ r => by rw [List.length_cons, List.length_cons, RpK.length r]
theorem Rep.isDict {es : List (PyData × PyData)} (r : Rep K F v (.dict es)) : ∃ b, v = .ref b ∧ ((∃ kvs, F b = some (.dK kvs) ∧ RepK K F kvs es) ∨ ∃ kvs, F b = some (.dT kvs) ∧ RepT K F kvs es ∧ es ≠ []) := by
  cases r with
  | dK h r => exact ⟨_, rfl, .inl ⟨_, h, r⟩⟩
  | dT h r n => exact ⟨_, rfl, .inr ⟨_, h, r, n⟩⟩
theorem isD_ok (O : Ok K cl H ρ F st) (r : Rp K F ρ v d) (e : isD st d = true) : ∃ b, v = .ref b ∧ IsD H b := by
  cases r with
  | loc h =>
    simp only [isD] at e
    split at e
    · rename_i hs
      obtain ⟨u, hu, hr⟩ := O.rd h hs (by intro x; nofun)
      cases hr; exact ⟨_, rfl, .inl ⟨_, hu⟩⟩
    · rename_i hs
      obtain ⟨u, hu, hr⟩ := O.rd h hs (by intro x; nofun)
      cases hr; exact ⟨_, rfl, .inr ⟨_, hu⟩⟩
    · cases e
  | py r =>
    cases r with
    | dK h r => exact ⟨_, rfl, .inl ⟨_, O.sub _ _ h⟩⟩
    | dT h r _ => exact ⟨_, rfl, .inr ⟨_, O.sub _ _ h⟩⟩
    | _ => exact nomatch e
  | _ => exact nomatch e
end
/-! ### comparisons -/
section
variable {X : Cx} {cl : Nat → Option Addr}
theorem mem_any {α : Type} (p : α → Bool) (xs : List α) : xs.any p = true ↔ ∃ x ∈ xs, p x = true := List.any_eq_true
theorem bothS_ok {p q : PyData} (h : bothS p q = true) : ∃ x y, p = .str x ∧ q = .str y := by
  unfold bothS at h
  split at h
  · exact ⟨_, _, rfl, rfl⟩
  · cases h
theorem strV_ok {K : PySem.W.Frag} {F : Hp} {ρ : List Addr} {st : Store} {v : V} {d : D} {x : Str} (r : Rp K F ρ v d) (h : toPy st d = some (.str x)) : v = .str x := by
  cases d with
  | py d =>
    simp only [toPy, toPyF_py] at h
    cases h
    cases r with | py r => cases r; rfl
  | loc n =>
    rw [toPy, toPyF_loc, Option.bind_eq_some_iff] at h
    obtain ⟨o, _, h⟩ := h
    cases o <;> simp [toPyO] at h
  | tup ds =>
    rw [toPy, toPyF_tup, Option.map_eq_some_iff] at h
    obtain ⟨_, _, h⟩ := h
    cases h
theorem RpK.keys {κ : Type} {K : PySem.W.Frag} {F : Hp} {ρ : List Addr} : ∀ {vs : List (κ × V)} {ds : List (κ × D)}, RpK K F ρ vs ds → vs.map (·.1) = ds.map (·.1)
  | _, _, .nil => rfl
  | _, _, .cons _ t => by rw [List.map_cons, List.map_cons, RpK.keys t]
theorem keysK_ok {K : PySem.W.Frag} {F H : Hp} {ρ : List Addr} {st : Store} {v : V} {d : D} {ks : List Key} (O : Ok K cl H ρ F st) (r : Rp K F ρ v d) (e : keysK st d = some ks) : ∃ b kvs, v = .ref b ∧ Rd H b (.dK kvs) ∧ kvs.map (·.1) = ks := by
  cases r with
  | loc h =>
    simp only [keysK] at e
    split at e
    · rename_i hs
      cases e
      obtain ⟨u, hu, hr⟩ := O.rd h hs (by intro x; nofun)
      cases hr with | dK r => exact ⟨_, _, rfl, hu, r.keys⟩
    · cases e
  | py r =>
    cases r with
    | dK h r =>
      obtain ⟨fs, h1, rfl⟩ := Option.map_eq_some_iff.mp (show (keysOne _).map _ = some ks from e)
      have h2 := (RepK.one (ρ := ρ) r h1).keys
      rw [List.map_map] at h2
      exact ⟨_, _, rfl, O.sub _ _ h, h2⟩
    | dT h r n =>
      obtain ⟨fs, h1, _⟩ := Option.map_eq_some_iff.mp (show (keysOne _).map _ = some ks from e)
      rw [keysOne_T r n] at h1; cases h1
    | _ => exact nomatch e
  | _ => exact nomatch e
theorem isE_ok {d : D} (h : isE d = true) : d = .py (.dict []) := by
  unfold isE at h
  split at h
  · rfl
  · cases h
/-- a dict beside {} -/
theorem sO_eqE (neg : Bool) (hu : X.A.units + 64 < cLine) {pins : List (Addr × Obj)} {s : Shared} {σ : St} {H : Hp} {x y : V} {v u : Value} {Q : VK} {ρ : List Addr} {F : Hp} {st : Store} {a b : D} {k : Bool} (I : Inv X pins σ H s) (rx : RelV x v) (ry : RelV y u) (O : Ok X.K cl H ρ F st) (R1 : Rp X.K F ρ x a) (R2 : Rp X.K F ρ y b) (hE : isE b = true) (e : (keysK st a).map (·.isEmpty) = some k)
    (q : Q (.bl (if neg then !k else k)) H) : wpAny (model X.prog X.w) X.A (compareOp (if neg then .NotEq else .Eq) v u) (EP X pins σ Q) X.xe s := by
  obtain ⟨ks, hk, rfl⟩ := Option.map_eq_some_iff.mp e
  obtain rfl := isE_ok hE
  obtain ⟨c, kvs, rfl, h1, h2⟩ := keysK_ok O R1 hk
  obtain ⟨d, rfl, h3⟩ := (show ∃ d, y = .ref d ∧ F d = some (.dK []) by
    cases R2 with | py r => cases r with
      | dK h r => cases r; exact ⟨_, rfl, h⟩
      | dT h r n => exact absurd rfl n)
  cases rx; cases ry
  obtain ⟨_, hd1, vs, rel, dd⟩ := dk_rd I.hok h1
  obtain ⟨_, hd2, ws, rel2, dd2⟩ := dk_rd I.hok (O.sub _ _ h3)
  cases rel2
  have hl : vs.length = ks.length := by rw [← h2, List.length_map]; exact (Paired.length rel).symm
  have hits : vs.length = ([] : List (Key × Value)).length → PySem.W.KeqHits X.A.in1 s [] vs true := fun z => by
    have : vs = [] := List.length_eq_zero_iff.mp z
    rw [this]; exact .nil
  have hb : (vs.length == ([] : List (Key × Value)).length && true) = ks.isEmpty := by
    rw [hl, Bool.and_true]
    cases ks <;> rfl
  cases neg with
  | true => exact PySem.W.keq_ne (knd := mixKind X.prog X.w) (r := true) hd1 hd2 dd dd2 (by omega) hits (fin_bl I q (by rw [hb]; rfl))
  | false => exact PySem.W.keq_eq (knd := mixKind X.prog X.w) (r := true) hd1 hd2 dd dd2 (by omega) hits (fin_bl I q (by rw [hb]; rfl))
theorem sO_eq (hu : X.A.units + 64 < cLine) : OpR X (compareOp .Eq) (rB X.K cl fun st x y => give st ((cmpO .Eq st x y).map bo)) := by
  intro pins s σ H x y v u Q I rx ry ⟨ρ, F, st, a, b, O, R1, R2, d, st', e, q⟩
  simp only [cmpO, eqO] at e
  cases hE : isE b with
  | true =>
    rw [hE] at e
    cases hk : (keysK st a).map (·.isEmpty) with
    | none => simp only [hk] at e; exact nomatch e
    | some k =>
      simp only [hk] at e
      cases e
      exact sO_eqE (cl := cl) false hu I rx ry O R1 R2 hE hk (q _ _ _ _ .refl O (.py (.bl _)))
  | false =>
  rw [hE] at e
  simp only [eqV] at e
  cases h1 : toPy st a with
  | none => rw [h1] at e; exact nomatch e
  | some p =>
    rw [h1] at e
    cases h2 : toPy st b with
    | none => rw [h2] at e; exact nomatch e
    | some p2 =>
      rw [h2] at e
      simp only [Option.bind_some] at e
      split at e
      · rename_i hz
        cases e
        simp only [eqs, Bool.or_eq_true, Bool.and_eq_true] at hz
        rcases hz with hz | hz
        · obtain ⟨c, c', rfl, rfl⟩ := bothS_ok hz
          have e1 := strV_ok R1 h1
          have e2 := strV_ok R2 h2
          subst e1; subst e2
          refine op_eq pins s σ H _ _ v u Q I rx ry ⟨rfl, ?_⟩
          rw [dec_str]
          exact q _ _ _ _ .refl O (.py (.bl _))
        have v1 := (toPy_ok O _ _ _ _ R1 h1).dp (SeqAt.canLay_of_shaped hz.1)
        have v2 := (toPy_ok O _ _ _ _ R2 h2).dp (SeqAt.canLay_of_shaped hz.2)
        exact op_eqD hu pins s σ H _ _ v u Q I rx ry ⟨_, _, v1, v2, hz.1, hz.2, q _ _ _ _ .refl O (.py (.bl _))⟩
      · exact nomatch e
theorem sO_ne (hu : X.A.units + 64 < cLine) : OpR X (compareOp .NotEq) (rB X.K cl fun st x y => give st ((cmpO .NotEq st x y).map bo)) := by
  intro pins s σ H x y v u Q I rx ry ⟨ρ, F, st, a, b, O, R1, R2, d, st', e, q⟩
  simp only [cmpO, eqO] at e
  cases hE : isE b with
  | true =>
    rw [hE] at e
    cases hk : (keysK st a).map (·.isEmpty) with
    | none => simp only [hk] at e; exact nomatch e
    | some k =>
      simp only [hk] at e
      cases e
      exact sO_eqE (cl := cl) true hu I rx ry O R1 R2 hE hk (q _ _ _ _ .refl O (.py (.bl _)))
  | false =>
  rw [hE] at e
  simp only [eqV] at e
  cases h1 : toPy st a with
  | none => rw [h1] at e; exact nomatch e
  | some p =>
    rw [h1] at e
    cases h2 : toPy st b with
    | none => rw [h2] at e; exact nomatch e
    | some p2 =>
      rw [h2] at e
      simp only [Option.bind_some] at e
      split at e
      · rename_i hz
        cases e
        simp only [eqs, Bool.or_eq_true, Bool.and_eq_true] at hz
        rcases hz with hz | hz
        · obtain ⟨c, c', rfl, rfl⟩ := bothS_ok hz
          have e1 := strV_ok R1 h1
          have e2 := strV_ok R2 h2
          subst e1; subst e2
          refine op_ne pins s σ H _ _ v u Q I rx ry ⟨rfl, ?_⟩
          rw [dec_str]
          exact q _ _ _ _ .refl O (.py (.bl _))
        have v1 := (toPy_ok O _ _ _ _ R1 h1).dp (SeqAt.canLay_of_shaped hz.1)
        have v2 := (toPy_ok O _ _ _ _ R2 h2).dp (SeqAt.canLay_of_shaped hz.2)
        exact op_neD hu pins s σ H _ _ v u Q I rx ry ⟨_, _, v1, v2, hz.1, hz.2, q _ _ _ _ .refl O (.py (.bl _))⟩
      · exact nomatch e
theorem sO_in (hu : X.A.units + 65 < cLine) (neg : Bool) : OpR X (compareOp (if neg then .NotIn else .In)) (rB X.K cl fun st x y => give st (((inO st x y).map fun b => if neg then !b else b).map bo)) := by
  intro pins s σ H x y v u Q I rx ry ⟨ρ, F, st, a, b, O, R1, R2, d, st', e, q⟩
  have viaD : isD st b = true → ∀ r, ((dkey a).bind fun k => (getO st b k).map (·.isSome)) = some r → (∀ v H' ρ' F', Step ρ F H ρ' F' H' → Ok X.K cl H' ρ' F' st → Rp X.K F' ρ' v (bo (if neg then !r else r)) → Q v H') →
      wpAny (model X.prog X.w) X.A (compareOp (if neg then .NotIn else .In) v u) (EP X pins σ Q) X.xe s := fun hd r h q => by
    obtain ⟨k, hk, h⟩ := Option.bind_eq_some_iff.mp h
    obtain ⟨o, ho, rfl⟩ := Option.map_eq_some_iff.mp h
    obtain ⟨c, w, rfl, g, hw⟩ := getO_ok O R2 R1 hk ho
    cases ry
    have hs : w.isSome = o.isSome := by
      cases o with
      | none => rw [show w = none from hw]; rfl
      | some d => obtain ⟨x, h1, _⟩ := hw; rw [h1]; rfl
    cases neg with
    | true => exact d_notIn (by omega) I g rx fun s' I' => ⟨.bl _, H, I', rfl, q _ _ _ _ .refl O (by rw [hs]; exact .py (.bl _))⟩
    | false => exact d_in (by omega) I g rx fun s' I' => ⟨.bl _, H, I', rfl, q _ _ _ _ .refl O (by rw [hs]; exact .py (.bl _))⟩
  have viaL : ∀ (p : PyData) (qs : List PyData) (r : Bool), toPy st a = some p → (toPy st b = some (.list qs) ∨ toPy st b = some (.tuple qs)) → inSeq p qs = some r → (∀ v H' ρ' F', Step ρ F H ρ' F' H' → Ok X.K cl H' ρ' F' st → Rp X.K F' ρ' v (bo (if neg then !r else r)) → Q v H') →
      wpAny (model X.prog X.w) X.A (compareOp (if neg then .NotIn else .In) v u) (EP X pins σ Q) X.xe s := fun p qs r ha hb h q => by
    unfold inSeq at h
    split at h
    · rename_i hz
      cases h
      simp only [Bool.and_eq_true] at hz
      obtain ⟨as, r1, _⟩ := (toPy_ok O _ _ _ _ R1 ha).reads I rx
      rcases hb with hb | hb
      · obtain ⟨bs, r2, _⟩ := (toPy_ok O _ _ _ _ R2 hb).reads I ry
        cases neg with
        | true => exact SeqAt.notIn_list_reads r2 r1 hz.2 (SeqAt.canLay_of_shaped hz.1) (PyProof.Rows.room_in_shaped hz.1 hu) ⟨.bl _, H, I, rfl, q _ _ _ _ .refl O (.py (.bl _))⟩
        | false => exact SeqAt.in_list_reads r2 r1 hz.2 (SeqAt.canLay_of_shaped hz.1) (PyProof.Rows.room_in_shaped hz.1 hu) ⟨.bl _, H, I, rfl, q _ _ _ _ .refl O (.py (.bl _))⟩
      · obtain ⟨bs, r2, _⟩ := (toPy_ok O _ _ _ _ R2 hb).reads I ry
        cases neg with
        | true => exact SeqAt.notIn_tuple_reads r2 r1 hz.2 (SeqAt.canLay_of_shaped hz.1) (PyProof.Rows.room_in_shaped hz.1 hu) ⟨.bl _, H, I, rfl, q _ _ _ _ .refl O (.py (.bl _))⟩
        | false => exact SeqAt.in_tuple_reads r2 r1 hz.2 (SeqAt.canLay_of_shaped hz.1) (PyProof.Rows.room_in_shaped hz.1 hu) ⟨.bl _, H, I, rfl, q _ _ _ _ .refl O (.py (.bl _))⟩
    · cases h
  simp only at e
  cases hi : inO st a b with
  | none => rw [hi] at e; exact nomatch e
  | some r =>
    rw [hi] at e
    cases e
    unfold inO at hi
    split at hi
    · cases hi
      obtain rfl := R1.strE; obtain rfl := R2.strE
      cases neg with
      | true => exact op_notin_str pins s σ H _ _ v u Q I rx ry ⟨_, _, rfl, rfl, q _ _ _ _ .refl O (.py (.bl _))⟩
      | false => exact op_in_str pins s σ H _ _ v u Q I rx ry ⟨_, _, rfl, rfl, q _ _ _ _ .refl O (.py (.bl _))⟩
    · split at hi
      · exact viaD ‹_› r hi q
      · split at hi
        · exact viaL _ _ r ‹_› (.inl ‹_›) hi q
        · exact viaL _ _ r ‹_› (.inr ‹_›) hi q
        · cases hi
theorem sO_ltI : OpR X (compareOp .LtE) (rB X.K cl fun st x y => give st ((cmpO .LtE st x y).map bo)) := by
  intro pins s σ H x y v u Q I rx ry ⟨ρ, F, st, a, b, O, R1, R2, d, st', e, q⟩
  simp only [cmpO] at e
  split at e
  · cases e
    obtain rfl := R1.intE; obtain rfl := R2.intE
    exact op_le pins s σ H _ _ v u Q I rx ry ⟨_, _, rfl, rfl, q _ _ _ _ .refl O (.py (.bl _))⟩
  · exact nomatch e
theorem sO_gt : OpR X (compareOp .Gt) (rB X.K cl fun st x y => give st ((cmpO .Gt st x y).map bo)) := by
  intro pins s σ H x y v u Q I rx ry ⟨ρ, F, st, a, b, O, R1, R2, d, st', e, q⟩
  simp only [cmpO] at e
  split at e
  · cases e
    obtain rfl := R1.intE; obtain rfl := R2.intE
    exact op_gt pins s σ H _ _ v u Q I rx ry ⟨_, _, rfl, rfl, q _ _ _ _ .refl O (.py (.bl _))⟩
  · exact nomatch e
theorem sO_ge : OpR X (compareOp .GtE) (rB X.K cl fun st x y => give st ((cmpO .GtE st x y).map bo)) := by
  intro pins s σ H x y v u Q I rx ry ⟨ρ, F, st, a, b, O, R1, R2, d, st', e, q⟩
  simp only [cmpO] at e
  split at e
  · cases e
    obtain rfl := R1.intE; obtain rfl := R2.intE
    exact op_ge pins s σ H _ _ v u Q I rx ry ⟨_, _, rfl, rfl, q _ _ _ _ .refl O (.py (.bl _))⟩
  · exact nomatch e
theorem Rp.isNon {K : PySem.W.Frag} {F : Hp} {ρ : List Addr} {v : V} {d : D} (r : Rp K F ρ v d) : decide (v = .non) = isN d := by
  cases r with
  | py r => cases r <;> rfl
  | _ => rfl
theorem sO_is (neg : Bool) : OpR X (compareOp (if neg then .IsNot else .Is)) (rB X.K cl fun st x y => give st ((cmpO (if neg then .IsNot else .Is) st x y).map bo)) := by
  intro pins s σ H x y v u Q I rx ry ⟨ρ, F, st, a, b, O, R1, R2, d, st', e, q⟩
  have hz := R1.isNon
  cases neg with
  | true =>
    simp only [cmpO, if_true] at e
    split at e
    · obtain rfl := R2.nonE
      refine op_notN pins s σ H _ _ v u Q I rx ry ⟨rfl, ?_⟩
      rw [hz]
      cases e; exact q _ _ _ _ .refl O (.py (.bl _))
    · exact nomatch e
  | false =>
    simp only [cmpO, Bool.false_eq_true, if_false] at e
    split at e
    · obtain rfl := R2.nonE
      refine op_isN pins s σ H _ _ v u Q I rx ry ⟨rfl, ?_⟩
      rw [hz]
      cases e; exact q _ _ _ _ .refl O (.py (.bl _))
    · exact nomatch e
end
end WW

namespace WW
open PySem PySem.Spec L2
/-! ### less, of data of one kind -/
section
theorem rcLt_num (A : Around) (s : Shared) (i : Int) (t : Tok) (j : Int) (u : Tok) : SeqAt.RcLt A s (.int i t) (.int j u) (decide (i < j)) := fun prog w E Q h => HT.rcLt_int A s i t j u prog w E Q h
theorem rcLt_txt (A : Around) (s : Shared) (x : Str) (t : Tok) (y : Str) (u : Tok) : SeqAt.RcLt A s (.str x t) (.str y u) (decide (x.cps.toList < y.cps.toList)) := fun prog w E Q h => PyProof.Rows.lt_str h
theorem first_shift {e r e' r' : Nat → Bool} {fin : Bool} (he : ∀ j, e' j = e (j + 1)) (hr : ∀ j, r' j = r (j + 1)) : ∀ l : List Nat, SeqAt.firstLt e r fin (l.map (· + 1)) = SeqAt.firstLt e' r' fin l
  | [] => rfl
  | j :: l => by
    rw [List.map_cons]
    by_cases z : e (j + 1) = true
    · rw [SeqAt.firstLt_yes z, SeqAt.firstLt_yes (by rw [he]; exact z)]; exact first_shift he hr l
    · rw [SeqAt.firstLt_no (by simpa using z), SeqAt.firstLt_no (by rw [he]; simpa using z), hr]
def at1 (xs : List PyData) (j : Nat) : PyData := xs.getD j .none
theorem ltBs_first : ∀ xs ys : List PyData, SeqAt.firstLt (fun j => PyData.eqv (at1 xs j) (at1 ys j)) (fun j => ltB (at1 xs j) (at1 ys j)) (decide (xs.length < ys.length)) (List.range (min xs.length ys.length)) = ltBs xs ys
  | [], [] => by simp [SeqAt.firstLt, ltBs]
  | [], _ :: _ => by simp [SeqAt.firstLt, ltBs]
  | _ :: _, [] => by simp [SeqAt.firstLt, ltBs]
  | x :: xs, y :: ys => by
    have ih := ltBs_first xs ys
    have hm : min (x :: xs).length (y :: ys).length = min xs.length ys.length + 1 := by simp only [List.length_cons]; omega
    rw [hm, List.range_succ_eq_map]
    have h0 : at1 (x :: xs) 0 = x := rfl
    have h1 : at1 (y :: ys) 0 = y := rfl
    have hl : decide ((x :: xs).length < (y :: ys).length) = decide (xs.length < ys.length) := by simp
    simp only [ltBs]
    by_cases z : PyData.eqv x y = true
    · rw [SeqAt.firstLt_yes (by rw [h0, h1]; exact z), if_pos z, ← ih, hl]
      exact first_shift (fun j => rfl) (fun j => rfl) _
    · rw [SeqAt.firstLt_no (by rw [h0, h1]; simpa using z), if_neg z, h0, h1]
theorem cmpBs_at : ∀ (xs ys : List PyData) (j : Nat), cmpBs xs ys = true → j < xs.length → j < ys.length → cmpB (at1 xs j) (at1 ys j) = true
  | [], _, _, _, h, _ => by simp at h
  | _ :: _, [], _, _, _, h => by simp at h
  | x :: xs, y :: ys, 0, h, _, _ => by simp only [cmpBs, Bool.and_eq_true] at h; exact h.1
  | x :: xs, y :: ys, j + 1, h, h1, h2 => by
    simp only [cmpBs, Bool.and_eq_true] at h
    exact cmpBs_at xs ys j h.2 (by simpa using h1) (by simpa using h2)
theorem lay_at : ∀ (xs : List PyData) (j : Nat), PyData.canLayAll0 xs = true → j < xs.length → (at1 xs j).canLay0 = true
  | [], _, _, h => by simp at h
  | x :: xs, 0, h, _ => by simp only [PyData.canLayAll0, Bool.and_eq_true] at h; exact h.1
  | x :: xs, j + 1, h, h1 => by
    simp only [PyData.canLayAll0, Bool.and_eq_true] at h
    exact lay_at xs j h.2 (by simpa using h1)
theorem depth_at : ∀ (xs : List PyData) (j : Nat), j < xs.length → (at1 xs j).depth ≤ PyData.depthAll xs
  | [], _, h => by simp at h
  | x :: xs, 0, _ => by simp only [PyData.depthAll]; exact Nat.le_max_left _ _
  | x :: xs, j + 1, h1 => by
    simp only [PyData.depthAll]
    exact Nat.le_trans (depth_at xs j (by simpa using h1)) (Nat.le_max_right _ _)
theorem readsAll_at : ∀ {h : Heap} {vs : List Value} {ds : List PyData} {as : List Addr}, ReadsAll h vs ds as → ∀ (j : Nat) (hj : j < vs.length), ∃ bs, Reads h vs[j] (at1 ds j) bs
  | _, _, _, _, .nil, _, hj => by simp at hj
  | _, _, _, _, .cons r _, 0, _ => ⟨_, r⟩
  | _, _, _, _, .cons _ t, j + 1, hj => readsAll_at t j (by simpa using hj)
theorem readsAll_len : ∀ {h : Heap} {vs : List Value} {ds : List PyData} {as : List Addr}, ReadsAll h vs ds as → vs.length = ds.length
  | _, _, _, _, .nil => rfl
  | _, _, _, _, .cons _ t => by rw [List.length_cons, List.length_cons, readsAll_len t]
theorem at1_size (xs : List PyData) (j : Nat) (h : j < xs.length) : sizeOf (at1 xs j) < sizeOf (PyData.tuple xs) := by
  have : at1 xs j ∈ xs := by
    unfold at1
    rw [List.getD_eq_getElem?_getD, List.getElem?_eq_getElem h]
    exact List.getElem_mem h
  have := List.sizeOf_lt_of_mem this
  simp only [PyData.tuple.sizeOf_spec]
  omega
theorem rcLt_reads : ∀ (n : Nat) (p q : PyData) (A : Around) (s : Shared) (a b : Value) (as bs : List Addr), sizeOf p < n → Reads s.heap a p as → Reads s.heap b q bs → cmpB p q = true → p.canLay0 = true → q.canLay0 = true → A.units + p.depth + 1 < cLine → SeqAt.RcLt A s a b (ltB p q)
  | 0, _, _, _, _, _, _, _, _, hn, _, _, _, _, _, _ => absurd hn (Nat.not_lt_zero _)
  | n + 1, p, q, A, s, a, b, as, bs, hn, ra, rb, hc, la, lb, hu => by
    cases ra with
    | int i t => cases rb with
      | int j u => exact rcLt_num A s i t j u
      | _ => exact nomatch hc
    | str x t => cases rb with
      | str y u => exact rcLt_txt A s x t y u
      | _ => exact nomatch hc
    | @tuple aa o vs k xs as0 ho hcl hd hr =>
      cases rb with
      | @tuple bb o2 vs2 k2 ys bs0 ho2 hcl2 hd2 hr2 =>
        have l1 := readsAll_len hr
        have l2 := readsAll_len hr2
        rw [Array.length_toList] at l1 l2
        have hc' : cmpBs xs ys = true := by simpa only [cmpB] using hc
        have la' : PyData.canLayAll0 xs = true := by simpa only [PyData.canLay0] using la
        have lb' : PyData.canLayAll0 ys = true := by simpa only [PyData.canLay0] using lb
        have hu' : A.units + (PyData.depthAll xs + 1) + 1 < cLine := by simpa only [PyData.depth] using hu
        have e : ltB (.tuple xs) (.tuple ys) = SeqAt.firstLt (fun j => PyData.eqv (at1 xs j) (at1 ys j)) (fun j => ltB (at1 xs j) (at1 ys j)) (decide (vs.size < vs2.size)) (List.range (min vs.size vs2.size)) := by
          rw [l1, l2, ltBs_first]; rfl
        rw [e]
        refine SeqAt.RcLt.tuples ⟨_, ho, hcl, _, hd⟩ ⟨_, ho2, hcl2, _, hd2⟩ (by omega) (fun j h1 h2 => ?_) (fun j h1 h2 _ => ?_)
        · obtain ⟨cs, r1⟩ := readsAll_at hr j (by simpa using h1)
          obtain ⟨ds, r2⟩ := readsAll_at hr2 j (by simpa using h2)
          refine SeqAt.eqAt_reads _ _ A.in1 s _ _ _ _ r1 r2 (lay_at xs j la' (by omega)) (lay_at ys j lb' (by omega)) ?_
          have := depth_at xs j (by omega)
          have h3 : min (at1 xs j).depth (at1 ys j).depth ≤ (at1 xs j).depth := Nat.min_le_left _ _
          show A.units + 1 + _ < cLine
          omega
        · obtain ⟨cs, r1⟩ := readsAll_at hr j (by simpa using h1)
          obtain ⟨ds, r2⟩ := readsAll_at hr2 j (by simpa using h2)
          refine rcLt_reads n _ _ A.in1 s _ _ _ _ ?_ r1 r2 (cmpBs_at xs ys j hc' (by omega) (by omega)) (lay_at xs j la' (by omega)) (lay_at ys j lb' (by omega)) ?_
          · have := at1_size xs j (by omega); omega
          · have := depth_at xs j (by omega)
            show A.units + 1 + _ + 1 < cLine
            omega
      | _ => exact nomatch hc
    | _ => exact nomatch hc
end
section
variable {X : Cx} {cl : Nat → Option Addr}
theorem sO_lt (hu : X.A.units + 70 < cLine) : OpR X (compareOp .Lt) (rB X.K cl fun st x y => give st ((cmpO .Lt st x y).map bo)) := by
  intro pins s σ H x y v u Q I rx ry ⟨ρ, F, st, a, b, O, R1, R2, d, st', e, q⟩
  simp only [cmpO, ltO] at e
  split at e
  · split at e
    · rename_i hz
      cases e
      simp only [Bool.and_eq_true] at hz
      obtain ⟨as, r1, _⟩ := (R1.pyE.view O).reads I rx
      obtain ⟨bs, r2, _⟩ := (R2.pyE.view O).reads I ry
      have hd := SeqAt.depth_of_shaped hz.1.1
      exact rcLt_reads _ _ _ X.A s _ _ _ _ (Nat.lt_succ_self _) r1 r2 hz.2 (SeqAt.canLay_of_shaped hz.1.1) (SeqAt.canLay_of_shaped hz.1.2) (by omega) _ _ _ _ ⟨.bl _, H, I, rfl, q _ _ _ _ .refl O (.py (.bl _))⟩
    · exact nomatch e
  · exact nomatch e
def cmpOk : CmpOp → Bool
  | _ => true
theorem sO_cmp {op : CmpOp} (hu : X.A.units + 70 < cLine) : OpR X (compareOp op) (rB X.K cl fun st x y => give st ((cmpO op st x y).map bo)) := by
  cases op with
  | Eq => exact sO_eq (by omega)
  | NotEq => exact sO_ne (by omega)
  | Lt => exact sO_lt hu
  | LtE => exact sO_ltI
  | Gt => exact sO_gt
  | GtE => exact sO_ge
  | Is => exact sO_is false
  | IsNot => exact sO_is true
  | In => simpa [cmpO] using sO_in (cl := cl) (X := X) (by omega) false
  | NotIn => simpa [cmpO] using sO_in (cl := cl) (X := X) (by omega) true
/-! ### truth -/
theorem tru_of {K : PySem.W.Frag} {F H : Hp} {ρ : List Addr} {st : Store} {v : V} {d : D} {b : Bool} (O : Ok K cl H ρ F st) (r : Rp K F ρ v d) (e : truO st d = some b) : TruV K v H b := by
  unfold truO at e
  split at e
  · cases e; obtain rfl := r.nonE; rfl
  · cases e; obtain rfl := r.blE; rfl
  · cases e; obtain rfl := r.intE; rfl
  · obtain rfl := r.strE
    split at e
    · cases e; exact ⟨‹_›, rfl⟩
    · cases e
  · cases e
  · obtain ⟨xs, h1, rfl⟩ := Option.map_eq_some_iff.mp e
    obtain ⟨a, vs, rfl, h2, h3⟩ := asLT_ok O r h1
    have : vs.isEmpty = xs.isEmpty := by
      have := h3.nil_iff
      cases vs <;> cases xs <;> simp_all
    rcases h2 with h2 | h2
    · exact .inl ⟨_, h2, by rw [this]⟩
    · exact .inr (.inl ⟨_, h2, by rw [this]⟩)
/-! ### subscripts, slices -/
theorem Rps.atI {K : PySem.W.Frag} {F : Hp} {ρ : List Addr} {vs : List V} {ds : List D} {i : Int} {d : D} (r : Rps K F ρ vs ds) (e : L2.atI ds i = some d) : ∃ v, L2.atI vs i = some v ∧ Rp K F ρ v d := by
  unfold L2.atI at e ⊢
  obtain ⟨j, h1, h2⟩ := Option.bind_eq_some_iff.mp e
  obtain ⟨v, h3, h4⟩ := r.get h2
  exact ⟨v, by rw [r.length, h1]; exact h3, h4⟩
end
end WW

namespace WW
open PySem PySem.Spec L2
section
variable {X : Cx} {cl : Nat → Option Addr}
/-! ### subscripts -/
theorem sI_idx (hu : X.A.units + 70 < cLine) : IxR X (rB X.K cl fun st x y => give st (idxO st x y)) := by
  intro value slice pins s σ H x y v u Q I rx ry ⟨ρ, F, st, a, b, O, R1, R2, d, st', e, q⟩ hs
  simp only at e
  cases hi : idxO st a b with
  | none => rw [hi] at e; exact nomatch e
  | some r =>
    rw [hi] at e
    cases e
    unfold idxO at hi
    split at hi
    · obtain ⟨k, hk, h⟩ := Option.bind_eq_some_iff.mp hi
      obtain ⟨o, ho, h⟩ := Option.bind_eq_some_iff.mp h
      simp only [id_eq] at h
      subst h
      obtain ⟨c, w, rfl, g, z, rfl, hz⟩ := getO_ok O R1 R2 hk ho
      cases rx
      exact PyProof.Rows.tail_any (dict_typeIs I g) PySem.F.slot_dict_getitem.lookup (d_getItem (by omega) I g ry fun w' s' I' rw' => ⟨z, H, I', rw', q _ _ _ _ .refl O hz⟩) hs
    · split at hi
      · split at hi
        · rename_i hz
          obtain ⟨c, h1, rfl⟩ := Option.map_eq_some_iff.mp hi
          obtain rfl := R1.strE; obtain rfl := R2.intE
          exact ix_str value slice pins s σ H _ _ v u Q I rx ry ⟨_, _, c, rfl, rfl, hz, h1, q _ _ _ _ .refl O (.py (.str _))⟩ hs
        · cases hi
      · obtain ⟨xs, h1, h2⟩ := Option.bind_eq_some_iff.mp hi
        obtain ⟨p, vs, rfl, h3, h4⟩ := asLT_ok O R1 h1
        obtain rfl := R2.intE
        obtain ⟨z, h5, h6⟩ := h4.atI h2
        rcases h3 with h3 | h3
        · exact ix_list value slice pins s σ H _ _ v u Q I rx ry ⟨_, _, _, z, rfl, rfl, h3, h5, q _ _ _ _ .refl O h6⟩ hs
        · exact ix_tup value slice pins s σ H _ _ v u Q I rx ry ⟨_, _, _, z, rfl, rfl, h3, h5, q _ _ _ _ .refl O h6⟩ hs
      · cases hi
/-! ### slices -/
/-- a part of a slice: an int, or none -/
def rSl (K : PySem.W.Frag) (cl : Nat → Option Addr) (m : Bool) : V → Option Int → Option Int → Hp → VK → Prop := fun x lo hi H Q => ∃ ρ F st a, Ok K cl H ρ F st ∧ Rp K F ρ x a ∧ ∃ d st', slcO m st a lo hi = .ok d st' ∧
  ∀ v H' ρ' F', Step ρ F H ρ' F' H' → Ok K cl H' ρ' F' st' → Rp K F' ρ' v d → Q v H'
theorem Reps.cut {K : PySem.W.Frag} {F : Hp} {vs : List V} {ds : List PyData} (r : Reps K F vs ds) (lo hi : Option Int) : Reps K F (cutV vs lo hi) (WW.cut ds lo hi) := by
  have r' := r.rps (ρ := [])
  have h := (r'.drop (HT.sIx vs.length 0 lo)).take (HT.sIx vs.length vs.length hi - HT.sIx vs.length 0 lo)
  unfold cutV WW.cut
  rw [← r.length]
  rw [← List.map_drop, ← List.map_take] at h
  exact h.reps
theorem Rps.cut {K : PySem.W.Frag} {F : Hp} {ρ : List Addr} {vs : List V} {ds : List D} (r : Rps K F ρ vs ds) (lo hi : Option Int) : Rps K F ρ (cutV vs lo hi) (WW.cut ds lo hi) := by
  unfold cutV WW.cut
  rw [← r.length]
  exact (r.drop _).take _
theorem cut_whole {α : Type} (xs : List α) (lo hi : Option Int) (h : HT.sIx xs.length 0 lo = 0 ∧ HT.sIx xs.length xs.length hi = xs.length) : WW.cut xs lo hi = xs := by
  unfold WW.cut
  rw [h.1, h.2]; simp
theorem sS_slc {m : Bool} : SlR X (rSl X.K cl m) := by
  intro pins s σ H x v vl vu lo hi sl Q I rx hs pl pu ⟨ρ, F, st, a, O, R1, d, st', e, q⟩
  unfold slcO at e
  split at e
  · split at e
    · rename_i hz
      cases e
      obtain rfl := R1.strE
      exact sl_str pins s σ H _ v vl vu lo hi sl Q I rx hs pl pu ⟨_, rfl, hz, q _ _ _ _ .refl O (.py (.str _))⟩
    · cases e
  · cases e
    rename_i xs
    obtain ⟨p, vs, rfl, h3, h4⟩ := asT_ok O R1 rfl
    have h4 := h4.reps
    refine sl_tupA pins s σ H _ v vl vu lo hi sl Q I rx hs pl pu ⟨p, vs, rfl, h3, fun h => ?_, fun h p' hp' => ?_⟩
    · rw [h4.length] at h
      rw [cut_whole xs lo hi h] at q
      exact q _ _ _ _ .refl O R1
    · obtain ⟨S, O'⟩ := O.lay (u := .tup (cutV vs lo hi)) hp'
      exact q _ _ _ _ S O' (.py (.tup upd_same ((h4.cut lo hi).mono S.grow)))
  · split at e
    · rename_i xs hl
      obtain ⟨p, vs, rfl, h3, h4⟩ := asL_ok O R1 hl
      refine sl_list pins s σ H _ v vl vu lo hi sl Q I rx hs pl pu ⟨p, vs, rfl, .inl h3, fun p' hp' => ?_⟩
      obtain ⟨ρ', F', S, O', R⟩ := newL_ok O (h4.cut lo hi) e hp'
      exact q _ _ _ _ S O' R
    · cases e
theorem noExc_slc (m : Bool) (st : Store) (x : D) (lo hi : Option Int) : NoExc (slcO m st x lo hi) := by
  intro c fs st'
  unfold slcO
  (repeat' split) <;> first | (exact noExc_newL _ _ _ c fs st') | (intro h; exact nomatch h)
/-! ### stores -/
theorem Rps.setN {K : PySem.W.Frag} {F : Hp} {ρ : List Addr} {vs : List V} {ds : List D} {v : V} {d : D} (r : Rps K F ρ vs ds) (h : Rp K F ρ v d) (i : Nat) : Rps K F ρ (vs.set i v) (ds.set i d) := Rps.set h i r
theorem sP_set (hu : X.A.units + 70 < cLine) : PSet X fun o i v H Q => ∃ ρ F st a b d, Ok X.K cl H ρ F st ∧ Rp X.K F ρ o a ∧ Rp X.K F ρ i b ∧ Rp X.K F ρ v d ∧ ∃ st', setO st a b d = some st' ∧ ∀ H', Step ρ F H ρ F H' → Ok X.K cl H' ρ F st' → Q H' := by
  intro pins s σ H o i v ov iv u Q I ro ri rv ⟨ρ, F, st, a, b, d, O, R1, R2, R3, st', e, q⟩
  unfold setO at e
  split at e
  · rename_i n
    cases R1 with
    | loc h =>
      rename_i p
      split at e
      · rename_i xs hs
        split at e
        · obtain ⟨j, hj, rfl⟩ := Option.map_eq_some_iff.mp e
          obtain rfl := R2.intE
          obtain ⟨w, hw, hr⟩ := O.at h hs
          cases hr with
          | lst r =>
            rename_i vs
            refine set_list pins s σ H _ _ _ ov iv u Q I ro ri rv ⟨p, vs, _, j, rfl, rfl, hw, by rw [r.length]; exact hj, ?_⟩
            obtain ⟨S, O'⟩ := O.write h hw (by intros; nofun) (.lst (r.setN R3 j))
            exact q _ S O'
        · cases e
      · rename_i kvs hs
        split at e
        · rename_i k hk
          split at e
          · rename_i hz
            cases e
            obtain ⟨w, hw, hr⟩ := O.at h hs
            cases hr with
            | dK r =>
              cases ro
              obtain ⟨S, O'⟩ := O.write h hw (by intros; nofun) (.dK (r.put k R3))
              refine d_setItem (by omega) I (.inl ⟨_, k, hw, dkey_one R2 hk, by rw [r.length]; exact hz, rfl⟩) ri rv fun s' I' => ⟨_, I', q _ S O'⟩
          · cases e
        · cases e
      · rename_i kvs hs
        split at e
        · rename_i k hk
          split at e
          · rename_i hz
            cases e
            obtain ⟨w, hw, hr⟩ := O.at h hs
            cases hr with
            | dT r =>
              cases ro
              obtain ⟨c, rfl, hc⟩ := dkey_many O R2 hk
              obtain ⟨S, O'⟩ := O.write h hw (by intros; nofun) (.dT (r.put k R3))
              refine d_setItem (by omega) I (.inr ⟨_, k, c, hw, rfl, hc, by rw [r.length]; exact hz, rfl⟩) ri rv fun s' I' => ⟨_, I', q _ S O'⟩
          · cases e
        · cases e
      · cases e
  · cases e
end
end WW

namespace WW
open PySem PySem.Spec L2
/-! ### int of nine hundred noughts -/
section
theorem wp_big {M : Model} {A : Around} {E : Value → Shared → Prop} {s : Shared} {Q : Value → Shared → Prop} {v : Value} {text : List Nat} {n : Int} 
    (hs : ¬ (text.takeWhile (· != 0)).length ≤ 640) (hr : (int_private% "readNumeral") 4300 10 (text.takeWhile (· != 0)) = (int_private% "Numeral.value") n)
    (ha : ((text.takeWhile (· != 0)).length == text.length) = true) (hc : PySem.W.Looks M s.heap (nsGet cStatics "sys.int_max_str_digits") none) (h : Q (.int n s.toks) { s with toks := s.toks + 1 }) :
    wpAny M A ((int_private% "intFromText") v text 10) Q E s := by
  obtain ⟨hp, g, d, tk, os⟩ := s
  have e4 : wpAny M A Builtin.intMaxStrDigits (fun k s' => k = 4300 ∧ s' = ⟨hp, g, d, tk, os⟩) E ⟨hp, g, d, tk, os⟩ := by
    unfold Builtin.intMaxStrDigits
    exact wpAny_bind (PySem.W.Looks.at hc (wpAny_pure ⟨rfl, rfl⟩))
  repeat (any_goals (first
    | assumption
    | ((with_reducible refine wpAny_mono e4 (fun _ _ hk => ?_) (fun _ _ x => x)); obtain ⟨rfl, rfl⟩ := hk; (try dsimp only); (try rw [hr]); (try dsimp only))
    | (with_reducible refine wpAny_ite_false (decide_eq_false hs) ?_)
    | (with_reducible refine wpAny_ite_true (decide_eq_true ha) ?_)
    | wp_step))
theorem wp_small {M : Model} {A : Around} {E : Value → Shared → Prop} {s : Shared} {Q : Value → Shared → Prop} {v : Value} {text : List Nat} {n : Int}
    (hs : (text.takeWhile (· != 0)).length ≤ 640) (hr : (int_private% "readNumeral") 0 10 (text.takeWhile (· != 0)) = (int_private% "Numeral.value") n)
    (ha : ((text.takeWhile (· != 0)).length == text.length) = true) (h : Q (.int n s.toks) { s with toks := s.toks + 1 }) :
    wpAny M A ((int_private% "intFromText") v text 10) Q E s := PySem.W.KIN.wp_text hs hr ha h
structure Hid2 (p : Prop) : Prop where
  out : p
set_option maxHeartbeats 4000000 in
theorem meets_big {x : PySem.Str} {u : Tok} {n : Int} (hl : ¬ (PySem.numSeenOf x).length ≤ 640) (hr : (int_private% "readNumeral") 4300 10 (PySem.numSeenOf x) = (int_private% "Numeral.value") n) (ha : ((PySem.numSeenOf x).length == (PySem.numTextOf x).length) = true) :
    Meets (Builtin.«int.__new__» ⟨[.type "int", .str x u], []⟩) fun _ R s => (∀ M, PySem.W.Looks M s.heap (nsGet cStatics "sys.int_max_str_digits") none) ∧ R (.ok (.ret (.int n s.toks))) { s with toks := s.toks + 1 } :=
  .of_wp fun P w A R s ⟨hc, h⟩ => by
    obtain ⟨hp, g, d, tk, os⟩ := s
    have f1 := F.conv_sub_int
    have f2 := F.madeHere_int
    have f3 := PySem.W.KIN.str_int
    have f4 := PySem.W.KIN.str_idx
    have f5 := PySem.W.KIN.str_trunc
    have f6 : typeOf (.str x u) = pure (.type "str") := rfl
    have hk := Hid2.mk (And.intro hl (And.intro hr (And.intro ha hc)))
    clear hl hr ha
    repeat (any_goals (first
      | assumption
      | ((with_reducible show wpAny _ _ ((int_private% "intFromText") _ _ _) _ _ _); refine wp_big hk.out.1 hk.out.2.1 hk.out.2.2.1 (hk.out.2.2.2 _) ?_)
      | wp_step))
    all_goals first | exact ⟨_, rfl, h⟩ | skip
set_option maxHeartbeats 4000000 in
theorem meets_small {x : PySem.Str} {u : Tok} {n : Int} (hl : (PySem.numSeenOf x).length ≤ 640) (hr : (int_private% "readNumeral") 0 10 (PySem.numSeenOf x) = (int_private% "Numeral.value") n) (ha : ((PySem.numSeenOf x).length == (PySem.numTextOf x).length) = true) :
    Meets (Builtin.«int.__new__» ⟨[.type "int", .str x u], []⟩) fun _ R s => R (.ok (.ret (.int n s.toks))) { s with toks := s.toks + 1 } :=
  .of_wp fun P w A R s h => by
    obtain ⟨hp, g, d, tk, os⟩ := s
    have f1 := F.conv_sub_int
    have f2 := F.madeHere_int
    have f3 := PySem.W.KIN.str_int
    have f4 := PySem.W.KIN.str_idx
    have f5 := PySem.W.KIN.str_trunc
    have f6 : typeOf (.str x u) = pure (.type "str") := rfl
    have hk := Hid2.mk (And.intro hl (And.intro hr ha))
    clear hl hr ha
    repeat (any_goals (first
      | assumption
      | ((with_reducible show wpAny _ _ ((int_private% "intFromText") _ _ _) _ _ _); refine wp_small hk.out.1 hk.out.2.1 hk.out.2.2 ?_)
      | wp_step))
    all_goals first | exact ⟨_, rfl, h⟩ | skip
end
section
variable {prog : Program} {w : World} {A : Around} {E : Value → Shared → Prop} {s : Shared} {Q : Value → Shared → Prop} {t : Tok}
theorem call_intText {x : Str} {n : Int} (hx : x.length ≤ sizeLine) (hn : PySem.intText? x = some n) (hc : ∀ M, PySem.W.Looks M s.heap (nsGet cStatics "sys.int_max_str_digits") none) (h : Q (.int n s.toks) { s with toks := s.toks + 1 }) : wpAny (model prog w) A (call (.type "int") [.str x t]) Q E s := by
  by_cases hl : (PySem.numSeenOf x).length ≤ 640
  · rcases read0 x hl with ⟨m, h1, h2, h3⟩ | ⟨h1, _⟩
    · rw [hn] at h1
      cases h1
      exact call_int_1 (meets_small hl h3 h2) (show _ ∧ _ from ⟨rfl, h⟩)
    · rw [hn] at h1; cases h1
  · rcases readAny x hx with ⟨m, h1, h2, h3⟩ | ⟨h1, _⟩
    · rw [hn] at h1
      cases h1
      rw [show PySem.numLimitOf x = 4300 from if_neg hl] at h3
      exact call_int_1 (meets_big hl h3 h2) ⟨hc, show _ ∧ _ from ⟨rfl, h⟩⟩
    · rw [hn] at h1; cases h1
end
end WW

namespace WW
open PySem PySem.Spec L2
section
variable {K : PySem.W.Frag} {cl : Nat → Option Addr} {F H : Hp} {ρ : List Addr} {st : Store} {v : V} {d : D}
theorem allPy_ok {vs : List V} {ds : List D} {ps : List PyData} (r : Rps K F ρ vs ds) (e : allPy ds = some ps) : Reps K F vs ps := by
  rw [allPy_eq e] at r; exact r.reps
theorem bools_ok : ∀ {vs : List V} {ps : List PyData} {bs : List Bool}, Reps K F vs ps → asBools ps = some bs → vs = bs.map V.bl
  | _, _, _, .nil, e => by cases e; rfl
  | _, _, _, .cons h r, e => by
    cases h with
    | bl b =>
      simp only [asBools, Option.map_eq_some_iff] at e
      obtain ⟨bs, e1, rfl⟩ := e
      rw [bools_ok r e1]; rfl
    | _ => exact nomatch e
theorem ints_ok : ∀ {vs : List V} {ps : List PyData} {bs : List Int}, Reps K F vs ps → asInts ps = some bs → vs = bs.map V.int
  | _, _, _, .nil, e => by cases e; rfl
  | _, _, _, .cons h r, e => by
    cases h with
    | int b =>
      simp only [asInts, Option.map_eq_some_iff] at e
      obtain ⟨bs, e1, rfl⟩ := e
      rw [ints_ok r e1]; rfl
    | _ => exact nomatch e
theorem strs_ok : ∀ {vs : List V} {ps : List PyData} {bs : List Str}, Reps K F vs ps → asStrs ps = some bs → vs = bs.map V.str
  | _, _, _, .nil, e => by cases e; rfl
  | _, _, _, .cons h r, e => by
    cases h with
    | str b =>
      simp only [asStrs, Option.map_eq_some_iff] at e
      obtain ⟨bs, e1, rfl⟩ := e
      rw [strs_ok r e1]; rfl
    | _ => exact nomatch e
theorem lstB_ok {bs : List Bool} (O : Ok K cl H ρ F st) (r : Rp K F ρ v d) (e : lstB st d = some bs) : ∃ a, v = .ref a ∧ SqL K H a (bs.map V.bl) := by
  obtain ⟨xs, h1, h2⟩ := Option.bind_eq_some_iff.mp e
  obtain ⟨ps, h3, h4⟩ := Option.bind_eq_some_iff.mp h2
  obtain ⟨a, vs, rfl, h5, h6⟩ := asL_ok O r h1
  exact ⟨a, rfl, by rw [← bools_ok (allPy_ok h6 h3) h4]; exact .inl h5⟩
theorem lstI_ok {bs : List Int} (O : Ok K cl H ρ F st) (r : Rp K F ρ v d) (e : lstI st d = some bs) : ∃ a, v = .ref a ∧ SqL K H a (bs.map V.int) := by
  obtain ⟨xs, h1, h2⟩ := Option.bind_eq_some_iff.mp e
  obtain ⟨ps, h3, h4⟩ := Option.bind_eq_some_iff.mp h2
  obtain ⟨a, vs, rfl, h5, h6⟩ := asL_ok O r h1
  exact ⟨a, rfl, by rw [← ints_ok (allPy_ok h6 h3) h4]; exact .inl h5⟩
theorem lstS_ok {bs : List Str} (O : Ok K cl H ρ F st) (r : Rp K F ρ v d) (e : lstS st d = some bs) : ∃ a, v = .ref a ∧ (SqL K H a (bs.map V.str) ∨ SqT K H a (bs.map V.str)) := by
  obtain ⟨xs, h1, h2⟩ := Option.bind_eq_some_iff.mp e
  obtain ⟨ps, h3, h4⟩ := Option.bind_eq_some_iff.mp h2
  obtain ⟨a, vs, rfl, h5, h6⟩ := asLT_ok O r h1
  exact ⟨a, rfl, by rw [← strs_ok (allPy_ok h6 h3) h4]; exact h5⟩
theorem Rps.one {vs : List V} {d : D} (r : Rps K F ρ vs [d]) : ∃ v, vs = [v] ∧ Rp K F ρ v d := by
  cases r with | cons h r => cases r; exact ⟨_, rfl, h⟩
theorem Rps.two {vs : List V} {d e : D} (r : Rps K F ρ vs [d, e]) : ∃ v w, vs = [v, w] ∧ Rp K F ρ v d ∧ Rp K F ρ w e := by
  cases r with | cons h r => cases r with | cons h2 r => cases r; exact ⟨_, _, rfl, h, h2⟩
theorem Rps.zero {vs : List V} (r : Rps K F ρ vs []) : vs = [] := by cases r; rfl
end
section
variable {X : Cx} {cl : Nat → Option Addr}
/-- what is done by values, nothing made -/
theorem cr_pure {f : Value} {r : List V → Hp → VK → Prop} {g : Store → List D → R D} (h : CallR X f r)
    (hr : ∀ (ρ : List Addr) (F H : Hp) (st : Store) (vs : List V) (ds : List D) (d : D) (st' : Store) (Q : VK), Ok X.K cl H ρ F st → Rps X.K F ρ vs ds → g st ds = .ok d st' →
      (∀ v H' ρ' F', Step ρ F H ρ' F' H' → Ok X.K cl H' ρ' F' st' → Rp X.K F' ρ' v d → Q v H') → r vs H Q) : CallR X f (rN X.K cl g) :=
  fun pins s σ H xs us Q I rx ⟨ρ, F, st, ds, O, R, d, st', e, q⟩ => h pins s σ H xs us Q I rx (hr ρ F H st xs ds d st' Q O R e q)
theorem CallR.or {f : Value} {r r' : List V → Hp → VK → Prop} (h : CallR X f r) (h' : CallR X f r') : CallR X f (fun xs H Q => r xs H Q ∨ r' xs H Q) :=
  fun pins s σ H xs us Q I rx q => q.elim (h pins s σ H xs us Q I rx) (h' pins s σ H xs us Q I rx)
theorem call_len_dK : CallR X (.builtin "len") fun xs H Q => ∃ p kvs, xs = [.ref p] ∧ Rd H p (.dK kvs) ∧ Q (.int ((kvs.length : Nat) : Int)) H := by
  intro pins s σ H xs us Q I r ⟨p, kvs, e, hp, q⟩
  subst e
  obtain ⟨u, rfl, rx⟩ := vals1 r
  obtain rfl : u = .ref p := rx
  exact d_len I hp fun t s' I' => ⟨.int _, H, I', ⟨_, rfl⟩, q⟩
theorem call_len_dTr : CallR X (.builtin "len") fun xs H Q => ∃ p kvs, xs = [.ref p] ∧ Rd H p (.dT kvs) ∧ Q (.int ((kvs.length : Nat) : Int)) H := by
  intro pins s σ H xs us Q I r ⟨p, kvs, e, hp, q⟩
  subst e
  obtain ⟨u, rfl, rx⟩ := vals1 r
  obtain rfl : u = .ref p := rx
  obtain ⟨z, hd, ys, rel, dd⟩ := dt_rd I.hok hp
  have hl : kvs.length = ys.length := Paired.length rel
  refine call_len_dictH hd dd (by rw [← hl]; rw [sizeLine_eq] at z; omega) ?_
  rw [← hl]
  exact ⟨.int _, H, I.tok _, ⟨_, rfl⟩, q⟩
theorem RepK.length {K : PySem.W.Frag} {F : Hp} : ∀ {kvs : List (Key × V)} {es : List (PyData × PyData)}, RepK K F kvs es → kvs.length = es.length
  | _, _, .nil => rfl
  | _, _, .cons _ r => by rw [List.length_cons, List.length_cons, RepK.length r]
theorem RepT.length {K : PySem.W.Frag} {F : Hp} : ∀ {kvs : List (List Key × V)} {es : List (PyData × PyData)}, RepT K F kvs es → kvs.length = es.length
  | _, _, .nil => rfl
  | _, _, .cons _ r => by rw [List.length_cons, List.length_cons, RepT.length r]
theorem bi1_ok {f : D → R D} {ds : List D} {d : D} {st' : Store} (e : bi1 f ds = .ok d st') : ∃ x, ds = [x] ∧ f x = .ok d st' := by
  unfold bi1 at e
  split at e
  · exact ⟨_, rfl, e⟩
  · exact nomatch e
theorem give_ok {α : Type} {o : Option α} {d : α} {st st' : Store} (e : giveS st o = .ok d st') : o = some d ∧ st' = st := by
  cases o with
  | none => exact nomatch e
  | some x => cases e; exact ⟨rfl, rfl⟩
/-- one argument, its rule by cases -/
theorem cr_one {f : Value} {r : List V → Hp → VK → Prop} {g : Store → D → R D} (h : CallR X f r)
    (hr : ∀ (ρ : List Addr) (F H : Hp) (st : Store) (v : V) (x : D) (d : D) (st' : Store) (Q : VK), Ok X.K cl H ρ F st → Rp X.K F ρ v x → g st x = .ok d st' →
      (∀ v H' ρ' F', Step ρ F H ρ' F' H' → Ok X.K cl H' ρ' F' st' → Rp X.K F' ρ' v d → Q v H') → r [v] H Q) : CallR X f (rN X.K cl fun st => bi1 (g st)) :=
  cr_pure h fun ρ F H st vs ds d st' Q O R e q => by
    obtain ⟨x, rfl, e⟩ := bi1_ok e
    obtain ⟨v, rfl, r⟩ := R.one
    exact hr ρ F H st v x d st' Q O r e q
theorem sB_len : CallR X (.builtin "len") (rN X.K cl fun st => bi1 fun d => give st ((lenO st d).map io)) :=
  cr_one (((call_len_str.or call_len_seq).or call_len_dK).or call_len_dTr) fun ρ F H st v x d st' Q O r e q => by
    obtain ⟨e, rfl⟩ := give_ok e
    obtain ⟨n, hl, rfl⟩ := Option.map_eq_some_iff.mp e
    have q' := q _ _ _ _ .refl O (.py (.int n))
    unfold lenO at hl
    split at hl
    · split at hl
      · cases hl; obtain rfl := r.strE; exact .inl (.inl (.inl ⟨_, rfl, ‹_›, q'⟩))
      · cases hl
    · cases hl
      obtain ⟨b, rfl, ⟨kvs, h1, h2⟩ | ⟨kvs, h1, h2, _⟩⟩ := r.pyE.isDict
      · exact .inl (.inr ⟨b, kvs, rfl, O.sub _ _ h1, by rw [h2.length]; exact q'⟩)
      · exact .inr ⟨b, kvs, rfl, O.sub _ _ h1, by rw [h2.length]; exact q'⟩
    · cases r with
      | loc h =>
        split at hl
        · rename_i hs
          cases hl
          obtain ⟨u, hu, hr⟩ := O.rd h hs (by intro x; nofun)
          cases hr with | lst r => exact .inl (.inl (.inr ⟨_, _, rfl, .inl (.inl hu), by rw [r.length]; exact q'⟩))
        · rename_i hs
          cases hl
          obtain ⟨u, hu, hr⟩ := O.rd h hs (by intro x; nofun)
          cases hr with | dK r => exact .inl (.inr ⟨_, _, rfl, hu, by rw [r.length]; exact q'⟩)
        · rename_i hs
          cases hl
          obtain ⟨u, hu, hr⟩ := O.rd h hs (by intro x; nofun)
          cases hr with | dT r => exact .inr ⟨_, _, rfl, hu, by rw [r.length]; exact q'⟩
        · cases hl
    · obtain ⟨xs, h1, rfl⟩ := Option.map_eq_some_iff.mp hl
      obtain ⟨a, vs, rfl, h2, h3⟩ := asLT_ok O r h1
      exact .inl (.inl (.inr ⟨_, _, rfl, h2, by rw [h3.length]; exact q'⟩))
theorem sB_all (hc : X.calm = true) : CallR X (.builtin "all") (rN X.K cl fun st => bi1 fun d => give st ((lstB st d).map fun bs => bo (bs.all id))) :=
  cr_one (cr_all hc) fun ρ F H st v x d st' Q O r e q => by
    obtain ⟨e, rfl⟩ := give_ok e
    obtain ⟨n, hl, rfl⟩ := Option.map_eq_some_iff.mp e
    obtain ⟨a, rfl, h⟩ := lstB_ok O r hl
    exact ⟨a, n, rfl, h, q _ _ _ _ .refl O (.py (.bl _))⟩
theorem sB_any (hc : X.calm = true) : CallR X (.builtin "any") (rN X.K cl fun st => bi1 fun d => give st ((lstB st d).map fun bs => bo (bs.any id))) :=
  cr_one (cr_any hc) fun ρ F H st v x d st' Q O r e q => by
    obtain ⟨e, rfl⟩ := give_ok e
    obtain ⟨n, hl, rfl⟩ := Option.map_eq_some_iff.mp e
    obtain ⟨a, rfl, h⟩ := lstB_ok O r hl
    exact ⟨a, n, rfl, h, q _ _ _ _ .refl O (.py (.bl _))⟩
theorem sB_sum (hc : X.calm = true) : CallR X (.builtin "sum") (rN X.K cl fun st => bi1 fun d => give st ((lstI st d).map fun ns => io ns.sum)) :=
  cr_one (cr_sum hc) fun ρ F H st v x d st' Q O r e q => by
    obtain ⟨e, rfl⟩ := give_ok e
    obtain ⟨n, hl, rfl⟩ := Option.map_eq_some_iff.mp e
    obtain ⟨a, rfl, h⟩ := lstI_ok O r hl
    exact ⟨a, n, rfl, h, q _ _ _ _ .refl O (.py (.int _))⟩
theorem sB_abs : CallR X (.builtin "abs") (rN X.K cl fun st => bi1 (biAbs st)) :=
  cr_one call_abs fun ρ F H st v x d st' Q O r e q => by
    unfold biAbs at e
    split at e
    · cases e; obtain rfl := r.intE; exact ⟨_, rfl, q _ _ _ _ .refl O (.py (.int _))⟩
    · exact nomatch e
theorem call_txt (nst : PySem.W.nsIn X.K cStatics "sys.int_max_str_digits" = some none) : CallR X (.type "int") fun xs H Q => ∃ a n, xs = [.str a] ∧ PySem.intText? a = some n ∧ a.length ≤ sizeLine ∧ Q (.int n) H := by
  intro pins s σ H xs us Q I rs ⟨a, n, e, hn, hl, h⟩
  subst e
  obtain ⟨u, rfl, t, rfl⟩ := vals1 rs
  exact call_intText hl hn (fun M => PySem.W.looks_nsIn I.kIn nst) ⟨.int n, H, I.tok _, ⟨_, rfl⟩, h⟩
theorem sB_int (nst : PySem.W.nsIn X.K cStatics "sys.int_max_str_digits" = some none) : CallR X (.type "int") (rN X.K cl fun st => bi1 (biInt st)) :=
  cr_one (call_int1.or (call_txt nst)) fun ρ F H st v x d st' Q O r e q => by
    unfold biInt at e
    split at e
    · cases e; obtain rfl := r.intE; exact .inl (.inl ⟨_, rfl, q _ _ _ _ .refl O (.py (.int _))⟩)
    · cases e; obtain rfl := r.blE; exact .inl (.inr ⟨_, rfl, q _ _ _ _ .refl O (.py (.int _))⟩)
    · split at e
      · obtain ⟨e2, rfl⟩ := give_ok e
        obtain ⟨n, hl, rfl⟩ := Option.map_eq_some_iff.mp e2
        obtain rfl := r.strE
        exact .inr ⟨_, n, rfl, hl, ‹_›, q _ _ _ _ .refl O (.py (.int _))⟩
      · exact nomatch e
    · exact nomatch e
theorem sB_str : CallR X (.type "str") (rN X.K cl fun st => bi1 (biStr st)) :=
  cr_one call_str_int fun ρ F H st v x d st' Q O r e q => by
    unfold biStr at e
    split at e
    · split at e
      · cases e; obtain rfl := r.intE; exact ⟨_, rfl, ‹_›, q _ _ _ _ .refl O (.py (.str _))⟩
      · exact nomatch e
    · exact nomatch e
theorem sB_tuple : CallR X (.type "tuple") (rN X.K cl fun st => bi1 (biTuple st)) :=
  cr_one call_tuple_of fun ρ F H st v x d st' Q O r e q => by
    unfold biTuple at e
    split at e
    · cases e
      obtain ⟨a, vs, rfl, h1, h2⟩ := asT_ok O r ‹_›
      exact ⟨a, vs, rfl, .inr ⟨h1, q _ _ _ _ .refl O r⟩⟩
    · obtain ⟨e, rfl⟩ := give_ok e
      obtain ⟨n, hl, rfl⟩ := Option.map_eq_some_iff.mp e
      obtain ⟨a, vs, rfl, h1, h2⟩ := asL_ok O r hl
      refine ⟨a, vs, rfl, .inl ⟨.inl h1, fun p hp => ?_⟩⟩
      obtain ⟨S, O'⟩ := O.lay (u := .tup vs) hp
      exact q _ _ _ _ S O' (mkT_ok upd_same (h2.mono S.grow ⟨[], by simp⟩))
end
end WW

namespace WW
open PySem PySem.Spec L2
/-! ### the order of texts -/
theorem lt_irrefl : ∀ a : List Nat, ltCps a a = false
  | [] => rfl
  | a :: r => by simp [ltCps, lt_irrefl r]
theorem lt_anti : ∀ {a b : List Nat}, ltCps a b = false → ltCps b a = false → a = b
  | [], [], _, _ => rfl
  | [], _ :: _, h, _ => by simp [ltCps] at h
  | _ :: _, [], _, h => by simp [ltCps] at h
  | a :: r, b :: t, h1, h2 => by
    simp only [ltCps, Bool.or_eq_false_iff, decide_eq_false_iff_not, Bool.and_eq_false_iff, beq_eq_false_iff_ne] at h1 h2
    have e : a = b := by omega
    subst e
    rw [lt_anti (h1.2.resolve_left (by simp)) (h2.2.resolve_left (by simp))]
theorem lt_asymm : ∀ {a b : List Nat}, ltCps a b = true → ltCps b a = false
  | [], [], h => by simp [ltCps] at h
  | [], _ :: _, _ => rfl
  | _ :: _, [], h => by simp [ltCps] at h
  | a :: r, b :: t, h => by
    simp only [ltCps, Bool.or_eq_true, decide_eq_true_eq, Bool.and_eq_true, beq_iff_eq] at h
    simp only [ltCps, Bool.or_eq_false_iff, decide_eq_false_iff_not, Bool.and_eq_false_iff, beq_eq_false_iff_ne]
    rcases h with h | ⟨rfl, h⟩
    · exact ⟨by omega, .inl (by omega)⟩
    · exact ⟨by omega, .inr (lt_asymm h)⟩
theorem lt_trans' : ∀ {a b c : List Nat}, ltCps a b = true → ltCps b c = true → ltCps a c = true
  | [], [], _, h, _ => by simp [ltCps] at h
  | [], _ :: _, [], _, h => by simp [ltCps] at h
  | [], _ :: _, _ :: _, _, _ => rfl
  | _ :: _, [], _, h, _ => by simp [ltCps] at h
  | _ :: _, _ :: _, [], _, h => by simp [ltCps] at h
  | a :: r, b :: t, c :: u, h1, h2 => by
    simp only [ltCps, Bool.or_eq_true, decide_eq_true_eq, Bool.and_eq_true, beq_iff_eq] at h1 h2 ⊢
    rcases h1 with h1 | ⟨rfl, h1⟩
    · rcases h2 with h2 | ⟨rfl, h2⟩
      · exact .inl (by omega)
      · exact .inl h1
    · rcases h2 with h2 | ⟨rfl, h2⟩
      · exact .inl h2
      · exact .inr ⟨rfl, lt_trans' h1 h2⟩
theorem leS_total (x y : Str) : (leS x y || leS y x) = true := by
  unfold leS
  cases h : ltCps y.cps.toList x.cps.toList with
  | false => rfl
  | true => rw [lt_asymm h]; rfl
theorem leS_trans (x y z : Str) (h1 : leS x y = true) (h2 : leS y z = true) : leS x z = true := by
  simp only [leS, Bool.not_eq_true'] at h1 h2 ⊢
  cases h : ltCps z.cps.toList x.cps.toList with
  | false => rfl
  | true =>
    exfalso
    cases h3 : ltCps x.cps.toList y.cps.toList with
    | true => rw [lt_trans' h h3] at h2; cases h2
    | false =>
      have := lt_anti h3 h1
      rw [this] at h
      rw [h] at h2; cases h2
theorem leS_anti {x y : Str} (h1 : leS x y = true) (h2 : leS y x = true) : x = y := by
  simp only [leS, Bool.not_eq_true'] at h1 h2
  have := lt_anti h2 h1
  cases x with | mk a => cases y with | mk b => exact congrArg Str.mk (Array.toList_inj.mp this)
theorem risingS_pw : ∀ (ys : List Str) (x : Str), PyProof.Rows.risingS x ys = true → (x :: ys).Pairwise fun a b => leS a b = true
  | [], x, _ => List.pairwise_singleton _ _
  | y :: ys, x, h => by
    simp only [PyProof.Rows.risingS, Bool.and_eq_true] at h
    have ih := risingS_pw ys y h.2
    have h1 : leS x y = true := h.1
    refine List.pairwise_cons.mpr ⟨fun z hz => ?_, ih⟩
    rcases List.mem_cons.mp hz with rfl | hz
    · exact h1
    · exact leS_trans _ _ _ h1 ((List.pairwise_cons.mp ih).1 z hz)
theorem sortedS_eq {ss ys : List Str} (p : ys.Perm ss) (h : PyProof.Rows.sortedS ys = true) : ys = ssort ss := by
  have h1 : ys.Pairwise fun a b => leS a b = true := by
    cases ys with
    | nil => exact .nil
    | cons y ys => exact risingS_pw ys y h
  exact List.Perm.eq_of_pairwise (fun a b _ _ => leS_anti) h1 (List.pairwise_mergeSort leS_trans leS_total ss) (p.trans (List.mergeSort_perm ss leS).symm)
theorem sortedI_eq {ns ys : List Int} (p : ys.Perm ns) (h : ys.Pairwise (· ≤ ·)) : ys = isort ns := by
  refine List.Perm.eq_of_pairwise (le := (· ≤ ·)) (fun a b _ _ => Int.le_antisymm) h ?_ (p.trans (List.mergeSort_perm ns _).symm)
  have := List.pairwise_mergeSort (le := fun a b : Int => decide (a ≤ b)) (fun a b c h1 h2 => by simp only [decide_eq_true_eq] at *; omega) (fun a b => by simp only [Bool.or_eq_true, decide_eq_true_eq]; omega) ns
  exact this.imp fun h => of_decide_eq_true h
section
variable {X : Cx} {cl : Nat → Option Addr}
theorem keysI_eq : ∀ {ks : List Key} {ns : List Int}, keysI ks = some ns → ks = ns.map Sum.inl
  | [], _, e => by cases e; rfl
  | .inl i :: r, _, e => by
    simp only [keysI, Option.map_eq_some_iff] at e
    obtain ⟨ns, e1, rfl⟩ := e
    rw [keysI_eq e1]; rfl
  | .inr _ :: _, _, e => nomatch e
theorem keysS_eq : ∀ {ks : List Key} {ns : List Str}, keysS ks = some ns → ks = ns.map Sum.inr
  | [], _, e => by cases e; rfl
  | .inr i :: r, _, e => by
    simp only [keysS, Option.map_eq_some_iff] at e
    obtain ⟨ns, e1, rfl⟩ := e
    rw [keysS_eq e1]; rfl
  | .inl _ :: _, _, e => nomatch e
theorem ints_rps {K : PySem.W.Frag} {F : Hp} {ρ : List Addr} : ∀ ns : List Int, Rps K F ρ (ns.map V.int) (ns.map io)
  | [] => .nil
  | n :: ns => .cons (.py (.int n)) (ints_rps ns)
theorem strs_rps {K : PySem.W.Frag} {F : Hp} {ρ : List Addr} : ∀ ns : List Str, Rps K F ρ (ns.map V.str) (ns.map so)
  | [] => .nil
  | n :: ns => .cons (.py (.str n)) (strs_rps ns)
theorem asL_of_lstI {st : Store} {d : D} {xs : List D} {ns : List Int} (h : asL st d = some xs) (e : (allPy xs).bind asInts = some ns) : lstI st d = some ns := by
  unfold lstI; rw [h]; exact e
theorem sB_sorted {m : Bool} (hc : X.calm = true) : CallR X (.builtin "sorted") (rN X.K cl fun st => bi1 (biSorted m st)) :=
  cr_one (((cr_sortedI.or cr_sortedS).or (call_sortedD hc)).or (call_sortedDI hc)) fun ρ F H st v x d st' Q O r e q => by
    unfold biSorted at e
    split at e
    · rename_i xs hx
      split at e
      · rename_i ns hn
        obtain ⟨a, rfl, h⟩ := lstI_ok O r (asL_of_lstI hx hn)
        refine .inl (.inl (.inl ⟨a, ns, rfl, h, fun ns' p hp hs hn => ?_⟩))
        rw [← sortedI_eq hp hs] at e
        obtain ⟨ρ', F', S, O', R⟩ := newL_ok O (ints_rps ns') e hn
        exact q _ _ _ _ S O' R
      · split at e
        · rename_i ss hs
          split at e
          · rename_i h64
            obtain ⟨ps, h3, h4⟩ := Option.bind_eq_some_iff.mp hs
            obtain ⟨a, vs, rfl, h5, h6⟩ := asL_ok O r hx
            have h7 := strs_ok (allPy_ok h6 h3) h4
            subst h7
            refine .inl (.inl (.inr ⟨a, ss, rfl, .inl h5, h64, fun ns' p hp hs hn => ?_⟩))
            rw [← sortedS_eq hp hs] at e
            obtain ⟨ρ', F', S, O', R⟩ := newL_ok O (strs_rps ns') e hn
            exact q _ _ _ _ S O' R
          · exact nomatch e
        · exact nomatch e
    · split at e
      · rename_i ks hk
        obtain ⟨b, kvs, rfl, h1, h2⟩ := keysK_ok O r hk
        split at e
        · rename_i h64
          split at e
          · rename_i ns hn
            have hn := keysI_eq hn
            subst hn
            refine .inr ⟨b, kvs, ns, rfl, h1, h2, by rw [List.length_map] at h64; exact h64, fun ns' p hp hs hn => ?_⟩
            rw [← sortedI_eq hp hs] at e
            obtain ⟨ρ', F', S, O', R⟩ := newL_ok O (ints_rps ns') e hn
            exact q _ _ _ _ S O' R
          · split at e
            · rename_i ns hn
              have hn := keysS_eq hn
              subst hn
              refine .inl (.inr ⟨b, kvs, ns, rfl, h1, h2, by rw [List.length_map] at h64; exact h64, fun ns' p hp hs hn => ?_⟩)
              rw [← sortedS_eq hp hs] at e
              obtain ⟨ρ', F', S, O', R⟩ := newL_ok O (strs_rps ns') e hn
              exact q _ _ _ _ S O' R
            · exact nomatch e
        · exact nomatch e
      · exact nomatch e
/-! ### dict(list of pairs) -/
theorem ofPK_ok {F H : Hp} {ρ : List Addr} {st : Store} (O : Ok X.K cl H ρ F st) : ∀ {xs : List D} {vs : List V} {kvs : List (Key × D)}, Rps X.K F ρ vs xs → ofPK xs = some kvs →
    ∃ (ps : List Addr) (ws : List (Key × V)), vs = ps.map V.ref ∧ Paired (fun p kv => SqT X.K H p [kV kv.1, kv.2]) ps ws ∧ RpK X.K F ρ ws kvs
  | [], _, _, .nil, e => by cases e; exact ⟨[], [], rfl, .nil, .nil⟩
  | d :: r, _, kvs, .cons (v := v) hv hr, e => by
    unfold ofPK at e
    split at e
    · rename_i k w hk
      split at e
      · rename_i q hq
        obtain ⟨kvs', e1, rfl⟩ := Option.map_eq_some_iff.mp e
        obtain ⟨ps, ws, rfl, hp, hw⟩ := ofPK_ok O hr e1
        obtain ⟨a, us, rfl, h1, h2⟩ := asT_ok O hv hk
        obtain ⟨x, y, rfl, r1, r2⟩ := h2.two
        obtain rfl := dkey_one r1 hq
        exact ⟨a :: ps, (q, y) :: ws, rfl, .cons h1 hp, .cons r2 hw⟩
      · exact nomatch e
    · exact nomatch e
theorem ofPT_ok {F H : Hp} {ρ : List Addr} {st : Store} (O : Ok X.K cl H ρ F st) : ∀ {xs : List D} {vs : List V} {kvs : List (List Key × D)}, Rps X.K F ρ vs xs → ofPT xs = some kvs →
    ∃ (ps : List Addr) (ws : List (List Key × V)), vs = ps.map V.ref ∧ Paired (fun p kv => ∃ b, H b = some (.tup (kv.1.map kV)) ∧ SqT X.K H p [.ref b, kv.2]) ps ws ∧ RpK X.K F ρ ws kvs
  | [], _, _, .nil, e => by cases e; exact ⟨[], [], rfl, .nil, .nil⟩
  | d :: r, _, kvs, .cons (v := v) hv hr, e => by
    unfold ofPT at e
    split at e
    · rename_i k w hk
      split at e
      · rename_i q hq
        obtain ⟨kvs', e1, rfl⟩ := Option.map_eq_some_iff.mp e
        obtain ⟨ps, ws, rfl, hp, hw⟩ := ofPT_ok O hr e1
        obtain ⟨a, us, rfl, h1, h2⟩ := asT_ok O hv hk
        obtain ⟨x, y, rfl, r1, r2⟩ := h2.two
        obtain ⟨b, rfl, h3⟩ := dkey_many O r1 hq
        exact ⟨a :: ps, (q, y) :: ws, rfl, .cons ⟨b, h3, h1⟩ hp, .cons r2 hw⟩
      · exact nomatch e
    · exact nomatch e
theorem merge2 {κ : Type} [DecidableEq κ] {K : PySem.W.Frag} {F : Hp} {ρ : List Addr} : ∀ {ws : List (κ × V)} {kvs : List (κ × D)} {a : List (κ × V)} {b : List (κ × D)}, RpK K F ρ ws kvs → RpK K F ρ a b →
    RpK K F ρ (ws.foldl (fun acc kv => putK acc kv.1 kv.2) a) (kvs.foldl (fun acc kv => WW.put acc kv.1 kv.2) b)
  | [], _, _, _, .nil, r => r
  | _ :: _, _, _, _, .cons h t, r => by rw [List.foldl_cons, List.foldl_cons]; exact merge2 t (r.put _ h)
theorem frzL0 {F : Hp} {ρ : List Addr} {K : PySem.W.Frag} {v : V} {d : D} {q : PyData} (r : Rp K F ρ v d) (e : frzD (fun _ => false) [] 0 d = some q) : Rep K F v q := by
  cases r with
  | py r => rw [frzD_py] at e; cases e; exact r
  | loc _ => exact nomatch e
  | tup _ _ => exact nomatch e
theorem frzK0 {F : Hp} {ρ : List Addr} {K : PySem.W.Frag} : ∀ {vs : List (Key × V)} {ds : List (Key × D)} {qs : List (PyData × PyData)}, RpK K F ρ vs ds → toPyK (frzD (fun _ => false) [] 0) ds = some qs → RepK K F vs qs
  | _, _, _, .nil, e => by cases e; exact .nil
  | _, _, _, .cons h r, e => by
    simp only [toPyK, Option.bind_eq_some_iff, Option.map_eq_some_iff] at e
    obtain ⟨q, e1, qs, e2, rfl⟩ := e
    exact .cons (frzL0 h e1) (frzK0 r e2)
theorem sB_dict {m : Bool} (hc : X.calm = true) : CallR X (.type "dict") (rN X.K cl fun st => bi1 (biDict m st)) :=
  cr_one (call_dictP hc) fun ρ F H st v x d st' Q O r e q => by
    unfold biDict at e
    split at e
    · rename_i kvs hk
      obtain ⟨xs, h1, h2⟩ := Option.bind_eq_some_iff.mp hk
      obtain ⟨a, vs, rfl, h3, h4⟩ := asL_ok O r h1
      obtain ⟨ps, ws, rfl, h5, h6⟩ := ofPK_ok O h4 h2
      refine ⟨a, ps, ws, rfl, .inl h3, h5, fun p hp => ?_⟩
      have M := merge2 h6 (a := []) (b := []) .nil
      cases m with
      | true =>
        cases e
        obtain ⟨S, O'⟩ := O.make (u := .dK (mergeK [] ws)) (o := .dK (mergeK' kvs)) hp (.dK (M.mono (Same.refl F) ⟨[p], rfl⟩))
        refine q _ _ _ _ S O' (.loc ?_)
        rw [List.getElem?_append_right (Nat.le_of_eq O.len), O.len, Nat.sub_self]; rfl
      | false =>
        have e2 : give st ((toPyO (frzD (fun _ => false) [] 0) (.dK (mergeK' kvs))).map .py) = .ok d st' := e
        obtain ⟨e3, rfl⟩ := give_ok e2
        obtain ⟨z, hz, rfl⟩ := Option.map_eq_some_iff.mp e3
        obtain ⟨es, he, rfl⟩ := Option.map_eq_some_iff.mp hz
        obtain ⟨S, O'⟩ := O.lay (u := .dK (mergeK [] ws)) hp
        exact q _ _ _ _ S O' (.py (.dK upd_same ((frzK0 M he).mono S.grow)))
    · exact nomatch e
theorem KT.merge' {H : Hp} : ∀ {more : List (List Key × V)} {rs : List (List Key × Addr × Value)} {kvs : List (List Key × V)} {vs : List (List Key × Addr × Value)}, KT H more rs → KT H kvs vs →
    KT H (more.foldl (fun acc kv => putK acc kv.1 kv.2) kvs) (rs.foldl (fun acc p => storedH acc p.1 p.2.1 p.2.2) vs)
  | [], _, _, _, .nil, r => r
  | (k, y) :: more, _, _, _, .cons (b := (k', b, u)) h t, r => by
    obtain ⟨e, h2, h3⟩ := h
    cases (show k = k' from e)
    rw [List.foldl_cons, List.foldl_cons]
    exact KT.merge' t (r.put k h2 h3)
theorem pairsT_of {pins : List (Addr × Obj)} {σ : St} {H : Hp} {s : Shared} (I : Inv X pins σ H s) : ∀ {ps : List Addr} {kvs : List (List Key × V)}, Paired (fun p kv => ∃ b, H b = some (.tup (kv.1.map kV)) ∧ SqT X.K H p [.ref b, kv.2]) ps kvs →
    ∃ prs : List (List Key × Addr × Value), KT H kvs prs ∧ prs.length = ps.length ∧ ∀ (j : Nat) (q : List Key × Addr × Value), prs[j]? = some q → ∃ (b : Addr), ps[j]? = some b ∧ PyProof.Rows.IsTup s.heap b #[.ref q.2.1, q.2.2]
  | _, _, .nil => ⟨[], .nil, rfl, fun j q e => by simp at e⟩
  | _, _, .cons (a := p) (b := kv) h t => by
    obtain ⟨prs, r, hl, hp⟩ := pairsT_of I t
    obtain ⟨b, hb, h⟩ := h
    obtain ⟨its, rv, ht, _⟩ := I.tuple h
    obtain ⟨u, y, ei, ru, ry⟩ := vals2 rv
    subst ei
    cases (show u = Value.ref b from ru)
    refine ⟨(kv.1, b, y) :: prs, .cons ⟨rfl, hb, ry⟩ r, by rw [List.length_cons, List.length_cons, hl], fun j q e => ?_⟩
    cases j with
    | zero =>
      have e' : (kv.1, b, y) = q := Option.some.inj e
      subst e'
      exact ⟨p, rfl, ht⟩
    | succ j =>
      obtain ⟨b, e1, e2⟩ := hp j q (by simpa using e)
      exact ⟨b, by simpa using e1, e2⟩
theorem call_dictTP (hcalm : X.calm = true) (hu : X.A.units + 70 < cLine) : CallR X (.type "dict") (fun xs H Q => ∃ (a : Addr) (ps : List Addr) (kvs : List (List Key × V)), xs = [.ref a] ∧ SqL X.K H a (ps.map V.ref) ∧ Paired (fun p kv => ∃ b, H b = some (.tup (kv.1.map kV)) ∧ SqT X.K H p [.ref b, kv.2]) ps kvs ∧
    ∀ p, H p = none → Q (.ref p) (upd H p (.dT (kvs.foldl (fun acc kv => putK acc kv.1 kv.2) [])))) := by
  intro pins s σ H xs us Q I r q
  obtain ⟨a, ps, kvs, ex, hq, hp, q⟩ := q
  subst ex
  obtain ⟨u, eu, rx⟩ := vals1 r
  subst eu
  cases rx
  obtain ⟨its, rv, pl, hz⟩ := I.list hq
  have ei := refs_at rv
  subst ei
  rw [List.length_map] at hz
  obtain ⟨prs, rel, hl, hpr⟩ := pairsT_of I hp
  obtain ⟨o, n, ho, hc, hd, hdat⟩ := pl
  have keys : ∀ (h' : Heap), (∀ b o, s.heap.get? b = some o → h'.get? b = some o) → ∀ {l : List (List Key × V)} {m : List (List Key × Addr × Value)}, KT H l m → ∀ x ∈ m, (tupleKind (mixKind X.prog X.w)).is h' x.1 x.2.1 := by
    intro h' hk l m q
    induction q with
    | nil => intro x hx; exact nomatch hx
    | @cons p q ps qs hq t ih =>
      intro x hx
      have z : H q.2.1 = some (.tup (q.1.map kV)) := by rw [← hq.1]; exact hq.2.1
      rcases List.mem_cons.mp hx with e | hx
      · have := key_of I.hok z
        rw [e]
        exact PySem.tupleKind_stays.stays (fun b o vs n h _ => hk b o h) this
      · exact ih x hx
  refine call_dict_pairsH (knd := tupleKind (mixKind X.prog X.w)) (ps := prs) (PairArg.list a (ps.map Value.ref).toArray (fun j => ps.getD j 0) (prs.map fun q => (Value.ref q.2.1, q.2.2))) (I.ok.hd hcalm) (show X.A.units + 2 < cLine by omega)
    ⟨⟨o, n, ho, hc, hd, hdat⟩, by simp [hl], fun i k v e => ?_⟩ ⟨by simp, fun i k v e => ?_⟩ (fun h' hk x hx => ?_) (by simp [hl, hz]) fun h' tk hd' k => ?_
  · simp only [List.getElem?_map, Option.map_eq_some_iff] at e
    obtain ⟨q', e1, e2⟩ := e
    cases e2
    obtain ⟨b, e3, e4⟩ := hpr i q' e1
    have : ps.getD i 0 = b := by rw [List.getD_eq_getElem?_getD, e3]; rfl
    exact ⟨by simp [e3], by show PairAt _ (ps.getD i 0) _ _; rw [this]; exact .inl e4⟩
  · simp only [PairRel, List.getElem?_map, Option.map_eq_some_iff] at e
    obtain ⟨q', e1, e2⟩ := e
    cases e2
    exact ⟨q'.1, q'.2.1, e1, rfl⟩
  · exact keys h' (fun b o e => hk b o (Nat.ne_of_lt (Heap.lt_size e)) (by simp) e) rel x hx
  · have hm : (s.heap.objs.size == sysModules) = false := beq_eq_false_iff_ne.mpr (Nat.ne_of_gt I.big)
    have rel2 : KT H (kvs.foldl (fun acc kv => putK acc kv.1 kv.2) []) (storedAllH [] prs) := KT.merge' rel .nil
    have hlen : (kvs.foldl (fun acc kv => putK acc kv.1 kv.2) []).length ≤ sizeLine := by
      rw [Paired.length rel2]
      refine Nat.le_trans (storedAllH_length prs []) ?_
      rw [List.length_nil, Nat.zero_add, hl]
      exact hz
    obtain ⟨q1, es, ep, g1, g2, g3, g4, _, g5⟩ := hd'
    have fr := I.hok.fresh (Nat.le_refl s.heap.objs.size)
    refine ⟨.ref s.heap.objs.size, upd H s.heap.objs.size (.dT (kvs.foldl (fun acc kv => putK acc kv.1 kv.2) [])), I.laid (t' := tk) (fun b o e => k b o (by simp) e) (Nat.le_refl _) (show ObjOk X.prog X.w _ _ _ (.dT (kvs.foldl (fun acc kv => putK acc kv.1 kv.2) [])) from ⟨hlen, hm, _, rel2.keeps ?_, q1, es, ep, g1, g2, g3, g4, g5⟩), rfl, q _ fr⟩
    intro b ys e
    first
      | exact e
      | (rw [upd_ne (fun z => by rw [z, fr] at e; cases e)]; exact e)
theorem sB_dictT (hc : X.calm = true) (hu : X.A.units + 70 < cLine) : CallR X (.type "dict") (rN X.K cl fun st => bi1 (biDictT st)) :=
  cr_one (call_dictTP hc hu) fun ρ F H st v x d st' Q O r e q => by
    unfold biDictT at e
    split at e
    · rename_i kvs hk
      obtain ⟨xs, h1, h2⟩ := Option.bind_eq_some_iff.mp hk
      obtain ⟨a, vs, rfl, h3, h4⟩ := asL_ok O r h1
      obtain ⟨ps, ws, rfl, h5, h6⟩ := ofPT_ok O h4 h2
      refine ⟨a, ps, ws, rfl, .inl h3, h5, fun p hp => ?_⟩
      have M := merge2 h6 (a := []) (b := []) .nil
      cases e
      obtain ⟨S, O'⟩ := O.make (u := .dT (ws.foldl (fun acc kv => putK acc kv.1 kv.2) [])) (o := .dT (mergeT kvs)) hp (.dT (M.mono (Same.refl F) ⟨[p], rfl⟩))
      refine q _ _ _ _ S O' (.loc ?_)
      rw [List.getElem?_append_right (Nat.le_of_eq O.len), O.len, Nat.sub_self]; rfl
    · exact nomatch e
end
end WW

namespace WW
open PySem PySem.Spec L2
section
variable {X : Cx} {cl : Nat → Option Addr}
theorem call_repr (hg : X.A.guards = some []) (hu : X.A.units + 70 < cLine) : CallR X (.builtin "repr") fun xs H Q => ∃ v p, xs = [v] ∧ View X.K H v p ∧ showOk p = true ∧ Q (.str p.shown) H := by
  intro pins s σ H xs us Q I rs ⟨v, p, e, hv, hs, q⟩
  subst e
  obtain ⟨u, rfl, ru⟩ := vals1 rs
  obtain ⟨as, r, hn⟩ := hv.reads I ru
  simp only [showOk, Bool.and_eq_true, Bool.or_eq_true, Bool.not_eq_true', decide_eq_true_eq] at hs
  obtain ⟨⟨⟨h1, h2⟩, h3⟩, h4⟩ := hs
  have hsm : p.hasDict = true → sysModules ∉ as := fun z => by
    rcases h1 with h1 | h1
    · rw [h1] at z; cases z
    · exact hn h1
  have viaRef : ∀ a, u = .ref a → wpAny (model X.prog X.w) X.A (call (.builtin "repr") [u]) (EP X pins σ Q) X.xe s := fun a ea => by
    subst ea
    exact repr_of_reads' r h2 hsm hg (by omega) (fun _ _ e => e) (fun h' u tk hk => ⟨.str p.shown, H, I.kept hk, ⟨_, rfl⟩, q⟩) h4
  cases r with
  | none => exact PySem.P.repr_of_none ⟨.str "None", H, I.tok _, ⟨_, rfl⟩, by simpa only [PyData.shown] using q⟩
  | bool b => exact PySem.P.repr_of_bool ⟨.str (if b then "True" else "False"), H, I.tok _, ⟨_, rfl⟩, by simpa only [PyData.shown] using q⟩
  | int i t => exact PySem.P.repr_of_int (by simpa [PyData.showable] using h2) ⟨.str (toString i), H, I.tok _, ⟨_, rfl⟩, by simpa only [PyData.shown] using q⟩
  | str x t => exact PySem.P.repr_of_str ⟨.str (reprText x), H, I.tok _, ⟨_, rfl⟩, by simpa only [PyData.shown] using q⟩ (by simpa only [PyData.shown] using h4)
  | list => exact viaRef _ rfl
  | tuple => exact viaRef _ rfl
  | dict => exact viaRef _ rfl
theorem sB_repr (hg : X.A.guards = some []) (hu : X.A.units + 70 < cLine) : CallR X (.builtin "repr") (rN X.K cl fun st => bi1 (biRepr st)) :=
  cr_one (call_repr hg hu) fun ρ F H st v x d st' Q O r e q => by
    unfold biRepr at e
    split at e
    · split at e
      · cases e; exact ⟨v, _, rfl, toPy_ok O _ _ _ _ r ‹_›, ‹_›, q _ _ _ _ .refl O (.py (.str _))⟩
      · exact nomatch e
    · exact nomatch e
theorem call_list_chars (hc : X.calm = true) : CallR X (.type "list") (fun xs H Q => ∃ x, xs = [.str x] ∧ x.length ≤ sizeLine ∧ ∀ l, H l = none → Q (.ref l) (upd H l (.lst (x.cps.toList.map fun c => V.str ⟨#[c]⟩)))) := by
  intro pins s σ H xs us Q I r h
  obtain ⟨x, rfl, hx, q⟩ := h
  obtain ⟨u, rfl, t, rfl⟩ := vals1 r
  refine PySem.call_list_str (I.ok.hd hc) x t (hn := hx) fun h' tk acc' c' hk hS' hacc => ?_
  have hv : Vals (x.cps.toList.map fun c => V.str ⟨#[c]⟩) acc'.toList := by
    refine vals_of_at (by rw [List.length_map, Array.length_toList, Array.length_toList, hacc.1]) fun j y u h1 h2 => ?_
    rw [Array.getElem?_toList] at h2
    obtain ⟨c, t, hc, rfl⟩ := hacc.2 j u h2
    rw [List.getElem?_map, Array.getElem?_toList, hc] at h1
    cases h1
    exact ⟨t, rfl⟩
  exact ⟨.ref s.heap.objs.size, _, I.laid (t' := tk) hk (Nat.le_refl _) (show ObjOk X.prog X.w _ h' _ (.lst (x.cps.toList.map fun c => V.str ⟨#[c]⟩)) from ⟨by rw [List.length_map, Array.length_toList]; exact hx, acc'.toList, c', hv, hS'⟩), rfl, q _ (I.hok.fresh (Nat.le_refl _))⟩
theorem chars_rps {K : PySem.W.Frag} {F : Hp} {ρ : List Addr} : ∀ ns : List Nat, Rps K F ρ (ns.map fun c => V.str ⟨#[c]⟩) (ns.map fun c => so ⟨#[c]⟩)
  | [] => .nil
  | n :: ns => .cons (.py (.str _)) (chars_rps ns)
theorem sB_list {m : Bool} (hc : X.calm = true) : CallR X (.type "list") (rN X.K cl fun st => bi1 (biList m st)) :=
  cr_one (call_list_of.or (call_list_chars hc)) fun ρ F H st v x d st' Q O r e q => by
    unfold biList at e
    split at e
    · split at e
      · rename_i hz
        obtain rfl := r.strE
        refine .inr ⟨_, rfl, hz, fun p hp => ?_⟩
        obtain ⟨ρ', F', S, O', R⟩ := newL_ok O (chars_rps _) e hp
        exact q _ _ _ _ S O' R
      · exact nomatch e
    · split at e
      · obtain ⟨a, vs, rfl, h1, h2⟩ := asLT_ok O r ‹_›
        refine .inl ⟨a, vs, rfl, h1, fun p hp => ?_⟩
        obtain ⟨ρ', F', S, O', R⟩ := newL_ok O h2 e hp
        exact q _ _ _ _ S O' R
      · exact nomatch e
theorem foldl_max_mem : ∀ (xs : List Int) (x : Int), xs.foldl max x ∈ x :: xs ∧ ∀ y ∈ x :: xs, y ≤ xs.foldl max x
  | [], x => by simp
  | z :: xs, x => by
    obtain ⟨h1, h2⟩ := foldl_max_mem xs (max x z)
    simp only [List.foldl_cons]
    refine ⟨?_, fun y hy => ?_⟩
    · rcases List.mem_cons.mp h1 with h | h
      · rcases Int.le_total x z with q | q
        · rw [h, Int.max_eq_right q]; simp
        · rw [h, Int.max_eq_left q]; simp
      · simp [h]
    · have h3 := h2 (max x z) (by simp)
      rcases List.mem_cons.mp hy with rfl | hy
      · omega
      · rcases List.mem_cons.mp hy with rfl | hy
        · omega
        · exact h2 y (by simp [hy])
theorem foldl_min_mem : ∀ (xs : List Int) (x : Int), xs.foldl min x ∈ x :: xs ∧ ∀ y ∈ x :: xs, xs.foldl min x ≤ y
  | [], x => by simp
  | z :: xs, x => by
    obtain ⟨h1, h2⟩ := foldl_min_mem xs (min x z)
    simp only [List.foldl_cons]
    refine ⟨?_, fun y hy => ?_⟩
    · rcases List.mem_cons.mp h1 with h | h
      · rcases Int.le_total x z with q | q
        · rw [h, Int.min_eq_left q]; simp
        · rw [h, Int.min_eq_right q]; simp
      · simp [h]
    · have h3 := h2 (min x z) (by simp)
      rcases List.mem_cons.mp hy with rfl | hy
      · omega
      · rcases List.mem_cons.mp hy with rfl | hy
        · omega
        · exact h2 y (by simp [hy])
theorem sB_max (hc : X.calm = true) : CallR X (.builtin "max") (rN X.K cl biMax) :=
  cr_pure ((call_max2 hc).or (cr_max hc)) fun ρ F H st vs ds d st' Q O R e q => by
    unfold biMax at e
    split at e
    · cases e
      obtain ⟨v, w, rfl, r1, r2⟩ := R.two
      obtain rfl := r1.intE; obtain rfl := r2.intE
      exact .inl ⟨_, _, rfl, q _ _ _ _ .refl O (.py (.int _))⟩
    · obtain ⟨v, rfl, r⟩ := R.one
      obtain ⟨e2, rfl⟩ := give_ok e
      obtain ⟨n, h1, rfl⟩ := Option.map_eq_some_iff.mp e2
      obtain ⟨ns, h2, h3⟩ := Option.bind_eq_some_iff.mp h1
      obtain ⟨a, rfl, h4⟩ := lstI_ok O r h2
      cases ns with
      | nil => cases h3
      | cons x xs =>
        cases h3
        refine .inr ⟨a, x :: xs, rfl, h4, by simp, fun k hk hm => ?_⟩
        obtain ⟨g1, g2⟩ := foldl_max_mem xs x
        have : k = xs.foldl max x := Int.le_antisymm (g2 k hk) (hm _ g1)
        rw [this]
        exact q _ _ _ _ .refl O (.py (.int _))
    · exact nomatch e
theorem sB_min (hc : X.calm = true) : CallR X (.builtin "min") (rN X.K cl biMin) :=
  cr_pure ((call_min2 hc).or (cr_min hc)) fun ρ F H st vs ds d st' Q O R e q => by
    unfold biMin at e
    split at e
    · cases e
      obtain ⟨v, w, rfl, r1, r2⟩ := R.two
      obtain rfl := r1.intE; obtain rfl := r2.intE
      exact .inl ⟨_, _, rfl, q _ _ _ _ .refl O (.py (.int _))⟩
    · obtain ⟨v, rfl, r⟩ := R.one
      obtain ⟨e2, rfl⟩ := give_ok e
      obtain ⟨n, h1, rfl⟩ := Option.map_eq_some_iff.mp e2
      obtain ⟨ns, h2, h3⟩ := Option.bind_eq_some_iff.mp h1
      obtain ⟨a, rfl, h4⟩ := lstI_ok O r h2
      cases ns with
      | nil => cases h3
      | cons x xs =>
        cases h3
        refine .inr ⟨a, x :: xs, rfl, h4, by simp, fun k hk hm => ?_⟩
        obtain ⟨g1, g2⟩ := foldl_min_mem xs x
        have : k = xs.foldl min x := Int.le_antisymm (hm _ g1) (g2 k hk)
        rw [this]
        exact q _ _ _ _ .refl O (.py (.int _))
    · exact nomatch e
/-- a builtin's rule; which of them are -/
def biOk : Bi → Bool
  | .tupR | .lstR | .sset => false
  | _ => true
def biId : Bi → Value
  | .len => .builtin "len" | .all => .builtin "all" | .any => .builtin "any" | .abs => .builtin "abs" | .int => .type "int" | .str => .type "str" | .repr => .builtin "repr"
  | .tuple => .type "tuple" | .list => .type "list" | .max => .builtin "max" | .min => .builtin "min" | .sum => .builtin "sum" | .sorted => .builtin "sorted" | .dict => .type "dict" | .dictT => .type "dict" | .tupR => .type "tuple" | .lstR => .type "list" | .sset => .builtin "sorted"
theorem sB_all_of {b : Bi} {m : Bool} (h : biOk b = true) (hc : X.calm = true) (hg : X.A.guards = some []) (hu : X.A.units + 70 < cLine) (nst : PySem.W.nsIn X.K cStatics "sys.int_max_str_digits" = some none) :
    CallR X (biId b) (rN X.K cl (biO b m)) := by
  cases b with
  | len => exact sB_len
  | all => exact sB_all hc
  | any => exact sB_any hc
  | abs => exact sB_abs
  | int => exact sB_int nst
  | str => exact sB_str
  | repr => exact sB_repr hg hu
  | tuple => exact sB_tuple
  | list => exact sB_list hc
  | max => exact sB_max hc
  | min => exact sB_min hc
  | sum => exact sB_sum hc
  | sorted => exact sB_sorted hc
  | dict => exact sB_dict hc
  | dictT => exact sB_dictT hc hu
  | tupR => cases h
  | lstR => cases h
  | sset => cases h
theorem noExc_bi1 {f : D → R D} (h : ∀ d, NoExc (f d)) (ds : List D) : NoExc (bi1 f ds) := by
  unfold bi1
  split
  · exact h _
  · exact fun _ _ _ h => nomatch h
theorem noExc_ok {α : Type} (a : α) (st : Store) : NoExc (R.ok a st) := fun _ _ _ h => nomatch h
theorem noExc_stuck {α : Type} : NoExc (R.stuck : R α) := fun _ _ _ h => nomatch h
theorem noExc_bi (b : Bi) (m : Bool) (st : Store) (ds : List D) : NoExc (biO b m st ds) := by
  cases b <;> simp only [biO]
  case len => exact noExc_bi1 (fun _ => noExc_give _ _) _
  case all => exact noExc_bi1 (fun _ => noExc_give _ _) _
  case any => exact noExc_bi1 (fun _ => noExc_give _ _) _
  case sum => exact noExc_bi1 (fun _ => noExc_give _ _) _
  case abs => exact noExc_bi1 (fun _ => by unfold biAbs; split <;> first | exact noExc_ok _ _ | exact noExc_stuck) _
  case int => exact noExc_bi1 (fun _ => by unfold biInt; (repeat' split) <;> first | exact noExc_ok _ _ | exact noExc_stuck | exact noExc_give _ _) _
  case str => exact noExc_bi1 (fun _ => by unfold biStr; (repeat' split) <;> first | exact noExc_ok _ _ | exact noExc_stuck) _
  case repr => exact noExc_bi1 (fun _ => by unfold biRepr; (repeat' split) <;> first | exact noExc_ok _ _ | exact noExc_stuck) _
  case tuple => exact noExc_bi1 (fun _ => by unfold biTuple; split <;> first | exact noExc_ok _ _ | exact noExc_give _ _) _
  case list => exact noExc_bi1 (fun _ => by unfold biList; (repeat' split) <;> first | exact noExc_newL _ _ _ | exact noExc_stuck) _
  case max => unfold biMax; split <;> first | exact noExc_ok _ _ | exact noExc_stuck | exact noExc_give _ _
  case min => unfold biMin; split <;> first | exact noExc_ok _ _ | exact noExc_stuck | exact noExc_give _ _
  case sorted => exact noExc_bi1 (fun _ => by unfold biSorted; (repeat' split) <;> first | exact noExc_newL _ _ _ | exact noExc_stuck) _
  case dict => exact noExc_bi1 (fun _ => by unfold biDict; (repeat' split) <;> first | exact noExc_ok _ _ | exact noExc_stuck | exact noExc_give _ _) _
  case dictT => exact noExc_bi1 (fun _ => by unfold biDictT; (repeat' split) <;> first | exact noExc_ok _ _ | exact noExc_stuck) _
  case tupR => unfold biTupR; (repeat' split) <;> first | exact noExc_ok _ _ | exact noExc_stuck
  case lstR => unfold biLstR; (repeat' split) <;> first | exact noExc_newL _ _ _ | exact noExc_stuck
  case sset => exact noExc_stuck
end
end WW

namespace WW
open PySem PySem.Spec L2
/-! ### a thing that is being made -/
section
variable {K : PySem.W.Frag} {cl : Nat → Option Addr} {F F1 H H0 H1 : Hp} {ρ ρ0 ρ1 : List Addr} {F0 : Hp} {st : Store} {p : Addr} {u : HO}
theorem Step.poke (S : Step ρ F H0 ρ1 F1 H1) (hp : H0 p = none) : Step ρ F H0 ρ1 F1 (upd H1 p u) where
  more := S.more
  grow := S.grow
  fresh := fun a h1 h2 h3 => by
    have : a ≠ p := fun z => h2 (by rw [z]; exact hp)
    rw [upd_ne this]; exact S.fresh a h1 h2 h3
  keep := fun a o h1 h2 => by
    have : a ≠ p := fun z => by rw [z, hp] at h1; cases h1
    rw [upd_ne this]; exact S.keep a o h1 h2
  dom := fun a h => by
    by_cases z : a = p
    · rw [z, upd_same]; simp
    · rw [upd_ne z]; exact S.dom a h
  frzs := fun a ob w h => by
    have : a ≠ p := fun z => by rw [z, hp] at h; cases h
    rw [upd_ne this]; exact S.frzs a ob w h
theorem Ok.poke (O : Ok K cl H ρ F st) (hF : F p = none) (hρ : p ∉ ρ) : Ok K cl (upd H p u) ρ F st where
  sub' := fun a w e => by rw [upd_ne (ne_of_none e hF)]; exact O.sub' a w e
  nf := O.nf
  len := O.len
  nd := O.nd
  free := O.free
  obj := fun n a o h1 h2 => by rw [upd_ne fun z => hρ (by rw [← z]; exact List.mem_of_getElem? h1)]; exact O.obj n a o h1 h2
theorem Ok.layAt (S : Step ρ0 F0 H0 ρ F H) (O : Ok K cl H ρ F st) (h0 : H0 p = none) (hF : F p = none) (hρ : p ∉ ρ) (hp : H p = some u) (hu : ∀ ob w, u ≠ .frz ob w := by intros; nofun) :
    Step ρ0 F0 H0 ρ (upd F p u) H ∧ Ok K cl H ρ (upd F p u) st ∧ Same F (upd F p u) := by
  have sF : Same F (upd F p u) := fun b o e => by rw [upd_ne (ne_of_none e hF)]; exact e
  refine ⟨⟨S.more, S.grow.trans sF, fun a h1 h2 h3 => ?_, S.keep, S.dom, S.frzs⟩, ⟨fun b o e => ?_, fun b ob w e => ?_, O.len, O.nd, fun a ha => ?_, fun n a o e1 e2 => ?_⟩, sF⟩
  · have : a ≠ p := fun z => h2 (by rw [z]; exact h0)
    rw [upd_ne this]; exact S.fresh a h1 h2 h3
  · by_cases z : b = p
    · subst z; rw [upd_same] at e; cases e; exact .inl hp
    · rw [upd_ne z] at e; exact O.sub' b o e
  · by_cases z : b = p
    · subst z; rw [upd_same] at e; exact hu ob w (Option.some.inj e)
    · rw [upd_ne z] at e; exact O.nf b ob w e
  · rw [upd_ne fun z => hρ (by rw [← z]; exact ha)]; exact O.free a ha
  · obtain ⟨w, hw, r⟩ := O.obj n a o e1 e2
    exact ⟨w, hw, r.mono sF ⟨[], by simp⟩⟩
theorem Ok.makeAt {o : SO} (S : Step ρ0 F0 H0 ρ F H) (O : Ok K cl H ρ F st) (h0 : H0 p = none) (hF : F p = none) (hρ : p ∉ ρ) (hp : H p = some u) (r : ObjR K cl F (ρ ++ [p]) u o) :
    Step ρ0 F0 H0 (ρ ++ [p]) F H ∧ Ok K cl H (ρ ++ [p]) F (st ++ [o]) := by
  obtain ⟨m, e, n⟩ := S.more
  refine ⟨⟨⟨m ++ [p], by rw [e, List.append_assoc], fun a ha => ?_⟩, S.grow, S.fresh, S.keep, S.dom, S.frzs⟩, ⟨O.sub', O.nf, by rw [List.length_append, List.length_append, O.len]; rfl, ?_, fun a ha => ?_, fun n a w e1 e2 => ?_⟩⟩
  · rcases List.mem_append.mp ha with q | q
    · exact n a q
    · rw [List.mem_singleton.mp q]; exact h0
  · rw [List.nodup_append]
    exact ⟨O.nd, by simp, fun a ha b hb => by rw [List.mem_singleton.mp hb]; exact fun z => hρ (by rw [← z]; exact ha)⟩
  · rcases List.mem_append.mp ha with q | q
    · exact O.free a q
    · rw [List.mem_singleton.mp q]; exact hF
  · by_cases hn : n < ρ.length
    · rw [List.getElem?_append_left hn] at e1
      rw [List.getElem?_append_left (by rw [← O.len]; exact hn)] at e2
      obtain ⟨w2, hw, r2⟩ := O.obj n a w e1 e2
      exact ⟨w2, hw, r2.mono (Same.refl F) ⟨[p], rfl⟩⟩
    · have h1 : n < (ρ ++ [p]).length := (List.getElem?_eq_some_iff.mp e1).1
      rw [List.length_append, List.length_singleton] at h1
      have h2 : n = ρ.length := by omega
      subst h2
      rw [List.getElem?_append_right (Nat.le_refl _), Nat.sub_self] at e1
      rw [O.len, List.getElem?_append_right (Nat.le_refl _), Nat.sub_self] at e2
      cases e1; cases e2
      exact ⟨u, hp, r⟩
/-- it is there, and nobody's -/
theorem Ok.extra (O : Ok K cl H ρ F st) (hp : H p = none) : Step ρ F H ρ F (upd H p u) ∧ Ok K cl (upd H p u) ρ F st ∧ F p = none ∧ p ∉ ρ :=
  ⟨Step.refl.poke hp, O.poke (O.fnone hp) (fun z => O.nin hp p z rfl), O.fnone hp, fun z => O.nin hp p z rfl⟩
theorem Step.still (S : Step ρ F H ρ1 F1 H1) (hH : H p = some u) (ht : isTup (some u) = false) (hF : F p = none) (hρ : p ∉ ρ) : H1 p = some u ∧ F1 p = none ∧ p ∉ ρ1 := by
  refine ⟨S.keep p u hH hρ, (S.fresh p hF (by rw [hH]; simp) (by rw [hH]; exact ht)).1, fun z => ?_⟩
  obtain ⟨m, e, n⟩ := S.more
  rw [e] at z
  rcases List.mem_append.mp z with q | q
  · exact hρ q
  · rw [n p q] at hH; cases hH
/-- a list that was made there -/
theorem newAt_ok {m : Bool} {xs : List D} {vs : List V} {d : D} {st' : Store} (S : Step ρ0 F0 H0 ρ F H) (O : Ok K cl H ρ F st) (h0 : H0 p = none) (hF : F p = none) (hρ : p ∉ ρ) (hp : H p = some (.lst vs)) (r : Rps K F ρ vs xs) (e : newL m xs st = .ok d st') :
    ∃ ρ' F', Step ρ0 F0 H0 ρ' F' H ∧ Ok K cl H ρ' F' st' ∧ Rp K F' ρ' (.ref p) d := by
  cases m with
  | true =>
    cases e
    obtain ⟨S', O'⟩ := Ok.makeAt (o := .lst xs) S O h0 hF hρ hp (.lst (r.mono (Same.refl F) ⟨[p], rfl⟩))
    refine ⟨_, _, S', O', .loc ?_⟩
    rw [List.getElem?_append_right (Nat.le_of_eq O.len), O.len, Nat.sub_self]; rfl
  | false =>
    simp only [newL] at e
    cases h : allPy xs with
    | none => rw [h] at e; exact nomatch e
    | some ps =>
      rw [h] at e
      cases e
      rw [allPy_eq h] at r
      obtain ⟨S', O', sF⟩ := Ok.layAt S O h0 hF hρ hp
      exact ⟨_, _, S', O', .py (.lst upd_same (r.reps.mono sF))⟩
end
/-! ### expressions -/
section
variable {X : Cx} {cl : Nat → Option Addr} {W : WX} {Φ : Nat → Fn}
/-- the rule is chosen by what is known -/
theorem choosePE {e : Expr} {t : TE} (h : ∀ σ H Q, t σ H Q → ∃ t', PE X e t' ∧ t' σ H Q) : PE X e t :=
  ⟨fun pins s σ H Q I q => let ⟨_, h1, h2⟩ := h σ H Q q; h1.run pins s σ H Q I h2⟩
theorem choosePT {e : Expr} {t : TT} (h : ∀ σ H Q, t σ H Q → ∃ t', PT X e t' ∧ t' σ H Q) : PT X e t :=
  ⟨fun pins s σ H Q I q => let ⟨_, h1, h2⟩ := h σ H Q q; h1.run pins s σ H Q I h2⟩
/-- what gives a thing, nothing done -/
theorem tE_pure {c : CE} {d : Env → D} (h : ∀ env st, ev Φ c env st = .ok (d env) st) {σ : St} {H : Hp} {Q : VK} (q : tE X.K cl W Φ c σ H Q) :
    ∃ ρ F st env, Ok X.K cl H ρ F st ∧ EnvR X.K F ρ σ env ∧ ∀ v, Rp X.K F ρ v (d env) → Q v H := by
  obtain ⟨ρ, F, st, env, O, E, q⟩ := q
  rw [h] at q
  exact ⟨ρ, F, st, env, O, E, fun v r => q v H ρ F .refl O r⟩
theorem sE_non {j pos} : PE X (.Constant .none j pos) (tE X.K cl W Φ (.con .none)) :=
  weakPE pe_non fun σ H Q q => let ⟨_, _, _, _, _, _, h⟩ := tE_pure (d := fun _ => .py .none) (fun _ _ => rfl) q; h _ (.py .non)
theorem sE_bool {b j pos} : PE X (.Constant (.bool b) j pos) (tE X.K cl W Φ (.con (.bool b))) :=
  weakPE pe_bl fun σ H Q q => let ⟨_, _, _, _, _, _, h⟩ := tE_pure (d := fun _ => .py (.bool b)) (fun _ _ => rfl) q; h _ (.py (.bl _))
theorem sE_int {b j pos} : PE X (.Constant (.int b) j pos) (tE X.K cl W Φ (.con (.int b))) :=
  weakPE pe_int fun σ H Q q => let ⟨_, _, _, _, _, _, h⟩ := tE_pure (d := fun _ => .py (.int b)) (fun _ _ => rfl) q; h _ (.py (.int _))
theorem sE_str {b j pos} : PE X (.Constant (.str b) j pos) (tE X.K cl W Φ (.con (.str b))) :=
  weakPE pe_str fun σ H Q q => let ⟨_, _, _, _, _, _, h⟩ := tE_pure (d := fun _ => .py (.str b)) (fun _ _ => rfl) q; h _ (.py (.str _))
theorem sE_glob {x : Str} {pos : Pos} {d : PyData} (hg : Gl X x) (hd : (x == ("__debug__" : Str)) = false) (h : GlobOk X cl Φ x (.con d)) : PE X (.Name x pos) (tE X.K cl W Φ (.con d)) := by
  obtain ⟨v, u, h1, h2, h3⟩ := h
  exact weakPE (pe_glob hg h1 h2 hd) fun σ H Q q => let ⟨_, _, _, _, _, _, h⟩ := tE_pure (d := fun _ => .py d) (fun _ _ => rfl) q; h _ (.py (h3 _))
theorem sE_var {i : Nat} {x : Str} {pos : Pos} (hN : X.N[i]? = some x) (hv : Vis X.env.scope x) (hd : (x == ("__debug__" : Str)) = false) (hcd : (x == ("__classdict__" : Str)) = false) : PE X (.Name x pos) (tE X.K cl W Φ (.var i)) :=
  weakPE (pe_var hN hv hd hcd) fun σ H Q ⟨ρ, F, st, env, O, E, q⟩ => by
    rw [ev] at q
    split at q
    · rename_i d h
      obtain ⟨v, h1, h2⟩ := E.at' i d h
      exact ⟨v, h1, q v H ρ F .refl O h2⟩
    · exact q.elim
theorem sE_un {a : Expr} {pos : Pos} {ca : CE} (ha : PE X a (tE X.K cl W Φ ca)) : PE X (.UnaryOp .USub a pos) (tE X.K cl W Φ (.un .USub ca)) :=
  weakPE (pe_un un_neg ha) fun σ H Q h => tG_imp (tG_bind (fun _ _ => rfl) h) fun x H1 ⟨ρ1, F1, st1, env, d1, O1, E1, R1, p1⟩ => by
    obtain ⟨d, st', e, q⟩ := post_ok (noExc_give _ _) p1
    obtain ⟨e, rfl⟩ := give_ok e
    unfold unO at e
    split at e
    · cases e; obtain rfl := R1.intE; exact ⟨_, rfl, q _ _ _ _ .refl O1 (.py (.int _))⟩
    · cases e
theorem sE_nt {a : Expr} {pos : Pos} {ca : CE} (ha : PE X a (tE X.K cl W Φ ca)) : PE X (.UnaryOp .Not a pos) (tE X.K cl W Φ (.nt ca)) :=
  weakPE (pe_notT ha) fun σ H Q h => tG_imp (tG_bind (fun _ _ => rfl) h) fun x H1 ⟨ρ1, F1, st1, env, d1, O1, E1, R1, p1⟩ => by
    split at p1
    · rename_i b hb
      exact ⟨b, tru_of O1 R1 hb, p1 _ _ _ _ .refl O1 (.py (.bl _))⟩
    · exact p1.elim
theorem sE_and {a b : Expr} {rest : List Expr} {pos : Pos} {ca cb : CE} (ha : PE X a (tE X.K cl W Φ ca)) (hb : PE X (.BoolOp .And (b :: rest) pos) (tE X.K cl W Φ cb)) : PE X (.BoolOp .And (a :: b :: rest) pos) (tE X.K cl W Φ (.and ca cb)) :=
  weakPE (pe_andT ha hb) fun σ H Q h => tG_imp (tG_bind (fun _ _ => rfl) h) fun x H1 ⟨ρ1, F1, st1, env, d1, O1, E1, R1, p1⟩ => by
    split at p1
    · exact ⟨true, tru_of O1 R1 ‹_›, by rw [if_pos rfl]; exact ⟨ρ1, F1, st1, env, O1, E1, p1⟩⟩
    · exact ⟨false, tru_of O1 R1 ‹_›, by rw [if_neg (by simp)]; exact p1 _ _ _ _ .refl O1 R1⟩
    · exact p1.elim
theorem sE_or {a b : Expr} {rest : List Expr} {pos : Pos} {ca cb : CE} (ha : PE X a (tE X.K cl W Φ ca)) (hb : PE X (.BoolOp .Or (b :: rest) pos) (tE X.K cl W Φ cb)) : PE X (.BoolOp .Or (a :: b :: rest) pos) (tE X.K cl W Φ (.or ca cb)) :=
  weakPE (pe_orT ha hb) fun σ H Q h => tG_imp (tG_bind (fun _ _ => rfl) h) fun x H1 ⟨ρ1, F1, st1, env, d1, O1, E1, R1, p1⟩ => by
    split at p1
    · exact ⟨true, tru_of O1 R1 ‹_›, by rw [if_pos rfl]; exact p1 _ _ _ _ .refl O1 R1⟩
    · exact ⟨false, tru_of O1 R1 ‹_›, by rw [if_neg (by simp)]; exact ⟨ρ1, F1, st1, env, O1, E1, p1⟩⟩
    · exact p1.elim
theorem sE_ite {c a b : Expr} {pos : Pos} {cc ca cb : CE} (hc : PT X c (tTs X.K cl W Φ cc)) (ha : PE X a (tE X.K cl W Φ ca)) (hb : PE X b (tE X.K cl W Φ cb)) : PE X (.IfExp c a b pos) (tE X.K cl W Φ (.ite cc ca cb)) :=
  weakPE (pe_ifExp hc ha hb) fun σ H Q h => tG_imp (tG_bind (fun _ _ => rfl) h) fun x H1 ⟨ρ1, F1, st1, env, d1, O1, E1, R1, p1⟩ => by
    cases R1
    cases x with
    | true => rw [if_pos rfl]; exact ⟨ρ1, F1, st1, env, O1, E1, p1⟩
    | false => rw [if_neg (by simp)]; exact ⟨ρ1, F1, st1, env, O1, E1, p1⟩
theorem sE_chn {a b c : Expr} {op op' : CmpOp} {pos : Pos} {ca cb cc : CE} (hu : X.A.units + 70 < cLine) (ha : PE X a (tE X.K cl W Φ ca)) (hb : PE X b (tE X.K cl W Φ cb)) (hc : PE X c (tE X.K cl W Φ cc)) (hm : lastMarks [op, op'] [b, c] = false) :
    PE X (.Compare a [op, op'] [b, c] pos) (tE X.K cl W Φ (.chn op op' ca cb cc)) :=
  weakPE (pe_chain (sO_cmp hu) (sO_cmp hu) ha hb hc hm) fun σ H Q h => tG_imp (tG_bind (fun _ _ => rfl) h) fun x H1 ⟨ρ1, F1, st1, env, d1, O1, E1, R1, p1⟩ =>
    ⟨ρ1, F1, st1, env, O1, E1, p1.bind.imp fun y H2 ⟨ρ2, F2, st2, d2, S2, O2, R2, p2⟩ => by
      split at p2
      · rename_i hk
        refine ⟨ρ2, F2, st2, d1, d2, O2, R1.step S2, R2, bo true, st2, by simp only [hk]; rfl, fun v H' ρ' F' S' O' R' => ⟨true, R'.blE, ?_⟩⟩
        rw [if_pos rfl]
        refine ⟨ρ', F', st2, env, O', (E1.step S2).step S', ?_⟩
        refine (Post.shift S' p2).bind.imp fun z H3 ⟨ρ3, F3, st3, d3, S3, O3, R3, p3⟩ => ⟨ρ3, F3, st3, d2, d3, O3, (R2.step S').step S3, R3, post_ok (noExc_give _ _) p3⟩
      · rename_i hk
        refine ⟨ρ2, F2, st2, d1, d2, O2, R1.step S2, R2, bo false, st2, by simp only [hk]; rfl, fun v H' ρ' F' S' O' R' => ⟨false, R'.blE, ?_⟩⟩
        rw [if_neg (by simp)]
        exact p2 _ _ _ _ S' O' (.py (.bl _))
      · exact p2.elim⟩
end
end WW

namespace WW
open PySem PySem.Spec L2
section
variable {X : Cx} {cl : Nat → Option Addr} {W : WX} {Φ : Nat → Fn}
/-! ### arguments -/
def notStar : Expr → Bool
  | .Starred _ _ => false
  | _ => true
theorem starEach_plain {e : Expr} {es : List Expr} {env : PySem.Env} (h : notStar e = true) : starEach (e :: es) env = (false, eval e env) :: starEach es env := by
  cases e <;> first | rfl | exact nomatch h
theorem backTo_plain {pos : Pos} {env : PySem.Env} : ∀ {es : List Expr}, es.all notStar = true → (backTo pos (starEach es env)).any (·.1) = false
  | [], _ => rfl
  | e :: es, h => by
    rw [List.all_cons, Bool.and_eq_true] at h
    rw [starEach_plain h.1]
    show (false || (backTo pos (starEach es env)).any (·.1)) = false
    rw [backTo_plain h.2]; rfl
theorem sA_nil : PA X [] (tEs X.K cl W Φ .nil) :=
  weakPA pa_nil fun σ H Q ⟨ρ, F, st, env, O, E, q⟩ => by
    rw [evs] at q
    exact q [] H ρ F .refl O .nil
theorem sA_cons {e : Expr} {es : List Expr} {ca cas : CE} (hs : notStar e = true) (ha : PE X e (tE X.K cl W Φ ca)) (hr : PA X es (tEs X.K cl W Φ cas)) : PA X (e :: es) (tEs X.K cl W Φ (.cons ca cas)) :=
  weakPA (pa_cons ha hr (starEach_plain hs)) fun σ H Q h => tG_imp (tG_bind (fun _ _ => rfl) h) fun x H1 ⟨ρ1, F1, st1, env, d1, O1, E1, R1, p1⟩ =>
    ⟨ρ1, F1, st1, env, O1, E1, p1.bind.imp fun xs H2 ⟨ρ2, F2, st2, d2, S2, O2, R2, p2⟩ => p2 _ _ _ _ .refl O2 (.cons (R1.step S2) R2)⟩
/-- what is made of arguments -/
theorem evs_imp {as : CE} {f : List D → Store → R D} {g : Env → Store → R D} {σ : St} {H : Hp} {Q : VK} (hg : ∀ env st, g env st = (evs Φ as env st).bind f) (h : tG X.K cl W (Rp X.K) g σ H Q) {Q' : List V → Hp → Prop}
    (i : ∀ (vs : List V) (H1 : Hp) (ρ : List Addr) (F : Hp) (st : Store) (env : Env) (ds : List D), Ok X.K cl H1 ρ F st → EnvR X.K F ρ σ env → Rps X.K F ρ vs ds → Post X.K cl (Rp X.K) (WE W σ) ρ F H1 (f ds st) Q → Q' vs H1) :
    tEs X.K cl W Φ as σ H Q' :=
  tG_imp (tG_bind (f := fun _ => f) hg h) fun vs H1 ⟨ρ1, F1, st1, env, ds, O1, E1, R1, p1⟩ => i vs H1 ρ1 F1 st1 env ds O1 E1 R1 p1
/-! ### displays -/
theorem sE_tup {es : List Expr} {k : Nat} {pos : Pos} {as : CE} (ha : PA X es (tEs X.K cl W Φ as)) : PE X (.Tuple es k pos) (tE X.K cl W Φ (.tup as)) :=
  weakPE (pe_tup ha) fun σ H Q h => evs_imp (fun _ _ => rfl) h fun vs H1 ρ F st env ds O E R p => by
    split at p
    · rename_i hz
      refine ⟨by rw [R.length]; exact hz, fun a ha => ?_⟩
      obtain ⟨S, O'⟩ := O.lay (u := .tup vs) ha
      exact p _ _ _ _ S O' (mkT_ok upd_same (R.mono S.grow ⟨[], by simp⟩))
    · exact p.elim
theorem sE_lst {es : List Expr} {pos : Pos} {as : CE} {m : Bool} (ha : PA X es (tEs X.K cl W Φ as)) : PE X (.List es pos) (tE X.K cl W Φ (.lst m as)) :=
  weakPE (pe_lst ha) fun σ H Q h => evs_imp (fun _ _ => rfl) h fun vs H1 ρ F st env ds O E R p => by
    split at p
    · rename_i hz
      refine ⟨by rw [R.length]; exact hz, fun a ha => ?_⟩
      obtain ⟨d, st', e, q⟩ := post_ok (noExc_newL _ _ _) p
      obtain ⟨ρ', F', S, O', R'⟩ := newL_ok O R e ha
      exact q _ _ _ _ S O' R'
    · exact p.elim
/-- {}: of the store, or data -/
theorem sE_dct0 {pos : Pos} {k : Nat} (hk : k ≤ 2) : PE X (.Dict [] [] pos) (tE X.K cl W Φ (.dct k .nil)) :=
  choosePE fun σ H Q ⟨ρ, F, st, env, O, E, q⟩ => by
    simp only [ev, evs, R.bind_ok, pairsO, List.length_nil, Nat.zero_le, if_true] at q
    match k, hk, q with
    | 0, _, q =>
      refine ⟨_, pe_dnewK, fun p hp => ?_⟩
      obtain ⟨S, O'⟩ := O.lay (u := .dK []) hp
      exact q _ _ _ _ S O' (.py (.dK upd_same .nil))
    | 1, _, q =>
      refine ⟨_, pe_dnewK, fun p hp => ?_⟩
      obtain ⟨S, O'⟩ := O.make (u := .dK []) (o := .dK []) hp (.dK .nil)
      refine q _ _ _ _ S O' (.loc ?_)
      rw [List.getElem?_append_right (Nat.le_of_eq O.len), O.len, Nat.sub_self]; rfl
    | 2, _, q =>
      refine ⟨_, pe_dnewT, fun p hp => ?_⟩
      obtain ⟨S, O'⟩ := O.make (u := .dT []) (o := .dT []) hp (.dT .nil)
      refine q _ _ _ _ S O' (.loc ?_)
      rw [List.getElem?_append_right (Nat.le_of_eq O.len), O.len, Nat.sub_self]; rfl
/-! ### subscripts, slices -/
def plainIx : Expr → Bool
  | .Slice _ _ _ _ => false
  | _ => true
theorem plainIx_ok {b : Expr} (h : plainIx b = true) : PlainIx b := fun o i => by
  cases b <;> first | rfl | exact nomatch h
theorem sE_idx {a b : Expr} {pos : Pos} {ca cb : CE} (hu : X.A.units + 70 < cLine) (hb' : plainIx b = true) (ha : PE X a (tE X.K cl W Φ ca)) (hb : PE X b (tE X.K cl W Φ cb)) : PE X (.Subscript a b pos) (tE X.K cl W Φ (.idx ca cb)) :=
  weakPE (pe_ix (sI_idx hu) ha hb (plainIx_ok hb')) fun σ H Q h => tG_imp (tG_bind (fun _ _ => rfl) h) fun x H1 ⟨ρ1, F1, st1, env, d1, O1, E1, R1, p1⟩ =>
    ⟨ρ1, F1, st1, env, O1, E1, p1.bind.imp fun y H2 ⟨ρ2, F2, st2, d2, S2, O2, R2, p2⟩ =>
      ⟨ρ2, F2, st2, d1, d2, O2, R1.step S2, R2, post_ok (noExc_give _ _) p2⟩⟩
/-- a slice's part -/
noncomputable def partE (Φ : Nat → Fn) (c : CE) (env : Env) (st : Store) : R (Option Int) := if isAbs c = true then .ok none st else (ev Φ c env st).bind fun l st => partO st l
abbrev tPt (K : PySem.W.Frag) (cl : Nat → Option Addr) (W : WX) (Φ : Nat → Fn) (c : CE) : TO := tG K cl W (fun _ _ (a b : Option Int) => a = b) (partE Φ c)
def PartOk (X : Cx) (cl : Nat → Option Addr) (W : WX) (Φ : Nat → Fn) (o : Option Expr) (c : CE) : Prop := (o = none ∧ isAbs c = true) ∨ ∃ e, o = some e ∧ isAbs c = false ∧ PE X e (tE X.K cl W Φ c)
theorem sO_part {o : Option Expr} {c : CE} (h : PartOk X cl W Φ o c) : PO X o (tPt X.K cl W Φ c) := by
  rcases h with ⟨rfl, h⟩ | ⟨e, rfl, h, he⟩
  · refine ⟨fun pins s σ H Q I ⟨ρ, F, st, env, O, E, q⟩ => po_none.run pins s σ H Q I ?_⟩
    unfold partE at q
    rw [if_pos h] at q
    exact q none H ρ F .refl O rfl
  · refine ⟨fun pins s σ H Q I q => (po_some he).run pins s σ H Q I ?_⟩
    refine tG_imp (tG_bind (f := fun _ l st => partO st l) (fun env st => by unfold partE; rw [h]; rfl) q) fun x H1 ⟨ρ1, F1, st1, env, d1, O1, E1, R1, p1⟩ => ?_
    unfold partO at p1
    split at p1
    · exact ⟨_, R1.intE, p1 _ _ _ _ .refl O1 rfl⟩
    · exact p1.elim
theorem sE_slc {a : Expr} {lo hi : Option Expr} {p2 pos : Pos} {ca cl' ch : CE} {m : Bool} (ha : PE X a (tE X.K cl W Φ ca)) (hl : PartOk X cl W Φ lo cl') (hh : PartOk X cl W Φ hi ch) :
    PE X (.Subscript a (.Slice lo hi none p2) pos) (tE X.K cl W Φ (.slc m ca cl' ch)) :=
  weakPE (pe_slice (sS_slc (cl := cl) (m := m)) ha (sO_part hl) (sO_part hh)) fun σ H Q h =>
    tG_imp (tG_bind (f := fun env x st => (partE Φ cl' env st).bind fun l st => (partE Φ ch env st).bind fun h st => slcO m st x l h) (fun _ _ => rfl) h) fun x H1 ⟨ρ1, F1, st1, env, d1, O1, E1, R1, p1⟩ =>
      ⟨ρ1, F1, st1, env, O1, E1, p1.bind.imp fun l H2 ⟨ρ2, F2, st2, l', S2, O2, R2, p2⟩ =>
        ⟨ρ2, F2, st2, env, O2, E1.step S2, p2.bind.imp fun h H3 ⟨ρ3, F3, st3, h', S3, O3, R3, p3⟩ => by
          subst R2; subst R3
          exact ⟨ρ3, F3, st3, d1, O3, (R1.step S2).step S3, post_ok (noExc_slc _ _ _ _ _) p3⟩⟩⟩
/-! ### built-ins called by their names -/
theorem sE_bi {es : List Expr} {e : Expr} {x : Str} {p pos : Pos} {b : Bi} {m : Bool} {as : CE} (hok : biOk b = true) (hc : X.calm = true) (hg : X.A.guards = some []) (hu : X.A.units + 70 < cLine) (nst : PySem.W.nsIn X.K cStatics "sys.int_max_str_digits" = some none)
    (gx : Gl X x) (hm : X.mg x = none) (hv : bootBuiltins x = some (biId b)) (hn : x ≠ "__name__") (hdb : (x == ("__debug__" : Str)) = false) (hst : (e :: es).all notStar = true) (ha : PA X (e :: es) (tEs X.K cl W Φ as)) :
    PE X (.Call (.Name x p) (e :: es) [] pos) (tE X.K cl W Φ (.bi b m as)) := by
  have hr := sB_all_of (X := X) (cl := cl) (m := m) hok hc hg hu nst
  have imp : ∀ σ H Q, tE X.K cl W Φ (.bi b m as) σ H Q → tCB (rN X.K cl (biO b m)) (tEs X.K cl W Φ as) σ H Q := fun σ H Q h => evs_imp (fun _ _ => rfl) h fun vs H1 ρ F st env ds O E R p => ⟨ρ, F, st, ds, O, R, post_ok (noExc_bi _ _ _ _) p⟩
  simp only [List.all_cons, Bool.and_eq_true] at hst
  cases b with
  | int => exact weakPE (pe_callTy hr gx hm hv ha hn hdb (starEach_plain hst.1) (backTo_plain hst.2)) imp
  | str => exact weakPE (pe_callTy hr gx hm hv ha hn hdb (starEach_plain hst.1) (backTo_plain hst.2)) imp
  | tuple => exact weakPE (pe_callTy hr gx hm hv ha hn hdb (starEach_plain hst.1) (backTo_plain hst.2)) imp
  | list => exact weakPE (pe_callTy hr gx hm hv ha hn hdb (starEach_plain hst.1) (backTo_plain hst.2)) imp
  | dict => exact weakPE (pe_callTy hr gx hm hv ha hn hdb (starEach_plain hst.1) (backTo_plain hst.2)) imp
  | dictT => exact weakPE (pe_callTy hr gx hm hv ha hn hdb (starEach_plain hst.1) (backTo_plain hst.2)) imp
  | sorted => exact weakPE (pe_callB hr gx hm hv ha hn hdb (starEach_plain hst.1) (backTo_plain hst.2)) imp
  | tupR => cases hok
  | lstR => cases hok
  | sset => cases hok
  | len => exact weakPE (pe_callB hr gx hm hv ha hn hdb (starEach_plain hst.1) (backTo_plain hst.2)) imp
  | all => exact weakPE (pe_callB hr gx hm hv ha hn hdb (starEach_plain hst.1) (backTo_plain hst.2)) imp
  | any => exact weakPE (pe_callB hr gx hm hv ha hn hdb (starEach_plain hst.1) (backTo_plain hst.2)) imp
  | abs => exact weakPE (pe_callB hr gx hm hv ha hn hdb (starEach_plain hst.1) (backTo_plain hst.2)) imp
  | repr => exact weakPE (pe_callB hr gx hm hv ha hn hdb (starEach_plain hst.1) (backTo_plain hst.2)) imp
  | max => exact weakPE (pe_callB hr gx hm hv ha hn hdb (starEach_plain hst.1) (backTo_plain hst.2)) imp
  | min => exact weakPE (pe_callB hr gx hm hv ha hn hdb (starEach_plain hst.1) (backTo_plain hst.2)) imp
  | sum => exact weakPE (pe_callB hr gx hm hv ha hn hdb (starEach_plain hst.1) (backTo_plain hst.2)) imp
/-! ### isinstance -/
inductive TyZ (K : PySem.W.Frag) (H : Hp) : V → String → Prop where
  | base {x : V} {t : String} (h : TyX K H x (.type t)) : TyZ K H x t
  | dict {a : Addr} (h : IsD H a) : TyZ K H (.ref a) "dict"
theorem tyO_ok {K : PySem.W.Frag} {F H : Hp} {ρ : List Addr} {st : Store} {v : V} {d : D} {t : String} (O : Ok K cl H ρ F st) (r : Rp K F ρ v d) (e : tyO st d = some t) : TyZ K H v t := by
  have tup : ∀ {a : Addr} {xs : List V}, SqT K H a xs → TyZ K H (.ref a) "tuple" := by
    intro a xs h
    rcases h with (h | ⟨o, h⟩) | ⟨o, its, n, h, hc, _⟩
    · exact .base (.base (.tup h))
    · exact .base (.fTuple h)
    · exact .base (.kTuple h hc)
  have lst : ∀ {a : Addr} {xs : List V}, Rd H a (.lst xs) → TyZ K H (.ref a) "list" := by
    intro a xs h
    rcases h with h | ⟨o, h⟩
    · exact .base (.base (.lst h))
    · exact .base (.base (.frz h))
  cases r with
  | py r =>
    cases r with
    | non => cases e; exact .base (.base .non)
    | bl b => cases e; exact .base (.base (.bl b))
    | int b => cases e; exact .base (.base (.int b))
    | str b => cases e; exact .base (.base (.str b))
    | lst h r => cases e; exact lst (O.sub _ _ h)
    | tup h r => cases e; exact tup (.inl (O.sub _ _ h))
    | tupK _ h r => cases e; exact tup (SqT.none_mono h)
    | dK h r => cases e; exact .dict (.inl ⟨_, O.sub _ _ h⟩)
    | dT h r _ => cases e; exact .dict (.inr ⟨_, O.sub _ _ h⟩)
  | tup h r => cases e; exact tup (.inl (O.sub _ _ h))
  | loc h =>
    simp only [tyO] at e
    split at e
    · rename_i hs
      cases e
      obtain ⟨u, hu, hr⟩ := O.rd h hs (by intro x; nofun)
      cases hr; exact lst hu
    · rename_i hs
      cases e
      obtain ⟨u, hu, hr⟩ := O.rd h hs (by intro x; nofun)
      cases hr; exact .dict (.inl ⟨_, hu⟩)
    · rename_i hs
      cases e
      obtain ⟨u, hu, hr⟩ := O.rd h hs (by intro x; nofun)
      cases hr; exact .dict (.inr ⟨_, hu⟩)
    · cases e
theorem kit_tab : ∀ t ∈ ["NoneType", "bool", "int", "str", "list", "tuple", "dict"], ∀ c ∈ ["int", "str", "tuple", "list", "bool", "dict"], kitB t c = some (subTy t c) := by decide +kernel
theorem tyO_mem {st : Store} {d : D} {t : String} (e : tyO st d = some t) : t ∈ ["NoneType", "bool", "int", "str", "list", "tuple", "dict"] := by
  unfold tyO at e
  (repeat' split at e) <;> first | (cases e; simp) | exact nomatch e
theorem tyOk_mem {c : String} (h : tyOk c = true) : c ∈ ["int", "str", "tuple", "list", "bool", "dict"] := by
  simp only [tyOk, Bool.or_eq_true, beq_iff_eq] at h
  rcases h with ((((h | h) | h) | h) | h) | h <;> simp [h]
theorem call_isiZ : CallR X (.builtin "isinstance") fun xs H Q => ∃ x t c b, xs = [x, .ty c] ∧ TyZ X.K H x t ∧ kitB t c = some b ∧ Q (.bl b) H := by
  intro pins s σ H xs us Q I r ⟨x, t, c, b, e, hz, hk, q⟩
  subst e
  cases hz with
  | base h => exact call_isi pins s σ H _ us Q I r ⟨x, .ty c, .type t, .type c, b, rfl, .ty c, h, kit_ty hk, q⟩
  | dict h =>
    obtain ⟨u1, u2, rfl, r1, r2⟩ := vals2 r
    obtain rfl : u1 = Value.ref _ := r1
    obtain rfl : u2 = Value.type c := r2
    obtain ⟨o, ho, hc⟩ := (isD_at I h).1
    exact PySem.W.kia_one PySem.W.kitx_dict I.kIn ⟨o, ho, hc⟩ (kit_ty hk) (fun z => nomatch z) fun tk => ⟨.bl b, H, I.tok tk, rfl, q⟩
theorem sE_isi {a : Expr} {x y : Str} {p p2 pos : Pos} {c : String} {ca : CE} (gx : Gl X x) (hm : X.mg x = none) (hv : bootBuiltins x = some (.builtin "isinstance")) (hn : x ≠ "__name__") (hdb : (x == ("__debug__" : Str)) = false)
    (gy : Gl X y) (hmy : X.mg y = none) (hvy : bootBuiltins y = some (.type c)) (hny : y ≠ "__name__") (hdy : (y == ("__debug__" : Str)) = false) (hst : notStar a = true) (ha : PE X a (tE X.K cl W Φ ca)) :
    PE X (.Call (.Name x p) [a, .Name y p2] [] pos) (tE X.K cl W Φ (.isi [c] ca)) :=
  weakPE (pe_callB call_isiZ gx hm hv (pa_cons ha (pa_cons (pe_bltn (v := .ty c) gy hmy hvy rfl hny hdy) pa_nil rfl) (starEach_plain hst)) hn hdb (starEach_plain hst) rfl) fun σ H Q h =>
    tG_imp (tG_bind (fun _ _ => rfl) h) fun x H1 ⟨ρ1, F1, st1, env, d1, O1, E1, R1, p1⟩ => by
      split at p1
      · rename_i t ht
        split at p1
        · rename_i hz
          simp only [List.all_cons, List.all_nil, Bool.and_true] at hz
          refine ⟨x, t, c, subTy t c, rfl, tyO_ok O1 R1 ht, kit_tab t (tyO_mem ht) c (tyOk_mem hz), ?_⟩
          simp only [List.any_cons, List.any_nil, Bool.or_false] at p1
          exact p1 _ _ _ _ .refl O1 (.py (.bl _))
        · exact p1.elim
      · exact p1.elim
end
end WW

namespace WW
open PySem PySem.Spec L2
/-! ### tuple(range(..)), list(range(..)) -/
section
variable {X : Cx} {cl : Nat → Option Addr} {W : WX} {Φ : Nat → Fn}
theorem rgOk_ok {a b : Int} (h : rgOk a b = true) : RgOk a b := by
  simp only [rgOk, inR, Bool.and_eq_true, decide_eq_true_eq] at h
  exact ⟨h.1.1.1, h.1.1.2, h.1.2.1, h.1.2.2, h.2⟩
theorem rg_reps {K : PySem.W.Frag} {F : Hp} (a b : Int) : Reps K F (rgV a b) (intsR a (b - a).toNat) := by
  unfold rgV intsR
  generalize List.range (b - a).toNat = l
  induction l with
  | nil => exact .nil
  | cons i l ih => exact .cons (.int _) ih
/-- what stands behind the ends of a range -/
theorem tup_end {σ : St} {H : Hp} {Q : VK} {ρ : List Addr} {F : Hp} {st : Store} {ds : List D} {a b : Int} (hd : rgArgs ds = some (a, b)) (O : Ok X.K cl H ρ F st) (p : Post X.K cl (Rp X.K) (WE W σ) ρ F H (biTupR st ds) Q) :
    RgOk a b ∧ ∀ q, H q = none → Q (.ref q) (upd H q (.tup (rgV a b))) := by
  unfold biTupR at p
  rw [hd] at p
  simp only at p
  split at p
  · refine ⟨rgOk_ok ‹_›, fun q hq => ?_⟩
    obtain ⟨S, O'⟩ := O.lay (u := .tup (rgV a b)) hq
    exact p _ _ _ _ S O' (.py (.tup upd_same (rg_reps a b)))
  · exact p.elim
theorem lst_end {m : Bool} {σ : St} {H : Hp} {Q : VK} {ρ : List Addr} {F : Hp} {st : Store} {ds : List D} {a b : Int} (hd : rgArgs ds = some (a, b)) (O : Ok X.K cl H ρ F st) (p : Post X.K cl (Rp X.K) (WE W σ) ρ F H (biLstR m st ds) Q) :
    RgOk a b ∧ ∀ q, H q = none → Q (.ref q) (upd H q (.lst (rgV a b))) := by
  unfold biLstR at p
  rw [hd] at p
  simp only at p
  split at p
  · refine ⟨rgOk_ok ‹_›, fun q hq => ?_⟩
    obtain ⟨d, st', e, k⟩ := post_ok (noExc_newL _ _ _) p
    obtain ⟨ρ', F', S, O', R'⟩ := newL_ok O (rg_reps (K := X.K) (F := F) a b).rps e hq
    exact k _ _ _ _ S O' R'
  · exact p.elim
theorem rg1_imp {ca : CE} {σ : St} {H : Hp} {Q : VK} {g : Store → List D → R D} {e : CE} (he : ∀ env st, ev Φ e env st = (evs Φ (.cons ca .nil) env st).bind fun ds st => g st ds) {T : Int → Int → Hp → Prop}
    (hT : ∀ (a b : Int) (H : Hp) (ρ : List Addr) (F : Hp) (st : Store) (ds : List D), rgArgs ds = some (a, b) → Ok X.K cl H ρ F st → Post X.K cl (Rp X.K) (WE W σ) ρ F H (g st ds) Q → T a b H)
    (hg : ∀ st ds, rgArgs ds = none → g st ds = .stuck) (h : tE X.K cl W Φ e σ H Q) : tRg1 (tE X.K cl W Φ ca) σ H T := by
  refine tG_imp (tG_bind (f := fun _ x st => g st [x]) (fun env st => ?_) h) fun x H1 ⟨ρ1, F1, st1, env, d1, O1, E1, R1, p1⟩ => ?_
  · rw [he, evs]
    cases ev Φ ca env st <;> simp only [R.bind_ok, R.bind_stuck, R.bind_exc, evs] <;> rfl
  · match d1, R1, p1 with
    | .py (.int n), R1, p1 => exact ⟨n, R1.intE, hT 0 n H1 ρ1 F1 st1 _ rfl O1 p1⟩
    | .py .none, _, p1 | .py (.bool _), _, p1 | .py (.str _), _, p1 | .py (.list _), _, p1 | .py (.tuple _), _, p1 | .py (.dict _), _, p1 | .loc _, _, p1 | .tup _, _, p1 => rw [hg _ _ rfl] at p1; exact p1.elim
theorem rg2_imp {ca cb : CE} {σ : St} {H : Hp} {Q : VK} {g : Store → List D → R D} {e : CE} (he : ∀ env st, ev Φ e env st = (evs Φ (.cons ca (.cons cb .nil)) env st).bind fun ds st => g st ds) {T : Int → Int → Hp → Prop}
    (hT : ∀ (a b : Int) (H : Hp) (ρ : List Addr) (F : Hp) (st : Store) (ds : List D), rgArgs ds = some (a, b) → Ok X.K cl H ρ F st → Post X.K cl (Rp X.K) (WE W σ) ρ F H (g st ds) Q → T a b H)
    (hg : ∀ st ds, rgArgs ds = none → g st ds = .stuck) (h : tE X.K cl W Φ e σ H Q) : tRg2 (tE X.K cl W Φ ca) (tE X.K cl W Φ cb) σ H T := by
  refine tG_imp (tG_bind (f := fun env x st => (ev Φ cb env st).bind fun y st => g st [x, y]) (fun env st => ?_) h) fun x H1 ⟨ρ1, F1, st1, env, d1, O1, E1, R1, p1⟩ => ?_
  · rw [he, evs]
    cases ev Φ ca env st with
    | ok y st2 =>
      simp only [R.bind_ok]
      rw [evs]
      cases ev Φ cb env st2 <;> simp only [R.bind_ok, R.bind_stuck, R.bind_exc, evs] <;> rfl
    | _ => rfl
  · refine ⟨ρ1, F1, st1, env, O1, E1, p1.bind.imp fun y H2 ⟨ρ2, F2, st2, d2, S2, O2, R2, p2⟩ => ?_⟩
    cases hr : rgArgs [d1, d2] with
    | none => rw [hg _ _ hr] at p2; exact p2.elim
    | some ab =>
      have R1 := R1.step S2
      unfold rgArgs at hr
      split at hr
      · rename_i e; cases e
      · rename_i a b e
        cases e
        cases hr
        exact ⟨a, b, R1.intE, R2.intE, hT a b H2 ρ2 F2 st2 _ rfl O2 p2⟩
      · cases hr
theorem tupR_none (st : Store) (ds : List D) (h : rgArgs ds = none) : biTupR st ds = .stuck := by unfold biTupR; rw [h]
theorem lstR_none (m : Bool) (st : Store) (ds : List D) (h : rgArgs ds = none) : biLstR m st ds = .stuck := by unfold biLstR; rw [h]
theorem sE_tupR1 {a : Expr} {x y : Str} {p p2 p3 pos : Pos} {m : Bool} {ca : CE} (hc : X.calm = true) (ex : x = "tuple") (gx : Gl X x) (mx : X.mg x = none) (ey : y = "range") (gy : Gl X y) (my : X.mg y = none) (ns : notStar a = true) (ha : PE X a (tE X.K cl W Φ ca)) :
    PE X (.Call (.Name x p) [.Call (.Name y p2) [a] [] p3] [] pos) (tE X.K cl W Φ (.bi .tupR m (.cons ca .nil))) := by
  subst ex; subst ey
  exact weakPE (pe_tupRg hc gx mx (prg_1 gy my ha (starEach_plain ns))) fun σ H Q h => rg1_imp (fun _ _ => rfl) (fun a b H ρ F st ds hd O p => tup_end hd O p) tupR_none h
theorem sE_tupR2 {a b : Expr} {x y : Str} {p p2 p3 pos : Pos} {m : Bool} {ca cb : CE} (hc : X.calm = true) (ex : x = "tuple") (gx : Gl X x) (mx : X.mg x = none) (ey : y = "range") (gy : Gl X y) (my : X.mg y = none) (ns : notStar a = true) (ns2 : notStar b = true) (ha : PE X a (tE X.K cl W Φ ca)) (hb : PE X b (tE X.K cl W Φ cb)) :
    PE X (.Call (.Name x p) [.Call (.Name y p2) [a, b] [] p3] [] pos) (tE X.K cl W Φ (.bi .tupR m (.cons ca (.cons cb .nil)))) := by
  subst ex; subst ey
  exact weakPE (pe_tupRg hc gx mx (prg_2 gy my ha hb (starEach_plain ns) (starEach_plain ns2) (backTo_plain (es := [b]) (by rw [List.all_cons, ns2]; rfl)))) fun σ H Q h => rg2_imp (fun _ _ => rfl) (fun a b H ρ F st ds hd O p => tup_end hd O p) tupR_none h
theorem sE_lstR1 {a : Expr} {x y : Str} {p p2 p3 pos : Pos} {m : Bool} {ca : CE} (hc : X.calm = true) (ex : x = "list") (gx : Gl X x) (mx : X.mg x = none) (ey : y = "range") (gy : Gl X y) (my : X.mg y = none) (ns : notStar a = true) (ha : PE X a (tE X.K cl W Φ ca)) :
    PE X (.Call (.Name x p) [.Call (.Name y p2) [a] [] p3] [] pos) (tE X.K cl W Φ (.bi .lstR m (.cons ca .nil))) := by
  subst ex; subst ey
  exact weakPE (pe_listRg hc gx mx (prg_1 gy my ha (starEach_plain ns))) fun σ H Q h => rg1_imp (fun _ _ => rfl) (fun a b H ρ F st ds hd O p => lst_end hd O p) (lstR_none m) h
theorem sE_lstR2 {a b : Expr} {x y : Str} {p p2 p3 pos : Pos} {m : Bool} {ca cb : CE} (hc : X.calm = true) (ex : x = "list") (gx : Gl X x) (mx : X.mg x = none) (ey : y = "range") (gy : Gl X y) (my : X.mg y = none) (ns : notStar a = true) (ns2 : notStar b = true) (ha : PE X a (tE X.K cl W Φ ca)) (hb : PE X b (tE X.K cl W Φ cb)) :
    PE X (.Call (.Name x p) [.Call (.Name y p2) [a, b] [] p3] [] pos) (tE X.K cl W Φ (.bi .lstR m (.cons ca (.cons cb .nil)))) := by
  subst ex; subst ey
  exact weakPE (pe_listRg hc gx mx (prg_2 gy my ha hb (starEach_plain ns) (starEach_plain ns2) (backTo_plain (es := [b]) (by rw [List.all_cons, ns2]; rfl)))) fun σ H Q h => rg2_imp (fun _ _ => rfl) (fun a b H ρ F st ds hd O p => lst_end hd O p) (lstR_none m) h
end
end WW

namespace WW
open PySem PySem.Spec L2
section
variable {X : Cx} {cl : Nat → Option Addr} {W : WX} {Φ : Nat → Fn}
/-! ### methods of built-in types -/
def notSuper : Expr → Bool
  | .Call (.Name _ _) [] [] _ => false
  | _ => true
theorem base_plain {o : Expr} {f : Str} {env : PySem.Env} {w : Sem Value} (h : notSuper o = true) : attributeBase o f env w = w := by
  unfold attributeBase
  split
  · exact nomatch h
  · rfl
theorem few_ok {env : PySem.Env} {pos : Pos} {es : List Expr} (h : es.all notStar = true) (hl : es.length < 30) : ((backTo pos (starEach es env)).all (fun x => !x.1) && (backToKw pos (keywordEach [] env)).all (fun x => x.1.isSome)
      && decide (es.length + ([] : List Keyword).length + (if ([] : List Keyword).isEmpty then 0 else 1) < 30)) = true := by
  have h1 : ∀ es : List Expr, es.all notStar = true → (backTo pos (starEach es env)).all (fun x => !x.1) = true := by
    intro es
    induction es with
    | nil => intro _; rfl
    | cons e es ih =>
      intro h
      rw [List.all_cons, Bool.and_eq_true] at h
      rw [starEach_plain h.1]
      show ((!false) && (backTo pos (starEach es env)).all (fun x => !x.1)) = true
      rw [ih h.2]; rfl
  rw [h1 es h]
  have : decide (es.length + ([] : List Keyword).length + (if ([] : List Keyword).isEmpty then 0 else 1) < 30) = true := decide_eq_true (by simpa using hl)
  rw [this]; rfl
/-- a built-in method with arguments -/
theorem sE_mtA {o e : Expr} {es : List Expr} {name : Str} {apos cpos : Pos} {T id : String} {m : Mt} {co cas : CE} (pa : PlainAttrs T) (slot : Slot T name id) (hty : typeOf (.builtin id) = pure (.type "method_descriptor"))
    (hm : MtR X id (rM X.K cl (mtO m)))
    (hT : ∀ (ρ : List Addr) (F H : Hp) (st : Store) (v : V) (d : D), Ok X.K cl H ρ F st → Rp X.K F ρ v d → mtPre m st d = true → tyV X.K T v H)
    (hn : ∀ st d ds, NoExc (mtO m st d ds)) (hs : notSuper o = true) (hst : (e :: es).all notStar = true) (hl : (e :: es).length < 30) (hline : (apos.endLine == cpos.line) = true)
    (ho : PE X o (tE X.K cl W Φ co)) (ha : PA X (e :: es) (tEs X.K cl W Φ cas)) : PE X (.Call (.Attribute o name apos) (e :: es) [] cpos) (tE X.K cl W Φ (.mt m co cas)) := by
  have h2 := hst
  simp only [List.all_cons, Bool.and_eq_true] at h2
  refine weakPE (pe_bm pa slot hty hm ho ha (base_plain hs) (few_ok hst hl) hline (starEach_plain h2.1) (backTo_plain h2.2)) fun σ H Q h => ?_
  refine tG_imp (tG_bind (fun _ _ => rfl) h) fun x H1 ⟨ρ1, F1, st1, env, d1, O1, E1, R1, p1⟩ => ?_
  split at p1
  · exact ⟨hT ρ1 F1 H1 st1 x d1 O1 R1 ‹_›, ρ1, F1, st1, env, O1, E1, p1.bind.imp fun vs H2 ⟨ρ2, F2, st2, ds, S2, O2, R2, p2⟩ => ⟨ρ2, F2, st2, d1, ds, O2, R1.step S2, R2, post_ok (hn _ _ _) p2⟩⟩
  · exact p1.elim
/-- .. without any -/
theorem sE_mt0 {o : Expr} {name : Str} {apos cpos : Pos} {T id : String} {m : Mt} {co : CE} (pa : PlainAttrs T) (slot : Slot T name id) (hty : typeOf (.builtin id) = pure (.type "method_descriptor"))
    (hm : MtR X id (rM X.K cl (mtO m)))
    (hT : ∀ (ρ : List Addr) (F H : Hp) (st : Store) (v : V) (d : D), Ok X.K cl H ρ F st → Rp X.K F ρ v d → mtPre m st d = true → tyV X.K T v H)
    (hn : ∀ st d ds, NoExc (mtO m st d ds)) (hs : notSuper o = true) (hline : (apos.endLine == cpos.line) = true)
    (ho : PE X o (tE X.K cl W Φ co)) : PE X (.Call (.Attribute o name apos) [] [] cpos) (tE X.K cl W Φ (.mt m co .nil)) := by
  refine weakPE (pe_bm0 pa slot hty hm ho (base_plain hs) hline) fun σ H Q h => ?_
  refine tG_imp (tG_bind (fun _ _ => rfl) h) fun x H1 ⟨ρ1, F1, st1, env, d1, O1, E1, R1, p1⟩ => ?_
  split at p1
  · refine ⟨hT ρ1 F1 H1 st1 x d1 O1 R1 ‹_›, ρ1, F1, st1, d1, [], O1, R1, .nil, ?_⟩
    simp only [evs, R.bind_ok] at p1
    exact post_ok (hn _ _ _) p1
  · exact p1.elim
theorem tyV_list {K : PySem.W.Frag} {ρ : List Addr} {F H : Hp} {st : Store} {v : V} {d : D} (O : Ok K cl H ρ F st) (r : Rp K F ρ v d) (h : (asL st d).isSome = true) : tyV K "list" v H := by
  obtain ⟨xs, hx⟩ := Option.isSome_iff_exists.mp h
  obtain ⟨a, vs, rfl, h1, _⟩ := asL_ok O r hx
  exact .inl ⟨rfl, vs, .inl h1⟩
theorem tyV_str {K : PySem.W.Frag} {ρ : List Addr} {F : Hp} {H : Hp} {v : V} {d : D} (r : Rp K F ρ v d) (h : isStrD d = true) : tyV K "str" v H := by
  have : ∃ x, d = .py (.str x) := by unfold isStrD at h; split at h <;> first | exact ⟨_, rfl⟩ | cases h
  obtain ⟨x, rfl⟩ := this
  obtain rfl := r.strE; rfl
theorem bi0_ok {f : R D} {ds : List D} {d : D} {st' : Store} (e : bi0 f ds = .ok d st') : ds = [] ∧ f = .ok d st' := by
  unfold bi0 at e
  split at e
  · exact ⟨rfl, e⟩
  · exact nomatch e
theorem noExc_bi0 {f : R D} (h : NoExc f) (ds : List D) : NoExc (bi0 f ds) := by
  unfold bi0
  split
  · exact h
  · exact noExc_stuck
theorem sM_append : MtR X "list.append" (rM X.K cl (mtO .append)) := by
  intro pins s σ H x xs v us Q I rx rxs ⟨ρ, F, st, a, ds, O, R1, R2, d, st', e, q⟩
  obtain ⟨d0, rfl, e⟩ := bi1_ok e
  obtain ⟨y, rfl, ry⟩ := R2.one
  have e : mtAppend st a d0 = .ok d st' := e
  unfold mtAppend at e
  split at e
  · split at e
    · rename_i ys hs
      split at e
      · cases e
        cases R1 with
        | loc h =>
          obtain ⟨w, hw, hr⟩ := O.at h hs
          cases hr with
          | lst r =>
            obtain ⟨S, O'⟩ := O.write h hw (by intros; nofun) (.lst (r.append (.cons ry .nil)))
            exact mt_append pins s σ H _ _ v us Q I rx rxs ⟨_, _, y, rfl, rfl, hw, by rw [r.length]; assumption, q _ _ _ _ S O' (.py .non)⟩
      · cases e
    · cases e
  · cases e
theorem sM_extend : MtR X "list.extend" (rM X.K cl (mtO .extend)) := by
  intro pins s σ H x xs v us Q I rx rxs ⟨ρ, F, st, a, ds, O, R1, R2, d, st', e, q⟩
  obtain ⟨d0, rfl, e⟩ := bi1_ok e
  obtain ⟨y, rfl, ry⟩ := R2.one
  have e : mtExtend st a d0 = .ok d st' := e
  unfold mtExtend at e
  split at e
  · split at e
    · rename_i ys hs
      split at e
      · rename_i zs hz
        split at e
        · cases e
          cases R1 with
          | loc h =>
            obtain ⟨w, hw, hr⟩ := O.at h hs
            obtain ⟨b, ws, rfl, g1, g2⟩ := asM_ok O ry hz
            cases hr with
            | lst r =>
              obtain ⟨S, O'⟩ := O.write h hw (by intros; nofun) (.lst (r.append g2))
              exact mt_extend pins s σ H _ _ v us Q I rx rxs ⟨_, b, _, ws, rfl, rfl, hw, g1, by rw [r.length, g2.length]; assumption, q _ _ _ _ S O' (.py .non)⟩
        · cases e
      · cases e
    · cases e
  · cases e
theorem Rps.dropLast {K : PySem.W.Frag} {F : Hp} {ρ : List Addr} {vs : List V} {ds : List D} (r : Rps K F ρ vs ds) : Rps K F ρ vs.dropLast ds.dropLast := by
  rw [List.dropLast_eq_take, List.dropLast_eq_take, r.length]; exact r.take _
theorem sM_pop : MtR X "list.pop" (rM X.K cl (mtO .pop)) := by
  intro pins s σ H x xs v us Q I rx rxs ⟨ρ, F, st, a, ds, O, R1, R2, d, st', e, q⟩
  obtain ⟨rfl, e⟩ := bi0_ok e
  obtain rfl := R2.zero
  have e : mtPop st a = .ok d st' := e
  unfold mtPop at e
  split at e
  · split at e
    · rename_i ys hs
      split at e
      · rename_i z hz
        cases e
        cases R1 with
        | loc h =>
          obtain ⟨w, hw, hr⟩ := O.at h hs
          cases hr with
          | lst r =>
            rw [← r.length] at hz
            obtain ⟨u, g1, g2⟩ := r.get hz
            obtain ⟨S, O'⟩ := O.write h hw (by intros; nofun) (.lst r.dropLast)
            exact mt_pop pins s σ H _ _ v us Q I rx rxs ⟨_, _, u, rfl, rfl, hw, g1, q _ _ _ _ S O' (g2.step S)⟩
      · cases e
    · cases e
  · cases e
theorem Rps.eraseIdx' {K : PySem.W.Frag} {F : Hp} {ρ : List Addr} : ∀ {vs : List V} {ds : List D}, Rps K F ρ vs ds → ∀ k, Rps K F ρ (vs.eraseIdx k) (ds.eraseIdx k)
  | _, _, .nil, _ => .nil
  | _, _, .cons _ r, 0 => r
  | _, _, .cons h r, k + 1 => .cons h (Rps.eraseIdx' r k)
theorem sM_popAt : MtR X "list.pop" (rM X.K cl (mtO .popAt)) := by
  intro pins s σ H x xs v us Q I rx rxs ⟨ρ, F, st, a, ds, O, R1, R2, d, st', e, q⟩
  obtain ⟨d0, rfl, e⟩ := bi1_ok e
  obtain ⟨y, rfl, ry⟩ := R2.one
  have e : mtPopAt st a d0 = .ok d st' := e
  unfold mtPopAt at e
  split at e
  · split at e
    · split at e
      · rename_i i _ n ys hs
        split at e
        · rename_i hb
          rw [Bool.and_eq_true, decide_eq_true_eq, decide_eq_true_eq] at hb
          split at e
          · rename_i k hk
            split at e
            · rename_i z hz
              cases e
              obtain rfl := ry.intE
              cases R1 with
              | loc h =>
                obtain ⟨w, hw, hr⟩ := O.at h hs
                cases hr with
                | lst r =>
                  obtain ⟨u, g1, g2⟩ := r.get hz
                  obtain ⟨S, O'⟩ := O.write h hw (by intros; nofun) (.lst (r.eraseIdx' k))
                  exact mt_popAt pins s σ H _ _ v us Q I rx rxs ⟨_, _, _, k, u, rfl, rfl, hw, hb.1, hb.2, by rw [r.length]; exact hk, g1, q _ _ _ _ S O' (g2.step S)⟩
            · cases e
          · cases e
        · cases e
      · cases e
    · cases e
  · cases e
theorem idx_at {α : Type} [BEq α] [LawfulBEq α] {ns : List α} {k : α} (h : k ∈ ns) : ∃ z, ns[ns.idxOf k]? = some z ∧ z = k := by
  have h1 := List.idxOf_lt_length_of_mem h
  exact ⟨_, List.getElem?_eq_getElem h1, List.getElem_idxOf h1⟩
theorem mt_lindexI : MtR X "list.index" (fun x xs H Q => ∃ p, ∃ ns : List Int, ∃ k, x = .ref p ∧ xs = [.int k] ∧ SqL X.K H p (ns.map V.int) ∧ k ∈ ns ∧ Q (.int (ns.idxOf k : Nat)) H) := by
  intro pins s σ H x xs v us Q I rx rs ⟨p, ns, k, e1, e2, hq, hk, q⟩
  subst e1; subst e2
  cases rx
  obtain ⟨u, rfl, t, rfl⟩ := vals1 rs
  obtain ⟨its, r, pl, hz⟩ := I.list hq
  exact PySem.SeqAt.list_index_ints pl.isList r.ints (by rw [List.length_map] at hz; exact hz) hk ⟨.int _, H, I.tok _, ⟨_, rfl⟩, q⟩
theorem strs_of : ∀ {ys : List Str} {us : List Value}, Vals (ys.map V.str) us → PyProof.Rows.StrsAre us ys
  | [], _, .nil => .nil
  | y :: ys, _, .cons ⟨t, e⟩ r => by rw [e]; exact .cons y t (strs_of r)
theorem mt_lindexS : MtR X "list.index" (fun x xs H Q => ∃ p, ∃ ns : List Str, ∃ k, x = .ref p ∧ xs = [.str k] ∧ SqL X.K H p (ns.map V.str) ∧ k ∈ ns ∧ Q (.int (ns.idxOf k : Nat)) H) := by
  intro pins s σ H x xs v us Q I rx rs ⟨p, ns, k, e1, e2, hq, hk, q⟩
  subst e1; subst e2
  cases rx
  obtain ⟨u, rfl, t, rfl⟩ := vals1 rs
  obtain ⟨its, r, pl, hz⟩ := I.list hq
  exact PySem.SeqAt.list_index_strs pl.isList (strs_of r) (by rw [List.length_map] at hz; exact hz) hk ⟨.int _, H, I.tok _, ⟨_, rfl⟩, q⟩
theorem mt_tindexI : MtR X "tuple.index" (fun x xs H Q => ∃ p, ∃ ns : List Int, ∃ k, x = .ref p ∧ xs = [.int k] ∧ SqT X.K H p (ns.map V.int) ∧ k ∈ ns ∧ Q (.int (ns.idxOf k : Nat)) H) := by
  intro pins s σ H x xs v us Q I rx rs ⟨p, ns, k, e1, e2, hq, hk, q⟩
  subst e1; subst e2
  cases rx
  obtain ⟨u, rfl, t, rfl⟩ := vals1 rs
  obtain ⟨its, r, pl, hz⟩ := I.tuple hq
  exact PySem.SeqAt.tuple_index_ints pl r.ints hk ⟨.int _, H, I.tok _, ⟨_, rfl⟩, q⟩
theorem mt_tindexS : MtR X "tuple.index" (fun x xs H Q => ∃ p, ∃ ns : List Str, ∃ k, x = .ref p ∧ xs = [.str k] ∧ SqT X.K H p (ns.map V.str) ∧ k ∈ ns ∧ Q (.int (ns.idxOf k : Nat)) H) := by
  intro pins s σ H x xs v us Q I rx rs ⟨p, ns, k, e1, e2, hq, hk, q⟩
  subst e1; subst e2
  cases rx
  obtain ⟨u, rfl, t, rfl⟩ := vals1 rs
  obtain ⟨its, r, pl, hz⟩ := I.tuple hq
  exact PySem.SeqAt.tuple_index_strs pl (strs_of r) hk ⟨.int _, H, I.tok _, ⟨_, rfl⟩, q⟩
theorem sM_index : MtR X "tuple.index" (rM X.K cl (mtO .index)) := by
  intro pins s σ H x xs v us Q I rx rxs ⟨ρ, F, st, a, ds, O, R1, R2, d, st', e, q⟩
  obtain ⟨d0, rfl, e⟩ := bi1_ok e
  obtain ⟨y, rfl, ry⟩ := R2.one
  have e : mtIndex (asT a) st d0 = .ok d st' := e
  unfold mtIndex at e
  split at e
  · split at e
    · rename_i ns hn
      obtain ⟨ys, hys, hn⟩ := Option.bind_eq_some_iff.mp hn
      obtain ⟨p, vs, rfl, h1, h2⟩ := asT_ok O R1 hys
      obtain ⟨ps, h3, h4⟩ := Option.bind_eq_some_iff.mp hn
      split at e
      · cases e
        obtain rfl := ry.intE
        have h5 := ints_ok (allPy_ok h2 h3) h4
        subst h5
        exact mt_tindexI pins s σ H _ _ v us Q I rx rxs ⟨_, ns, _, rfl, rfl, h1, ‹_›, q _ _ _ _ .refl O (.py (.int _))⟩
      · cases e
    · cases e
  · split at e
    · rename_i ns hn
      obtain ⟨ys, hys, hn⟩ := Option.bind_eq_some_iff.mp hn
      obtain ⟨p, vs, rfl, h1, h2⟩ := asT_ok O R1 hys
      obtain ⟨ps, h3, h4⟩ := Option.bind_eq_some_iff.mp hn
      split at e
      · cases e
        obtain rfl := ry.strE
        have h5 := strs_ok (allPy_ok h2 h3) h4
        subst h5
        exact mt_tindexS pins s σ H _ _ v us Q I rx rxs ⟨_, ns, _, rfl, rfl, h1, ‹_›, q _ _ _ _ .refl O (.py (.int _))⟩
      · cases e
    · cases e
  · cases e
theorem sM_lindex : MtR X "list.index" (rM X.K cl (mtO .lindex)) := by
  intro pins s σ H x xs v us Q I rx rxs ⟨ρ, F, st, a, ds, O, R1, R2, d, st', e, q⟩
  obtain ⟨d0, rfl, e⟩ := bi1_ok e
  obtain ⟨y, rfl, ry⟩ := R2.one
  have e : mtIndex (asL st a) st d0 = .ok d st' := e
  unfold mtIndex at e
  split at e
  · split at e
    · rename_i ns hn
      obtain ⟨ys, hys, hn⟩ := Option.bind_eq_some_iff.mp hn
      obtain ⟨p, vs, rfl, h1, h2⟩ := asL_ok O R1 hys
      obtain ⟨ps, h3, h4⟩ := Option.bind_eq_some_iff.mp hn
      split at e
      · cases e
        obtain rfl := ry.intE
        have h5 := ints_ok (allPy_ok h2 h3) h4
        subst h5
        exact mt_lindexI pins s σ H _ _ v us Q I rx rxs ⟨_, ns, _, rfl, rfl, .inl h1, ‹_›, q _ _ _ _ .refl O (.py (.int _))⟩
      · cases e
    · cases e
  · split at e
    · rename_i ns hn
      obtain ⟨ys, hys, hn⟩ := Option.bind_eq_some_iff.mp hn
      obtain ⟨p, vs, rfl, h1, h2⟩ := asL_ok O R1 hys
      obtain ⟨ps, h3, h4⟩ := Option.bind_eq_some_iff.mp hn
      split at e
      · cases e
        obtain rfl := ry.strE
        have h5 := strs_ok (allPy_ok h2 h3) h4
        subst h5
        exact mt_lindexS pins s σ H _ _ v us Q I rx rxs ⟨_, ns, _, rfl, rfl, .inl h1, ‹_›, q _ _ _ _ .refl O (.py (.int _))⟩
      · cases e
    · cases e
  · cases e
theorem sM_upper : MtR X "str.upper" (rM X.K cl (mtO .upper)) := by
  intro pins s σ H x xs v us Q I rx rxs ⟨ρ, F, st, a, ds, O, R1, R2, d, st', e, q⟩
  obtain ⟨rfl, e⟩ := bi0_ok e
  obtain rfl := R2.zero
  have e : mtUpper st a = .ok d st' := e
  unfold mtUpper at e
  split at e
  · split at e
    · cases e
      obtain rfl := R1.strE
      exact mt_upper pins s σ H _ _ v us Q I rx rxs ⟨_, rfl, rfl, ‹_›, q _ _ _ _ .refl O (.py (.str _))⟩
    · cases e
  · cases e
theorem sM_join : MtR X "str.join" (rM X.K cl (mtO .join)) := by
  intro pins s σ H x xs v us Q I rx rxs ⟨ρ, F, st, a, ds, O, R1, R2, d, st', e, q⟩
  obtain ⟨d0, rfl, e⟩ := bi1_ok e
  obtain ⟨y, rfl, ry⟩ := R2.one
  have e : mtJoin st a d0 = .ok d st' := e
  unfold mtJoin at e
  split at e
  · split at e
    · rename_i ys hy
      split at e
      · cases e
        obtain rfl := R1.strE
        obtain ⟨a, rfl, h⟩ := lstS_ok O ry hy
        exact mt_join pins s σ H _ _ v us Q I rx rxs ⟨_, a, ys, rfl, rfl, h, ‹_›, q _ _ _ _ .refl O (.py (.str _))⟩
      · cases e
    · cases e
  · cases e
theorem noExc_mt (m : Mt) (st : Store) (o : D) (ds : List D) : NoExc (mtO m st o ds) := by
  cases m <;> simp only [mtO]
  case append => exact noExc_bi1 (fun _ => by unfold mtAppend; (repeat' split) <;> first | exact noExc_ok _ _ | exact noExc_stuck) _
  case extend => exact noExc_bi1 (fun _ => by unfold mtExtend; (repeat' split) <;> first | exact noExc_ok _ _ | exact noExc_stuck) _
  case pop => exact noExc_bi0 (by unfold mtPop; (repeat' split) <;> first | exact noExc_ok _ _ | exact noExc_stuck) _
  case upper => exact noExc_bi0 (by unfold mtUpper; (repeat' split) <;> first | exact noExc_ok _ _ | exact noExc_stuck) _
  case join => exact noExc_bi1 (fun _ => by unfold mtJoin; (repeat' split) <;> first | exact noExc_ok _ _ | exact noExc_stuck) _
  case get => unfold mtGet; (repeat' split) <;> first | exact noExc_ok _ _ | exact noExc_stuck
  case setdefault => unfold mtSetdef; (repeat' split) <;> first | exact noExc_ok _ _ | exact noExc_stuck
  case index => exact noExc_bi1 (fun _ => by unfold mtIndex; (repeat' split) <;> first | exact noExc_ok _ _ | exact noExc_stuck) _
  case lindex => exact noExc_bi1 (fun _ => by unfold mtIndex; (repeat' split) <;> first | exact noExc_ok _ _ | exact noExc_stuck) _
  case popAt => exact noExc_bi1 (fun _ => by unfold mtPopAt; (repeat' split) <;> first | exact noExc_ok _ _ | exact noExc_stuck) _
/-- by name; which of them take arguments -/
def mtName : Mt → Str
  | .append => "append" | .extend => "extend" | .upper => "upper" | .join => "join" | .get => "get" | .setdefault => "setdefault" | .pop => "pop" | .index => "index" | .popAt => "pop" | .lindex => "index"
def mtIsA : Mt → Bool
  | .append | .extend | .join | .popAt | .lindex => true
  | _ => false
def mtIs0 : Mt → Bool
  | .pop | .upper => true
  | _ => false
theorem sE_mt {o e : Expr} {es : List Expr} {name : Str} {apos cpos : Pos} {m : Mt} {co cas : CE} (hm : mtIsA m = true) (hname : name = mtName m) (hs : notSuper o = true) (hst : (e :: es).all notStar = true) (hl : (e :: es).length < 30)
    (hline : (apos.endLine == cpos.line) = true) (ho : PE X o (tE X.K cl W Φ co)) (ha : PA X (e :: es) (tEs X.K cl W Φ cas)) : PE X (.Call (.Attribute o name apos) (e :: es) [] cpos) (tE X.K cl W Φ (.mt m co cas)) := by
  subst hname
  cases m with
  | append => exact sE_mtA PySem.F.plainAttrs_list PySem.F.slot_list_append PySem.F.type_list_append sM_append (fun _ _ _ _ _ _ O r h => tyV_list O r h) (noExc_mt _) hs hst hl hline ho ha
  | extend => exact sE_mtA PySem.F.plainAttrs_list PySem.F.slot_list_extend PySem.F.type_list_extend sM_extend (fun _ _ _ _ _ _ O r h => tyV_list O r h) (noExc_mt _) hs hst hl hline ho ha
  | popAt => exact sE_mtA PySem.F.plainAttrs_list PySem.F.slot_list_pop PySem.F.type_list_pop sM_popAt (fun _ _ _ _ _ _ O r h => tyV_list O r h) (noExc_mt _) hs hst hl hline ho ha
  | lindex => exact sE_mtA PySem.F.plainAttrs_list PySem.F.slot_list_index PySem.F.type_list_index sM_lindex (fun _ _ _ _ _ _ O r h => tyV_list O r h) (noExc_mt _) hs hst hl hline ho ha
  | join => exact sE_mtA PySem.F.plainAttrs_str PySem.F.slot_str_join PySem.F.type_str_join sM_join (fun _ _ _ _ _ _ O r h => tyV_str r h) (noExc_mt _) hs hst hl hline ho ha
  | _ => cases hm
theorem sE_mtN {o : Expr} {name : Str} {apos cpos : Pos} {m : Mt} {co : CE} (hm : mtIs0 m = true) (hname : name = mtName m) (hs : notSuper o = true)
    (hline : (apos.endLine == cpos.line) = true) (ho : PE X o (tE X.K cl W Φ co)) : PE X (.Call (.Attribute o name apos) [] [] cpos) (tE X.K cl W Φ (.mt m co .nil)) := by
  subst hname
  cases m with
  | pop => exact sE_mt0 PySem.F.plainAttrs_list PySem.F.slot_list_pop PySem.F.type_list_pop sM_pop (fun _ _ _ _ _ _ O r h => tyV_list O r h) (noExc_mt _) hs hline ho
  | upper => exact sE_mt0 PySem.F.plainAttrs_str PySem.F.slot_str_upper PySem.F.type_str_upper sM_upper (fun _ _ _ _ _ _ O r h => tyV_str r h) (noExc_mt _) hs hline ho
  | _ => cases hm
/-! ### tests -/
theorem sT_not {a : Expr} {pos : Pos} {ca : CE} (ha : PT X a (tTs X.K cl W Φ ca)) : PT X (.UnaryOp .Not a pos) (tTs X.K cl W Φ (.tnt ca)) :=
  weakPT (pt_not ha) fun σ H Q h => tG_imp (tG_bind (fun _ _ => rfl) h) fun x H1 ⟨ρ1, F1, st1, env, d1, O1, E1, R1, p1⟩ => by
    subst R1
    exact p1 _ _ _ _ .refl O1 rfl
theorem sW_one {op : BoolOp} {a : Expr} {pos : Pos} {ca : CE} (ha : PT X a (tTs X.K cl W Φ ca)) : PW X (.BoolOp op [a] pos) (tTs X.K cl W Φ ca) := by
  cases op with
  | And => exact pw_and1 ha
  | Or => exact pw_or1 ha
theorem sW_and {a b : Expr} {rest : List Expr} {pos : Pos} {ca cb : CE} (ha : PT X a (tTs X.K cl W Φ ca)) (hb : PW X (.BoolOp .And (b :: rest) pos) (tTs X.K cl W Φ cb)) : PW X (.BoolOp .And (a :: b :: rest) pos) (tTs X.K cl W Φ (.tand ca cb)) :=
  weakPW (pw_and ha hb) fun σ H Q h => tG_imp (tG_bind (fun _ _ => rfl) h) fun x H1 ⟨ρ1, F1, st1, env, d1, O1, E1, R1, p1⟩ => by
    subst R1
    cases x with
    | true => rw [if_pos rfl]; exact ⟨ρ1, F1, st1, env, O1, E1, p1⟩
    | false => rw [if_neg (by simp)]; exact p1 _ _ _ _ .refl O1 rfl
theorem sW_or {a b : Expr} {rest : List Expr} {pos : Pos} {ca cb : CE} (ha : PT X a (tTs X.K cl W Φ ca)) (hb : PW X (.BoolOp .Or (b :: rest) pos) (tTs X.K cl W Φ cb)) : PW X (.BoolOp .Or (a :: b :: rest) pos) (tTs X.K cl W Φ (.tor ca cb)) :=
  weakPW (pw_or ha hb) fun σ H Q h => tG_imp (tG_bind (fun _ _ => rfl) h) fun x H1 ⟨ρ1, F1, st1, env, d1, O1, E1, R1, p1⟩ => by
    subst R1
    cases x with
    | true => rw [if_pos rfl]; exact p1 _ _ _ _ .refl O1 rfl
    | false => rw [if_neg (by simp)]; exact ⟨ρ1, F1, st1, env, O1, E1, p1⟩
/-- an expression whose truth is asked as a value's -/
def plainT : Expr → Bool
  | .UnaryOp .Not _ _ | .BoolOp _ _ _ | .IfExp _ _ _ _ | .Compare _ _ _ _ => false
  | _ => true
theorem plainT_ok {a : Expr} {env : PySem.Env} (h : plainT a = true) (whole : Sem Value) : isTrue a env whole = (do let v ← whole; standAt a.pos; holding [v] (truthy v)) := by
  unfold PySem.isTrue
  split <;> first | rfl | (exact absurd h (by simp [plainT]))
theorem sT_of {a : Expr} {ca : CE} (hp : plainT a = true) (ha : PE X a (tE X.K cl W Φ ca)) : PT X a (tTs X.K cl W Φ (.tof ca)) :=
  weakPT (pt_truth ha (plainT_ok hp)) fun σ H Q h => tG_imp (tG_bind (fun _ _ => rfl) h) fun x H1 ⟨ρ1, F1, st1, env, d1, O1, E1, R1, p1⟩ => by
    cases hk : truO st1 d1 with
    | none => rw [hk] at p1; exact p1.elim
    | some k => rw [hk] at p1; exact ⟨k, tru_of O1 R1 hk, p1 _ _ _ _ .refl O1 rfl⟩
theorem sT_cmp {a b : Expr} {op : CmpOp} {pos : Pos} {ca cb : CE} (hu : X.A.units + 70 < cLine) (ha : PE X a (tE X.K cl W Φ ca)) (hb : PE X b (tE X.K cl W Φ cb)) (hm : behindInMarks op b = false) :
    PT X (.Compare a [op] [b] pos) (tTs X.K cl W Φ (.tof (.cmp op ca cb))) :=
  weakPT (pt_cmpR (sO_cmp (cl := cl) hu) ha hb hm) fun σ H Q ⟨ρ, F, st, env, O, E, h⟩ => by
    have h' : Post X.K cl (fun _ _ (b : Bool) b' => b = b') (WE W σ) ρ F H ((ev Φ ca env st).bind fun x st => (ev Φ cb env st).bind fun y st => (give st ((cmpO op st x y).map bo)).bind fun z st => giveS st (truO st z)) Q := by
      have e : tst Φ (.tof (.cmp op ca cb)) env st = (ev Φ ca env st).bind fun x st => (ev Φ cb env st).bind fun y st => (give st ((cmpO op st x y).map bo)).bind fun z st => giveS st (truO st z) := by
        rw [tst, ev]
        cases ev Φ ca env st with
        | ok x st1 => simp only [R.bind_ok]; cases ev Φ cb env st1 <;> rfl
        | _ => rfl
      rw [e] at h; exact h
    refine ⟨ρ, F, st, env, O, E, (Post.bind (rel := Rp X.K) h').imp fun x H1 ⟨ρ1, F1, st1, d1, S1, O1, R1, p1⟩ => ⟨ρ1, F1, st1, env, O1, E.step S1, (Post.bind (rel := Rp X.K) p1).imp fun y H2 ⟨ρ2, F2, st2, d2, S2, O2, R2, p2⟩ => ?_⟩⟩
    cases hc : cmpO op st2 d1 d2 with
    | none => rw [hc] at p2; exact p2.elim
    | some k =>
      rw [hc] at p2
      refine ⟨ρ2, F2, st2, d1, d2, O2, R1.step S2, R2, bo k, st2, by simp only [hc]; rfl, fun v H' ρ' F' S' O' R' => ⟨k, R'.blE, p2 _ _ _ _ S' O' rfl⟩⟩
end
end WW

namespace WW
open PySem PySem.Spec L2
/-! ### d.get(k), d.get(k, w) -/
section
variable {X : Cx} {cl : Nat → Option Addr} {W : WX} {Φ : Nat → Fn}
theorem m1_ok {o e : Expr} {m : Str} {apos cpos : Pos} (hs : notSuper o = true) (he : notStar e = true) (hline : (apos.endLine == cpos.line) = true) : M1 X o m apos e cpos where
  base := base_plain hs
  few := few_ok (es := [e]) (by simp [he]) (by simp)
  line := hline
  trees := by rw [starEach_plain he]; rfl
theorem m2_ok {o e f : Expr} {m : Str} {apos cpos : Pos} (hs : notSuper o = true) (he : notStar e = true) (hf : notStar f = true) (hline : (apos.endLine == cpos.line) = true) : M2 X o m apos e f cpos where
  base := base_plain hs
  few := few_ok (es := [e, f]) (by simp [he, hf]) (by simp)
  line := hline
  trees := by rw [starEach_plain he, starEach_plain hf]; rfl
theorem RelD.getD {K : PySem.W.Frag} {F : Hp} {ρ : List Addr} {o : Option D} {u : Option V} {w : D} {v : V} (h : RelD K F ρ o u) (r : Rp K F ρ v w) : Rp K F ρ (u.getD v) (o.getD w) := by
  cases o with
  | none => cases u with
    | none => exact r
    | some u => exact nomatch h
  | some d =>
    obtain ⟨u', rfl, h2⟩ := h
    exact h2
theorem sE_get1 {o e : Expr} {name : Str} {apos cpos : Pos} {co ce : CE} (hn : name = "get") (hu : X.A.units + 70 < cLine) (hs : notSuper o = true) (hst : notStar e = true) (hline : (apos.endLine == cpos.line) = true) (ho : PE X o (tE X.K cl W Φ co)) (he : PE X e (tE X.K cl W Φ ce)) :
    PE X (.Call (.Attribute o name apos) [e] [] cpos) (tE X.K cl W Φ (.mt .get co (.cons ce .nil))) := by
  subst hn
  refine weakPE (pe_dget1 (by omega) ho he (m1_ok hs hst hline)) fun σ H Q h => tG_imp (tG_bind (f := fun env x st => if mtPre .get st x = true then (evs Φ (.cons ce .nil) env st).bind fun ds st => mtO .get st x ds else .stuck) (fun _ _ => by rw [ev]) h) fun x H1 ⟨ρ1, F1, st1, env, d1, O1, E1, R1, p1⟩ => ?_
  split at p1
  · rename_i hp
    obtain ⟨b, rfl, hd⟩ := isD_ok O1 R1 hp
    refine ⟨b, rfl, hd, ρ1, F1, st1, env, O1, E1, ?_⟩
    have p2 : Post X.K cl (Rp X.K) (WE W σ) ρ1 F1 H1 ((ev Φ ce env st1).bind fun y st => mtGet st d1 [y]) Q := by
      have e : ((evs Φ (.cons ce .nil) env st1).bind fun ds st => mtO .get st d1 ds) = (ev Φ ce env st1).bind fun y st => mtGet st d1 [y] := by
        rw [evs]
        cases ev Φ ce env st1 <;> simp only [R.bind_ok, R.bind_stuck, R.bind_exc, evs] <;> rfl
      rw [e] at p1
      exact p1
    refine p2.bind.imp fun y H2 ⟨ρ2, F2, st2, d2, S2, O2, R2, p3⟩ => ?_
    simp only [mtGet] at p3
    cases hk : (dkey d2).bind (getO st2 d1) with
    | none => rw [hk] at p3; exact p3.elim
    | some r =>
      rw [hk] at p3
      obtain ⟨k, hk1, hk2⟩ := Option.bind_eq_some_iff.mp hk
      obtain ⟨b', u, e1, g, rr⟩ := getO_ok O2 (R1.step S2) R2 hk1 hk2
      cases e1
      exact ⟨u, g, p3 _ _ _ _ .refl O2 (rr.getD (.py .non))⟩
  · exact p1.elim
theorem sE_get2 {o e f : Expr} {name : Str} {apos cpos : Pos} {co ce cf : CE} (hn : name = "get") (hu : X.A.units + 70 < cLine) (hs : notSuper o = true) (hst : notStar e = true) (hst2 : notStar f = true) (hline : (apos.endLine == cpos.line) = true) (ho : PE X o (tE X.K cl W Φ co)) (he : PE X e (tE X.K cl W Φ ce)) (hf : PE X f (tE X.K cl W Φ cf)) :
    PE X (.Call (.Attribute o name apos) [e, f] [] cpos) (tE X.K cl W Φ (.mt .get co (.cons ce (.cons cf .nil)))) := by
  subst hn
  refine weakPE (pe_dget2 (by omega) ho he hf (m2_ok hs hst hst2 hline)) fun σ H Q h => tG_imp (tG_bind (f := fun env x st => if mtPre .get st x = true then (evs Φ (.cons ce (.cons cf .nil)) env st).bind fun ds st => mtO .get st x ds else .stuck) (fun _ _ => by rw [ev]) h) fun x H1 ⟨ρ1, F1, st1, env, d1, O1, E1, R1, p1⟩ => ?_
  split at p1
  · rename_i hp
    obtain ⟨b, rfl, hd⟩ := isD_ok O1 R1 hp
    refine ⟨b, rfl, hd, ρ1, F1, st1, env, O1, E1, ?_⟩
    have p2 : Post X.K cl (Rp X.K) (WE W σ) ρ1 F1 H1 ((ev Φ ce env st1).bind fun y st => (ev Φ cf env st).bind fun z st => mtGet st d1 [y, z]) Q := by
      have e : ((evs Φ (.cons ce (.cons cf .nil)) env st1).bind fun ds st => mtO .get st d1 ds) = (ev Φ ce env st1).bind fun y st => (ev Φ cf env st).bind fun z st => mtGet st d1 [y, z] := by
        rw [evs]
        cases ev Φ ce env st1 with
        | ok y st2 =>
          simp only [R.bind_ok]
          rw [evs]
          cases ev Φ cf env st2 <;> simp only [R.bind_ok, R.bind_stuck, R.bind_exc, evs] <;> rfl
        | _ => rfl
      rw [e] at p1
      exact p1
    refine p2.bind.imp fun y H2 ⟨ρ2, F2, st2, d2, S2, O2, R2, p3⟩ => ⟨ρ2, F2, st2, env, O2, E1.step S2, p3.bind.imp fun z H3 ⟨ρ3, F3, st3, d3, S3, O3, R3, p4⟩ => ?_⟩
    simp only [mtGet] at p4
    cases hk : (dkey d2).bind (getO st3 d1) with
    | none => rw [hk] at p4; exact p4.elim
    | some r =>
      rw [hk] at p4
      obtain ⟨k, hk1, hk2⟩ := Option.bind_eq_some_iff.mp hk
      obtain ⟨b', u, e1, g, rr⟩ := getO_ok O3 ((R1.step S2).step S3) (R2.step S3) hk1 hk2
      cases e1
      exact ⟨u, g, p4 _ _ _ _ .refl O3 (rr.getD R3)⟩
  · exact p1.elim
end
end WW

namespace WW
open PySem PySem.Spec L2
/-! ### which stores go where -/
theorem kind_eq (env : PySem.Env) (x : Str) : env.kindOf x = env.scope.names.lookup x := rfl
theorem block_fn {env : PySem.Env} (hk : env.scope.kind = .function) : env.blockKind = .function := by unfold PySem.Env.blockKind; rw [hk]; rfl
theorem dups2 {x y : Str} (h : (x == y) = false) : [x, y].eraseDups.length = 2 := by
  have h' : (y == x) = false := by
    rw [beq_eq_false_iff_ne] at h ⊢; exact fun e => h e.symm
  simp [List.eraseDups_cons, h']
theorem dups3 {x y z : Str} (h : (x == y) = false) (h2 : (x == z) = false) (h3 : (y == z) = false) : [x, y, z].eraseDups.length = 3 := by
  have e : ∀ {a b : Str}, (a == b) = false → (b == a) = false := fun {a b} h => by
    rw [beq_eq_false_iff_ne] at h ⊢; exact fun e => h e.symm
  simp [List.eraseDups_cons, e h, e h2, e h3]
def swOk2 (x y : Str) (px py : Pos) (a b : Expr) : Bool := px.line == py.line && !(x == y) && notStar a && notStar b && ![a, b].all (foldedForSure 8) && ![a, b].all (constantsAlone 8)
theorem sw2 {env : PySem.Env} {x y : Str} {px py pt p2 : Pos} {kt k2 : Nat} {a b : Expr} (hk : env.scope.kind = .function) (hx : env.scope.names.lookup x = some .local) (hy : env.scope.names.lookup y = some .local) (h : swOk2 x y px py a b = true) :
    swappedStores [.Tuple [.Name x px, .Name y py] kt pt] (.Tuple [a, b] k2 p2) env = pure (some [x, y]) := by
  simp only [swOk2, Bool.and_eq_true, beq_iff_eq, Bool.not_eq_true'] at h
  obtain ⟨⟨⟨⟨⟨h1, h2⟩, h3⟩, h4⟩, h5⟩, h6⟩ := h
  unfold swappedStores
  simp [kind_eq, block_fn hk, hx, hy, h1, h5, h6, Expr.pos, dups2 h2]
  rintro (h | h) <;> (split at h <;> first | exact Bool.noConfusion (show false = true from h) | exact Bool.noConfusion (show false = true from h3) | exact Bool.noConfusion (show false = true from h4))
def swOk3 (x y z : Str) (px py pz : Pos) (a b c : Expr) : Bool := px.line == py.line && px.line == pz.line && !(x == y) && !(x == z) && !(y == z) && notStar a && notStar b && notStar c && ![a, b, c].all (foldedForSure 8) && ![a, b, c].all (constantsAlone 8)
theorem sw3 {env : PySem.Env} {x y z : Str} {px py pz pt p2 : Pos} {kt k2 : Nat} {a b c : Expr} (hk : env.scope.kind = .function) (hx : env.scope.names.lookup x = some .local) (hy : env.scope.names.lookup y = some .local) (hz : env.scope.names.lookup z = some .local) (h : swOk3 x y z px py pz a b c = true) :
    swappedStores [.Tuple [.Name x px, .Name y py, .Name z pz] kt pt] (.Tuple [a, b, c] k2 p2) env = pure (some [x, y, z]) := by
  simp only [swOk3, Bool.and_eq_true, beq_iff_eq, Bool.not_eq_true'] at h
  obtain ⟨⟨⟨⟨⟨⟨⟨⟨⟨h1, h1'⟩, h2⟩, h2'⟩, h2''⟩, h3⟩, h4⟩, h4'⟩, h5⟩, h6⟩ := h
  unfold swappedStores
  simp [kind_eq, block_fn hk, hx, hy, hz, h1.symm, h1'.symm, h5, h6, Expr.pos, dups3 h2 h2' h2'']
  rintro (h | h | h) <;> (split at h <;> first | exact Bool.noConfusion (show false = true from h) | exact Bool.noConfusion (show false = true from h3) | exact Bool.noConfusion (show false = true from h4) | exact Bool.noConfusion (show false = true from h4'))
/-- a value that isn't stored within -/
def notComp : Expr → Bool
  | .ListComp _ _ _ _ | .SetComp _ _ _ _ | .DictComp _ _ _ _ _ => false
  | _ => true
theorem sw_no {e : Expr} {t : Option Expr} {l : Nat} {env : PySem.Env} (h : notComp e = true) : swapsWith e t l env = pure false := by
  cases e <;> first | rfl | exact nomatch h
def notTup : Expr → Bool
  | .Tuple _ _ _ => false
  | _ => true
theorem sw_none {ts : List Expr} {e : Expr} {env : PySem.Env} (h : notTup e = true) : swappedStores ts e env = pure none := by
  unfold swappedStores
  split
  · rename_i h2
    split at h2
    · exact nomatch h
    · exact nomatch h
    · cases h2
  · rfl
theorem sw_name {t : Str} {p : Pos} {e : Expr} {env : PySem.Env} : swappedStores [.Name t p] e env = pure none := rfl
/-! ### targets -/
section
variable {X : Cx} {cl : Nat → Option Addr} {W : WX} {Φ : Nat → Fn}
/-- where a target stores -/
def tgSl : Tg → List Nat
  | .nam i => [i]
  | .nil => []
  | .cons a b => tgSl a ++ tgSl b
def Out (l : List Nat) (σ σ' : St) : Prop := σ'.length = σ.length ∧ ∀ i, i ∉ l → σ'[i]? = σ[i]?
theorem Out.refl (l : List Nat) (σ : St) : Out l σ σ := ⟨rfl, fun _ _ => rfl⟩
theorem Out.trans {l m : List Nat} {σ σ1 σ2 : St} (a : Out l σ σ1) (b : Out m σ1 σ2) : Out (l ++ m) σ σ2 :=
  ⟨b.1.trans a.1, fun i hi => by rw [List.mem_append, not_or] at hi; rw [b.2 i hi.2, a.2 i hi.1]⟩
theorem Out.set {i : Nat} {σ : St} {v : Option V} : Out [i] σ (σ.set i v) := ⟨List.length_set, fun j hj => List.getElem?_set_ne (fun e => hj (by simp [e]))⟩
theorem wipe_get : ∀ (vs : List Nat) (σ : St) (i : Nat), (L2.wipe σ vs)[i]? = if i ∈ vs then (σ[i]?).map fun _ => none else σ[i]?
  | [], σ, i => by simp [L2.wipe]
  | v :: vs, σ, i => by
    have ih := wipe_get vs σ i
    show ((L2.wipe σ vs).set v none)[i]? = _
    by_cases e : v = i
    · subst e
      rw [List.getElem?_set_self', ih]
      by_cases h : v ∈ vs
      · rw [if_pos h, if_pos (by simp)]; cases σ[v]? <;> rfl
      · rw [if_neg h, if_pos (by simp)]; cases σ[v]? <;> rfl
    · rw [List.getElem?_set_ne e, ih]
      have : (i ∈ v :: vs) ↔ i ∈ vs := by simp [Ne.symm e]
      by_cases h : i ∈ vs
      · rw [if_pos h, if_pos (this.mpr h)]
      · rw [if_neg h, if_neg (fun z => h (this.mp z))]
theorem wipe_len : ∀ (vs : List Nat) (σ : St), (L2.wipe σ vs).length = σ.length
  | [], _ => rfl
  | v :: vs, σ => by
    show ((L2.wipe σ vs).set v none).length = _
    rw [List.length_set, wipe_len vs σ]
theorem wipe_out {l vs : List Nat} {σ σ2 : St} (o : Out l (L2.wipe σ vs) σ2) (h : ∀ i ∈ l, i ∈ vs) : L2.wipe σ2 vs = L2.wipe σ vs := by
  apply List.ext_getElem?
  intro i
  rw [wipe_get]
  by_cases hi : i ∈ vs
  · rw [if_pos hi, wipe_get, if_pos hi]
    have h1 : σ2.length = σ.length := by rw [o.1, wipe_len]
    by_cases hl : i < σ.length
    · rw [List.getElem?_eq_getElem hl, List.getElem?_eq_getElem (by omega)]; rfl
    · rw [List.getElem?_eq_none (by omega), List.getElem?_eq_none (by omega)]
  · rw [if_neg hi]; exact o.2 i fun z => hi (h i z)
def tgV (K : PySem.W.Frag) (cl : Nat → Option Addr) (tg : Tg) : TG := fun v σ H Q => ∃ ρ F st env d env', Ok K cl H ρ F st ∧ EnvR K F ρ σ env ∧ Rp K F ρ v d ∧ asg tg d env = some env' ∧ ∀ σ', EnvR K F ρ σ' env' → Out (tgSl tg) σ σ' → Q σ' H
def tgVs (K : PySem.W.Frag) (cl : Nat → Option Addr) (tg : Tg) : TGs := fun vs σ H Q => ∃ ρ F st env ds env', Ok K cl H ρ F st ∧ EnvR K F ρ σ env ∧ Rps K F ρ vs ds ∧ asgs tg ds env = some env' ∧ ∀ σ', EnvR K F ρ σ' env' → Out (tgSl tg) σ σ' → Q σ' H
theorem weakPGs {e : List Expr} {t t' : TGs} (h : PGs X e t) (i : ∀ v σ H Q, t' v σ H Q → t v σ H Q) : PGs X e t' := ⟨fun pins s σ H v u Q I r q => h.run pins s σ H v u Q I r (i v σ H Q q)⟩
theorem sG_name {i : Nat} {x : Str} {pos : Pos} (hN : X.N.Nodup) (hi : X.N[i]? = some x) (hx : Loc X.env.scope x) (hf : X.fn x = true ∨ X.env.scope.names.lookup x = some .local) : PG X (.Name x pos) (tgV X.K cl (.nam i)) :=
  weakPG (pg_name hN hi hx hf) fun v σ H Q ⟨ρ, F, st, env, d, env', O, E, R, e, q⟩ => by
    cases (show some (env.set i (some d)) = some env' from e)
    exact q _ (E.set R) Out.set
theorem sGs_nil : PGs X [] (tgVs X.K cl .nil) :=
  weakPGs pgs_nil fun vs σ H Q ⟨ρ, F, st, env, ds, env', O, E, R, e, q⟩ => by
    cases ds with
    | nil => cases R; cases e; exact ⟨rfl, q _ E (Out.refl _ _)⟩
    | cons => exact nomatch e
theorem sGs_cons {e : Expr} {es : List Expr} {a b : Tg} (hs : notStar e = true) (h1 : PG X e (tgV X.K cl a)) (h2 : PGs X es (tgVs X.K cl b)) : PGs X (e :: es) (tgVs X.K cl (.cons a b)) :=
  weakPGs (pgs_cons h1 h2 (by cases e <;> first | rfl | exact nomatch hs)) fun vs σ H Q ⟨ρ, F, st, env, ds, env', O, E, R, e, q⟩ => by
    cases R with
    | nil => exact nomatch e
    | cons h r =>
      simp only [asgs, Option.bind_eq_some_iff] at e
      obtain ⟨env1, e1, e2⟩ := e
      exact ⟨_, _, rfl, ρ, F, st, env, _, env1, O, E, h, e1, fun σ' E' o1 => ⟨ρ, F, st, env1, _, env', O, E', r, e2, fun σ2 E2 o2 => q σ2 E2 (o1.trans o2)⟩⟩
def tgLen : Tg → Nat
  | .cons _ b => tgLen b + 1
  | _ => 0
theorem asgs_len : ∀ (tg : Tg) (ds : List D) (env env' : Env), asgs tg ds env = some env' → ds.length = tgLen tg
  | .nam _, _, _, _, h => nomatch h
  | .nil, [], _, _, _ => rfl
  | .nil, _ :: _, _, _, h => nomatch h
  | .cons _ _, [], _, _, h => nomatch h
  | .cons a b, x :: xs, env, env', h => by
    simp only [asgs, Option.bind_eq_some_iff] at h
    obtain ⟨env1, _, e2⟩ := h
    rw [List.length_cons, asgs_len b xs env1 env' e2]; rfl
theorem assignEach_plain {env : PySem.Env} : ∀ {es : List Expr}, es.all notStar = true → (assignEach es env).length = es.length ∧ (assignEach es env).findIdx? (·.1) = none
  | [], _ => ⟨rfl, rfl⟩
  | e :: es, h => by
    rw [List.all_cons, Bool.and_eq_true] at h
    obtain ⟨h1, h2⟩ := assignEach_plain (env := env) h.2
    have : assignEach (e :: es) env = (false, assign e env) :: assignEach es env := by
      cases e <;> first | rfl | exact nomatch h.1
    rw [this]
    refine ⟨by rw [List.length_cons, h1]; rfl, ?_⟩
    rw [List.findIdx?_cons]
    simp [h2]
/-- a target that is a tuple of targets: t its tree, .nil for () -/
theorem sG_tup {es : List Expr} {k : Nat} {pos : Pos} {tg : Tg} (hc : X.calm = true) (hs : es.all notStar = true) (hl : es.length = tgLen tg) (ht : ∀ i, tg ≠ .nam i) (h : PGs X es (tgVs X.K cl tg)) : PG X (.Tuple es k pos) (tgV X.K cl tg) :=
  weakPG (pg_tup hc h (assignEach_plain hs).1 (assignEach_plain hs).2) fun v σ H Q ⟨ρ, F, st, env, d, env', O, E, R, e, q⟩ => by
    have key : ∃ ds, asT d = some ds ∧ asgs tg ds env = some env' := by
      cases tg with
      | nam i => exact absurd rfl (ht i)
      | nil =>
        simp only [asg] at e
        split at e
        · exact ⟨[], ‹_›, e⟩
        · cases e
      | cons a b =>
        simp only [asg] at e
        split at e
        · exact ⟨_, ‹_›, by simpa only [asgs] using e⟩
        · cases e
    obtain ⟨ds, h1, h2⟩ := key
    obtain ⟨a, vs, rfl, h3, h4⟩ := asT_ok O R h1
    exact ⟨a, vs, rfl, h3, by rw [h4.length, asgs_len _ _ _ _ h2, hl], ρ, F, st, env, ds, env', O, E, h4, h2, q⟩
end
end WW

namespace WW
open PySem PySem.Spec L2
/-! ### statements -/
/-- behind a statement that ended in r -/
def PostS (K : PySem.W.Frag) (cl : Nat → Option Addr) (W : WX) (D : Ends) (ρ : List Addr) (F H : Hp) (r : RS) : Prop := match r with
  | .stuck => False
  | .nx env st => ∀ σ' H' ρ' F', Step ρ F H ρ' F' H' → Ok K cl H' ρ' F' st → EnvR K F' ρ' σ' env → D.nx σ' H'
  | .bk env st => ∀ σ' H' ρ' F', Step ρ F H ρ' F' H' → Ok K cl H' ρ' F' st → EnvR K F' ρ' σ' env → D.bk σ' H'
  | .ct env st => ∀ σ' H' ρ' F', Step ρ F H ρ' F' H' → Ok K cl H' ρ' F' st → EnvR K F' ρ' σ' env → D.ct σ' H'
  | .rt d st => ∀ v H' ρ' F', Step ρ F H ρ' F' H' → Ok K cl H' ρ' F' st → Rp K F' ρ' v d → D.rt v H'
  | .exc c fs env st => ∀ cls dx σ' H' ρ' F', Step ρ F H ρ' F' H' → Ok K cl H' ρ' F' st → EnvR K F' ρ' σ' env → ExcR K cl F' ρ' H' cls dx c fs → W cls dx σ' H'
section
variable {K : PySem.W.Frag} {cl : Nat → Option Addr} {W : WX} {D D' : Ends} {ρ ρ1 : List Addr} {F F1 H H1 : Hp}
theorem PostS.shift {r : RS} (s : Step ρ F H ρ1 F1 H1) (h : PostS K cl W D ρ F H r) : PostS K cl W D ρ1 F1 H1 r := by
  cases r with
  | stuck => exact h
  | nx => exact fun σ' H' ρ' F' a b c => h σ' H' ρ' F' (s.trans a) b c
  | bk => exact fun σ' H' ρ' F' a b c => h σ' H' ρ' F' (s.trans a) b c
  | ct => exact fun σ' H' ρ' F' a b c => h σ' H' ρ' F' (s.trans a) b c
  | rt => exact fun σ' H' ρ' F' a b c => h σ' H' ρ' F' (s.trans a) b c
  | exc => exact fun cls dx σ' H' ρ' F' a b c e => h cls dx σ' H' ρ' F' (s.trans a) b c e
/-- an expression first -/
theorem PostS.thn {α β : Type} {rel : Hp → List Addr → β → α → Prop} {r : R α} {f : α → Store → RS} {env : Env} {σ : St} (E : EnvR K F ρ σ env) (h : PostS K cl W D ρ F H (R.thn env r f)) :
    Post K cl rel (WE W σ) ρ F H r (fun x H1 => ∃ ρ1 F1 st1 a, Step ρ F H ρ1 F1 H1 ∧ Ok K cl H1 ρ1 F1 st1 ∧ rel F1 ρ1 x a ∧ PostS K cl W D ρ1 F1 H1 (f a st1)) := by
  cases r with
  | stuck => exact h
  | ok d st => exact fun v H' ρ' F' a b c => ⟨ρ', F', st, d, a, b, c, PostS.shift a h⟩
  | exc c fs st => exact fun cls dx H' ρ' F' a b x => h cls dx σ H' ρ' F' a b (E.step a) x
end
def tS (K : PySem.W.Frag) (cl : Nat → Option Addr) (W : WX) (Φ : Nat → Fn) (c : CS) : TS := fun D σ H => ∃ ρ F st env, Ok K cl H ρ F st ∧ EnvR K F ρ σ env ∧ PostS K cl W D ρ F H (exec Φ c env st)
section
variable {X : Cx} {cl : Nat → Option Addr} {W : WX} {Φ : Nat → Fn}
theorem sSs_nil : PSs X [] (tS X.K cl W Φ .skip) :=
  weakPSs pss_nil fun D σ H ⟨ρ, F, st, env, O, E, q⟩ => q σ H ρ F .refl O E
theorem sSs_one {s : Stmt} {c : CS} (h : PS X s (tS X.K cl W Φ c)) : PSs X [s] (tS X.K cl W Φ c) := weakPSs (pss_one h) fun _ _ _ q => q
theorem sSs_cons {s : Stmt} {ss : List Stmt} {a b : CS} (h1 : PS X s (tS X.K cl W Φ a)) (h2 : PSs X ss (tS X.K cl W Φ b)) : PSs X (s :: ss) (tS X.K cl W Φ (.seq a b)) :=
  weakPSs (pss_cons h1 h2) fun D σ H ⟨ρ, F, st, env, O, E, q⟩ => by
    refine ⟨ρ, F, st, env, O, E, ?_⟩
    rw [exec] at q
    cases hr : exec Φ a env st with
    | stuck => rw [hr] at q; exact q
    | nx env1 st1 => rw [hr] at q; exact fun σ' H' ρ' F' S' O' E' => ⟨ρ', F', st1, env1, O', E', PostS.shift S' q⟩
    | bk => rw [hr] at q; exact q
    | ct => rw [hr] at q; exact q
    | rt => rw [hr] at q; exact q
    | exc => rw [hr] at q; exact q
theorem sS_pass {pos : Pos} : PS X (.Pass pos) (tS X.K cl W Φ .skip) :=
  weakPS ps_pass fun D σ H ⟨ρ, F, st, env, O, E, q⟩ => q σ H ρ F .refl O E
theorem sS_brk {pos : Pos} : PS X (.Break pos) (tS X.K cl W Φ .brk) :=
  weakPS ps_break fun D σ H ⟨ρ, F, st, env, O, E, q⟩ => q σ H ρ F .refl O E
theorem sS_cnt {pos : Pos} : PS X (.Continue pos) (tS X.K cl W Φ .cnt) :=
  weakPS ps_continue fun D σ H ⟨ρ, F, st, env, O, E, q⟩ => q σ H ρ F .refl O E
theorem sS_retN {pos : Pos} : PS X (.Return none pos) (tS X.K cl W Φ .retN) :=
  weakPS ps_retN fun D σ H ⟨ρ, F, st, env, O, E, q⟩ => q .non H ρ F .refl O (.py .non)
theorem sS_ret {e : Expr} {pos : Pos} {c : CE} (h : PE X e (tE X.K cl W Φ c)) : PS X (.Return (some e) pos) (tS X.K cl W Φ (.ret c)) :=
  weakPS (ps_ret h) fun D σ H ⟨ρ, F, st, env, O, E, q⟩ => ⟨ρ, F, st, env, O, E, (PostS.thn E q).imp fun x H1 ⟨ρ1, F1, st1, a, S1, O1, R1, q1⟩ => q1 x H1 ρ1 F1 .refl O1 R1⟩
theorem sS_exp {e : Expr} {pos : Pos} {c : CE} (hn : notComp e = true) (h : PE X e (tE X.K cl W Φ c)) : PS X (.Expr e pos) (tS X.K cl W Φ (.exp c)) :=
  weakPS (ps_expr h (sw_no hn)) fun D σ H ⟨ρ, F, st, env, O, E, q⟩ => ⟨ρ, F, st, env, O, E, (PostS.thn (rel := Rp X.K) E q).imp fun x H1 ⟨ρ1, F1, st1, a, S1, O1, R1, q1⟩ => q1 σ H1 ρ1 F1 .refl O1 (E.step S1)⟩
/-- a target, a value that isn't stored within -/
theorem sS_asg {t e : Expr} {pos : Pos} {tg : Tg} {c : CE} (hn : swapsWith e (some t) pos.line X.env = pure false) (hw : swappedStores [t] e X.env = pure none) (hst : notStar t = true) (hg : PG X t (tgV X.K cl tg)) (h : PE X e (tE X.K cl W Φ c)) : PS X (.Assign [t] e pos) (tS X.K cl W Φ (.asg tg c)) :=
  weakPS (ps_asg h hg hn hw (by cases t <;> first | rfl | exact nomatch hst)) fun D σ H ⟨ρ, F, st, env, O, E, q⟩ => ⟨ρ, F, st, env, O, E, (PostS.thn (rel := Rp X.K) E q).imp fun x H1 ⟨ρ1, F1, st1, a, S1, O1, R1, q1⟩ => by
    split at q1
    · rename_i env' he
      exact ⟨ρ1, F1, st1, env, a, env', O1, E.step S1, R1, he, fun σ' E' _ => q1 σ' H1 ρ1 F1 .refl O1 E'⟩
    · exact q1.elim⟩
theorem sS_ite {t : Expr} {a b : List Stmt} {pos : Pos} {c : CE} {ca cb : CS} (hc : PT X t (tTs X.K cl W Φ c)) (ha : PSs X a (tS X.K cl W Φ ca)) (hb : PSs X b (tS X.K cl W Φ cb)) : PS X (.If t a b pos) (tS X.K cl W Φ (.ite c ca cb)) :=
  weakPS (ps_if hc ha hb) fun D σ H ⟨ρ, F, st, env, O, E, q⟩ => ⟨ρ, F, st, env, O, E, (PostS.thn (rel := fun _ _ (b : Bool) b' => b = b') E q).imp fun x H1 ⟨ρ1, F1, st1, a, S1, O1, R1, q1⟩ => by
    subst R1
    cases x with
    | true => rw [if_pos rfl]; exact ⟨ρ1, F1, st1, env, O1, E.step S1, q1⟩
    | false => rw [if_neg (by simp)]; exact ⟨ρ1, F1, st1, env, O1, E.step S1, q1⟩⟩
theorem EnvR.setAll2 {K : PySem.W.Frag} {F : Hp} {ρ : List Addr} {σ : St} {env : Env} {i j : Nat} {v w : V} {d e : D} (E : EnvR K F ρ σ env) (r : Rp K F ρ v d) (s : Rp K F ρ w e) : EnvR K F ρ ((σ.set i (some v)).set j (some w)) (setAll env [i, j] [d, e]) := (E.set r).set s
theorem sS_par2 {x y : Str} {px py pt p2 pos : Pos} {kt k2 i j : Nat} {a b : Expr} {as : CE} (hc : X.calm = true) (hN : X.N.Nodup) (hi : X.N[i]? = some x) (hj : X.N[j]? = some y) (hij : i ≠ j) (hk : X.env.scope.kind = .function)
    (hx : X.env.scope.names.lookup x = some .local) (hy : X.env.scope.names.lookup y = some .local) (ho : swOk2 x y px py a b = true) (ha : PA X [a, b] (tEs X.K cl W Φ as)) :
    PS X (.Assign [.Tuple [.Name x px, .Name y py] kt pt] (.Tuple [a, b] k2 p2) pos) (tS X.K cl W Φ (.par [i, j] as)) :=
  weakPS (ps_par hc hN hi hj hij hx hy ha (sw2 hk hx hy ho)) fun D σ H ⟨ρ, F, st, env, O, E, q⟩ => ⟨ρ, F, st, env, O, E, (PostS.thn (rel := Rps X.K) E q).imp fun xs H1 ⟨ρ1, F1, st1, ds, S1, O1, R1, q1⟩ => by
    split at q1
    · rename_i hl
      match ds, hl, R1, q1 with
      | [d, e], _, R1, q1 =>
        obtain ⟨v, w, rfl, r1, r2⟩ := R1.two
        exact ⟨v, w, rfl, q1 _ H1 ρ1 F1 .refl O1 ((E.step S1).setAll2 r1 r2)⟩
    · exact q1.elim⟩
theorem Rps.three {K : PySem.W.Frag} {F : Hp} {ρ : List Addr} {vs : List V} {d e f : D} (r : Rps K F ρ vs [d, e, f]) : ∃ u v w, vs = [u, v, w] ∧ Rp K F ρ u d ∧ Rp K F ρ v e ∧ Rp K F ρ w f := by
  cases r with | cons h r => obtain ⟨v, w, rfl, r1, r2⟩ := r.two; exact ⟨_, v, w, rfl, h, r1, r2⟩
theorem sS_par3 {x y z : Str} {px py pz pt p2 pos : Pos} {kt k2 i j l : Nat} {a b c : Expr} {as : CE} (hc : X.calm = true) (hN : X.N.Nodup) (hi : X.N[i]? = some x) (hj : X.N[j]? = some y) (hl : X.N[l]? = some z) (hij : i ≠ j) (hil : i ≠ l) (hjl : j ≠ l) (hk : X.env.scope.kind = .function)
    (hx : X.env.scope.names.lookup x = some .local) (hy : X.env.scope.names.lookup y = some .local) (hz : X.env.scope.names.lookup z = some .local) (ho : swOk3 x y z px py pz a b c = true) (ha : PA X [a, b, c] (tEs X.K cl W Φ as)) :
    PS X (.Assign [.Tuple [.Name x px, .Name y py, .Name z pz] kt pt] (.Tuple [a, b, c] k2 p2) pos) (tS X.K cl W Φ (.par [i, j, l] as)) := by
  refine weakPS (ps_par3 hc hN hi hj hl hij hil hjl hx hy hz ha (sw3 hk hx hy hz ho)) fun D σ H ⟨ρ, F, st, env, O, E, q⟩ => ⟨ρ, F, st, env, O, E, (PostS.thn (rel := Rps X.K) E q).imp fun xs H1 ⟨ρ1, F1, st1, ds, S1, O1, R1, q1⟩ => ?_⟩
  split at q1
  · rename_i hl
    match ds, hl, R1, q1 with
    | [d, e, f], _, R1, q1 =>
      obtain ⟨v1, v2, v3, rfl, r1, r2, r3⟩ := R1.three
      exact ⟨v1, v2, v3, rfl, q1 _ H1 ρ1 F1 .refl O1 (((E.step S1).set r1).set r2 |>.set r3)⟩
  · exact q1.elim
/-- o[i] = v -/
theorem sS_set {o i e : Expr} {p2 pos : Pos} {co ci ce : CE} (hu : X.A.units + 70 < cLine) (hn : swapsWith e (some (.Subscript o i p2)) pos.line X.env = pure false) (hp : plainIx i = true) (ho : PE X o (tE X.K cl W Φ co)) (hi : PE X i (tE X.K cl W Φ ci)) (he : PE X e (tE X.K cl W Φ ce)) :
    PS X (.Assign [.Subscript o i p2] e pos) (tS X.K cl W Φ (.set co ci ce)) := by
  have hsw : swapsWithSole [.Subscript o i p2] e pos.line X.env = pure false := by
    unfold swapsWithSole
    exact hn
  refine weakPS (ps_asg he (pg_sub ho hi (sP_set (cl := cl) hu) ?_) hsw ?_ rfl) fun D σ H ⟨ρ, F, st, env, O, E, q⟩ => ⟨ρ, F, st, env, O, E, (PostS.thn (rel := Rp X.K) E q).imp fun v H1 ⟨ρ1, F1, st1, d1, S1, O1, R1, q1⟩ => ?_⟩
  · intro v
    cases i <;> first | rfl | exact nomatch hp
  · rfl
  · refine ⟨ρ1, F1, st1, env, O1, E.step S1, (PostS.thn (rel := Rp X.K) (E.step S1) q1).imp fun x H2 ⟨ρ2, F2, st2, d2, S2, O2, R2, q2⟩ => ?_⟩
    refine ⟨ρ2, F2, st2, env, O2, (E.step S1).step S2, (PostS.thn (rel := Rp X.K) ((E.step S1).step S2) q2).imp fun y H3 ⟨ρ3, F3, st3, d3, S3, O3, R3, q3⟩ => ?_⟩
    split at q3
    · rename_i st' hs
      exact ⟨ρ3, F3, st3, d2, d3, d1, O3, R2.step S3, R3, (R1.step S2).step S3, st', hs, fun H' S' O' => q3 σ H' ρ3 F3 S' O' ((((E.step S1).step S2).step S3).step S')⟩
    · exact q3.elim
/-- x += e of ints -/
def augOk : Operator → Bool
  | .Add | .Sub | .Mult | .FloorDiv | .Mod => true
  | _ => false
theorem iop_mulW : OpR X (inplaceOp .Mult) (rI CMulW fun i j => .int (i * j)) := opI fun _ _ _ _ _ _ _ hc q => PyProof.Rows.imul_int q hc.ok
theorem mulOk_of {i j : Int} (h : mulOk i j = true) : CMulW i j := by
  have h' : i.natAbs.log2 + j.natAbs.log2 < 1000000 := of_decide_eq_true h
  exact h'
/-- a sum, a product .. of two ints, in place -/
def augI (op : Operator) (i j : Int) : Option Int := match op with
  | .Add => some (i + j)
  | .Sub => some (i - j)
  | .Mult => if mulOk i j = true then some (i * j) else none
  | .FloorDiv => if divOk j = true then some (i / j) else none
  | .Mod => if 0 < j then some (i % j) else none
  | _ => none
theorem augI_bin {op : Operator} {i j : Int} {st : Store} {d : D} {st' : Store} (ho : augOk op = true) (e : binO op false st (io i) (io j) = .ok d st') : ∃ k, augI op i j = some k ∧ d = io k ∧ st' = st := by
  cases op <;> first | exact (Bool.noConfusion (show false = true from ho)) | skip
  all_goals simp only [binO, augI] at e ⊢
  all_goals first
    | (cases e; exact ⟨_, rfl, rfl, rfl⟩)
    | (split at e <;> first | (cases e; rename_i h; rw [if_pos h]; exact ⟨_, rfl, rfl, rfl⟩) | exact nomatch e)
theorem aug_ok {op : Operator} (ho : augOk op = true) : OpR X (inplaceOp op) fun x y H Q => ∃ i j k, x = .int i ∧ y = .int j ∧ augI op i j = some k ∧ Q (.int k) H := by
  intro pins s σ H x y v u Q I rx ry ⟨i, j, k, e1, e2, e, q⟩
  subst e1; subst e2
  cases op <;> first | exact (Bool.noConfusion (show false = true from ho)) | skip
  case Add => cases e; exact iop_add pins s σ H _ _ v u Q I rx ry ⟨i, j, rfl, rfl, q⟩
  case Sub => cases e; exact iop_sub pins s σ H _ _ v u Q I rx ry ⟨i, j, rfl, rfl, q⟩
  case Mult =>
    simp only [augI] at e
    split at e
    · cases e; exact iop_mulW pins s σ H _ _ v u Q I rx ry ⟨i, j, rfl, rfl, mulOk_of ‹_›, q⟩
    · cases e
  case FloorDiv =>
    simp only [augI] at e
    split at e
    · rename_i h
      cases e
      simp only [divOk, Bool.and_eq_true, decide_eq_true_eq] at h
      exact iop_fdivW pins s σ H _ _ v u Q I rx ry ⟨i, j, rfl, rfl, h, q⟩
    · cases e
  case Mod =>
    simp only [augI] at e
    split at e
    · cases e; exact iop_mod pins s σ H _ _ v u Q I rx ry ⟨i, j, rfl, rfl, ‹_›, q⟩
    · cases e
theorem binO_noExc2 (op : Operator) (st : Store) (x y : D) : NoExc (binO op false st x y) := noExc_bin op false st x y
theorem sS_aug {x : Str} {e : Expr} {p2 pos : Pos} {op : Operator} {i : Nat} {c : CE} (ho : augOk op = true) (hN : X.N.Nodup) (hi : X.N[i]? = some x) (hx : Loc X.env.scope x) (hf : X.fn x = true ∨ X.env.scope.names.lookup x = some .local) (he : PE X e (tE X.K cl W Φ c)) :
    PS X (.AugAssign (.Name x p2) op e pos) (tS X.K cl W Φ (.aug i op c)) := by
  refine weakPS (ps_aug hN hi hx he (aug_ok ho) hf) fun D σ H ⟨ρ, F, st, env, O, E, q⟩ => ?_
  rw [exec] at q
  split at q
  · rename_i d0 h0
    obtain ⟨v, h1, h2⟩ := E.at' i d0 h0
    refine ⟨v, h1, ρ, F, st, env, O, E, (PostS.thn (rel := Rp X.K) E q).imp fun y H1 ⟨ρ1, F1, st1, d1, S1, O1, R1, q1⟩ => ?_⟩
    have key : ∃ i0 j0, d0 = io i0 ∧ d1 = io j0 ∧ PostS X.K cl W D ρ1 F1 H1 (R.thn env (binO op false st1 d0 d1) fun z st => .nx (env.set i (some z)) st) := by
      split at q1
      · exact ⟨_, _, rfl, rfl, q1⟩
      · exact q1.elim
    obtain ⟨i0, j0, rfl, rfl, q9⟩ := key
    obtain rfl := (h2.step S1).intE
    obtain rfl := R1.intE
    cases hb : binO op false st1 (io i0) (io j0) with
    | stuck => rw [hb] at q9; exact q9.elim
    | exc c fs st2 => exact absurd hb (binO_noExc2 _ _ _ _ c fs st2)
    | ok d2 st2 =>
      rw [hb] at q9
      obtain ⟨k, hk, rfl, rfl⟩ := augI_bin ho hb
      exact ⟨_, _, k, rfl, rfl, hk, q9 _ H1 ρ1 F1 .refl O1 ((E.step S1).set (.py (.int k)))⟩
  · exact q.elim
/-- while -/
theorem sS_whl {t : Expr} {body : List Stmt} {pos : Pos} {c : CE} {b : CS} (hp : PassesOwn (model X.prog X.w) X.A X.env X.xe) (hc : PT X t (tTs X.K cl W Φ c)) (hb : PSs X body (tS X.K cl W Φ b)) : PS X (.While t body [] pos) (tS X.K cl W Φ (.whl c b)) := by
  refine weakPS (ps_while hp hc hb) fun D σ H ⟨ρ, F, st, env, O, E, q⟩ => ?_
  rw [exec] at q
  have hs : whL (tst Φ c) (exec Φ b) env st ≠ .stuck := fun z => by rw [z] at q; exact q
  obtain ⟨n, hn⟩ := whL_fuel hs
  rw [hn] at q
  refine ⟨fun m σ H => ∃ ρ F st env, Ok X.K cl H ρ F st ∧ EnvR X.K F ρ σ env ∧ PostS X.K cl W D ρ F H (whF (tst Φ c) (exec Φ b) m env st), ⟨n, ρ, F, st, env, O, E, q⟩, ?_⟩
  rintro m σ H ⟨ρ, F, st, env, O, E, q⟩
  cases m with
  | zero => exact q.elim
  | succ m =>
    rw [whF] at q
    refine ⟨ρ, F, st, env, O, E, (PostS.thn (rel := fun _ _ (b : Bool) b' => b = b') E q).imp fun x H1 ⟨ρ1, F1, st1, a, S1, O1, R1, q1⟩ => ?_⟩
    subst R1
    cases x with
    | false => rw [if_neg (by simp)]; exact q1 σ H1 ρ1 F1 .refl O1 (E.step S1)
    | true =>
      rw [if_pos rfl]
      refine ⟨fun σ H => ∃ ρ F st env, Ok X.K cl H ρ F st ∧ EnvR X.K F ρ σ env ∧ PostS X.K cl W D ρ F H (whF (tst Φ c) (exec Φ b) m env st), fun σ' H' h => ⟨m, Nat.lt_succ_self m, h⟩, ρ1, F1, st1, env, O1, E.step S1, ?_⟩
      cases hr : exec Φ b env st1 with
      | stuck => rw [hr] at q1; exact q1
      | nx env2 st2 => rw [hr] at q1; exact fun σ' H' ρ' F' S' O' E' => ⟨ρ', F', st2, env2, O', E', PostS.shift S' q1⟩
      | ct env2 st2 => rw [hr] at q1; exact fun σ' H' ρ' F' S' O' E' => ⟨ρ', F', st2, env2, O', E', PostS.shift S' q1⟩
      | bk env2 st2 => rw [hr] at q1; exact q1
      | rt => rw [hr] at q1; exact q1
      | exc => rw [hr] at q1; exact q1
end
end WW

namespace WW
open PySem PySem.Spec L2
/-! ### walks -/
structure Wlk (K : PySem.W.Frag) (cl : Nat → Option Addr) (J : It) (fz : List (Addr × Obj × HO)) (its : List D) (gs : List (Nat × List D)) (ρ : List Addr) (F : Hp) : Prop where
  goes : ∀ (i : Nat) (H' : Hp) (ρ' : List Addr) (F' : Hp) (st : Store), Ok K cl H' ρ' F' st → Same F F' → (∃ m, ρ' = ρ ++ m) → Still gs st → (∀ z ∈ fz, H' z.1 = some (.frz z.2.1 z.2.2)) → i < its.length → J.go i H'
  stops : ∀ (H' : Hp) (ρ' : List Addr) (F' : Hp) (st : Store), Ok K cl H' ρ' F' st → Same F F' → (∃ m, ρ' = ρ ++ m) → Still gs st → (∀ z ∈ fz, H' z.1 = some (.frz z.2.1 z.2.2)) → J.stop its.length H'
  yields : ∀ (i : Nat) (d : D) (H' : Hp) (ρ' : List Addr) (F' : Hp) (st : Store) (x : V) (H'' : Hp), Ok K cl H' ρ' F' st → Same F F' → (∃ m, ρ' = ρ ++ m) → Still gs st → (∀ z ∈ fz, H' z.1 = some (.frz z.2.1 z.2.2)) → its[i]? = some d →
    J.yld i H' x H'' → ∃ F'', Step ρ' F' H' ρ' F'' H'' ∧ Ok K cl H'' ρ' F'' st ∧ Rp K F'' ρ' x d
section
variable {K : PySem.W.Frag} {cl : Nat → Option Addr} {F : Hp} {ρ : List Addr} {its : List D} {gs : List (Nat × List D)}
theorem wlk_list {a : Addr} (h : ∀ (H' : Hp) (ρ' : List Addr) (F' : Hp) (st : Store), Ok K cl H' ρ' F' st → Same F F' → (∃ m, ρ' = ρ ++ m) → Still gs st → ∃ vs, SqL K H' a vs ∧ Rps K F' ρ' vs its) : Wlk K cl (Itl K a) [] its gs ρ F where
  goes := fun i H' ρ' F' st O S m G _ hi => by
    obtain ⟨vs, h1, h2⟩ := h H' ρ' F' st O S m G
    exact walk_list.goes i H' (by rw [h2.length]; exact hi) h1
  stops := fun H' ρ' F' st O S m G _ => by
    obtain ⟨vs, h1, h2⟩ := h H' ρ' F' st O S m G
    rw [← h2.length]; exact walk_list.stops H' h1
  yields := fun i d H' ρ' F' st x H'' O S m G _ hd hy => by
    obtain ⟨vs, h1, h2⟩ := h H' ρ' F' st O S m G
    have hi : i < vs.length := by rw [h2.length]; exact (List.getElem?_eq_some_iff.mp hd).1
    obtain ⟨rfl, hx⟩ := walk_list.yields i H' x H'' hi h1 hy
    obtain ⟨v, h3, h4⟩ := h2.get hd
    rw [hx] at h3; cases h3
    exact ⟨F', .refl, O, h4⟩
theorem wlk_tup {a : Addr} (h : ∀ (H' : Hp) (ρ' : List Addr) (F' : Hp) (st : Store), Ok K cl H' ρ' F' st → Same F F' → (∃ m, ρ' = ρ ++ m) → Still gs st → ∃ vs, SqT K H' a vs ∧ Rps K F' ρ' vs its) : Wlk K cl (Itt K a) [] its gs ρ F where
  goes := fun i H' ρ' F' st O S m G _ hi => by
    obtain ⟨vs, h1, h2⟩ := h H' ρ' F' st O S m G
    exact walk_tup.goes i H' (by rw [h2.length]; exact hi) h1
  stops := fun H' ρ' F' st O S m G _ => by
    obtain ⟨vs, h1, h2⟩ := h H' ρ' F' st O S m G
    rw [← h2.length]; exact walk_tup.stops H' h1
  yields := fun i d H' ρ' F' st x H'' O S m G _ hd hy => by
    obtain ⟨vs, h1, h2⟩ := h H' ρ' F' st O S m G
    have hi : i < vs.length := by rw [h2.length]; exact (List.getElem?_eq_some_iff.mp hd).1
    obtain ⟨rfl, hx⟩ := walk_tup.yields i H' x H'' hi h1 hy
    obtain ⟨v, h3, h4⟩ := h2.get hd
    rw [hx] at h3; cases h3
    exact ⟨F', .refl, O, h4⟩
theorem wlk_range {lo : Int} {n : Nat} : Wlk K cl (Itr lo n) [] (rngI lo n) gs ρ F where
  goes := fun i H' ρ' F' st O S m G _ hi => walk_range.goes i H' (by simpa [rngI] using hi) True.intro
  stops := fun H' ρ' F' st O S m G _ => by
    have : (rngI lo n).length = n := by simp [rngI]
    rw [this]; exact walk_range.stops H' True.intro
  yields := fun i d H' ρ' F' st x H'' O S m G _ hd hy => by
    have hi : i < n := by simpa [rngI] using (List.getElem?_eq_some_iff.mp hd).1
    obtain ⟨rfl, rfl⟩ := walk_range.yields i H' x H'' hi True.intro hy
    have : d = io (lo + (i : Int)) := by
      unfold rngI at hd
      rw [List.getElem?_map, List.getElem?_range hi] at hd
      exact (Option.some.inj hd).symm
    rw [this]
    exact ⟨F', .refl, O, .py (.int _)⟩
theorem wlk_str {z : Str} : Wlk K cl (Its z) [] (z.cps.toList.map fun c => so ⟨#[c]⟩) gs ρ F where
  goes := fun i H' ρ' F' st O S m G _ hi => walk_str.goes i H' (by simpa using hi) True.intro
  stops := fun H' ρ' F' st O S m G _ => by
    have : (z.cps.toList.map fun c => so ⟨#[c]⟩).length = z.cps.size := by simp
    rw [this]; exact walk_str.stops H' True.intro
  yields := fun i d H' ρ' F' st x H'' O S m G _ hd hy => by
    have hi : i < z.cps.size := by simpa using (List.getElem?_eq_some_iff.mp hd).1
    obtain ⟨rfl, c, hc, rfl⟩ := walk_str.yields i H' x H'' hi True.intro hy
    rw [List.getElem?_map, Array.getElem?_toList, hc] at hd
    cases hd
    exact ⟨F', .refl, O, .py (.str _)⟩
end
section
variable {X : Cx} {cl : Nat → Option Addr} {W : WX} {Φ : Nat → Fn}
/-- what a walk asks -/
def iG (K : PySem.W.Frag) (cl : Nat → Option Addr) (W : WX) (Φ : Nat → Fn) (c : CE) : TI := fun σ H R => ∃ ρ F st env, Ok K cl H ρ F st ∧ EnvR K F ρ σ env ∧ match srcs Φ c env st with
  | .stuck => False
  | .ok s st1 => ∀ H1 ρ1 F1 J, Step ρ F H ρ1 F1 H1 → Ok K cl H1 ρ1 F1 st1 → Wlk K cl J [] s.its s.gs ρ1 F1 → R J H1
  | .exc c fs st1 => ∀ cls dx H' ρ' F', Step ρ F H ρ' F' H' → Ok K cl H' ρ' F' st1 → ExcR K cl F' ρ' H' cls dx c fs → WE W σ cls dx H'
theorem choosePI {tg e : Expr} {t : TI} (h : ∀ σ H R, t σ H R → ∃ t', PI X tg e t' ∧ t' σ H R) : PI X tg e t :=
  ⟨fun pins s σ H R I q => let ⟨_, h1, h2⟩ := h σ H R q; h1.run pins s σ H R I h2⟩
theorem asT_at {K : PySem.W.Frag} {F : Hp} {ρ : List Addr} {v : V} {d : D} {xs : List D} (r : Rp K F ρ v d) (e : asT d = some xs) : ∃ a vs, v = .ref a ∧ (F a = some (.tup vs) ∨ SqT K (fun _ => none) a vs) ∧ Rps K F ρ vs xs := by
  cases r with
  | py r =>
    cases r with
    | tup h r => cases e; exact ⟨_, _, rfl, .inl h, r.rps⟩
    | tupK _ h r => cases e; exact ⟨_, _, rfl, .inr h, r.rps⟩
    | _ => exact nomatch e
  | tup h r => cases e; exact ⟨_, _, rfl, .inl h, r⟩
  | _ => exact nomatch e
/-- a list's items stand while it stands still -/
theorem standL_ok {K : PySem.W.Frag} {F : Hp} {ρ : List Addr} {st : Store} {v : V} {d : D} {xs : List D} (r : Rp K F ρ v d) (e : asL st d = some xs) :
    ∃ a, v = .ref a ∧ ∀ (H' : Hp) (ρ' : List Addr) (F' : Hp) (st' : Store), Ok K cl H' ρ' F' st' → Same F F' → (∃ m, ρ' = ρ ++ m) → Still (gsO st d) st' → ∃ vs, SqL K H' a vs ∧ Rps K F' ρ' vs xs := by
  cases r with
  | py r =>
    cases r with
    | lst h r =>
      cases e
      exact ⟨_, rfl, fun H' ρ' F' st' O' S m _ => ⟨_, .inl (O'.sub _ _ (S _ _ h)), r.rps.mono S m⟩⟩
    | _ => exact nomatch e
  | @loc n b h =>
    simp only [asL] at e
    split at e
    · rename_i ys hs
      cases e
      refine ⟨b, rfl, fun H' ρ' F' st' O' S m G => ?_⟩
      have hg : getS st' n = some (.lst xs) := G (n, xs) (by simp [gsO, hs])
      obtain ⟨m, rfl⟩ := m
      obtain ⟨u, hu, hr⟩ := O'.rd (n := n) (a := b) (by rw [List.getElem?_append_left (List.getElem?_eq_some_iff.mp h).1]; exact h) hg (by intro x; nofun)
      cases hr with
      | lst r => exact ⟨_, .inl hu, r⟩
    · cases e
  | _ => exact nomatch e
/-- a tuple's items stand -/
theorem standT_ok {K : PySem.W.Frag} {F : Hp} {ρ : List Addr} {v : V} {d : D} {xs : List D} (r : Rp K F ρ v d) (e : asT d = some xs) :
    ∃ a, v = .ref a ∧ ∀ (H' : Hp) (ρ' : List Addr) (F' : Hp) (st' : Store), Ok K cl H' ρ' F' st' → Same F F' → (∃ m, ρ' = ρ ++ m) → ∃ vs, SqT K H' a vs ∧ Rps K F' ρ' vs xs := by
  obtain ⟨a, vs, rfl, h1, h2⟩ := asT_at r e
  refine ⟨a, rfl, fun H' ρ' F' st' O' S m => ⟨vs, ?_, h2.mono S m⟩⟩
  rcases h1 with h1 | h1
  · exact .inl (O'.sub _ _ (S _ _ h1))
  · exact SqT.none_mono h1
theorem sI_seq {tg a : Expr} {ca : CE} (ha : PE X a (tE X.K cl W Φ ca)) : PI X tg a (iG X.K cl W Φ (.seq ca)) :=
  choosePI fun σ H J0 ⟨ρ, F, st, env, O, E, q⟩ => by
    rw [srcs] at q
    cases he : ev Φ ca env st with
    | stuck => rw [he] at q; exact q.elim
    | exc c fs st1 =>
      rw [he] at q
      exact ⟨_, pi_list ha, ρ, F, st, env, O, E, by rw [he]; exact q⟩
    | ok x st1 =>
      rw [he, R.bind_ok] at q
      cases hi : itemsO st1 x with
      | none => rw [hi] at q; exact q.elim
      | some s =>
        rw [hi] at q
        unfold itemsO at hi
        split at hi
        · cases hi
          refine ⟨_, pi_str ha, ρ, F, st, env, O, E, ?_⟩
          rw [he]
          intro v H1 ρ1 F1 S1 O1 R1
          exact ⟨_, R1.strE, q H1 ρ1 F1 _ S1 O1 wlk_str⟩
        · obtain ⟨xs, h1, rfl⟩ := Option.map_eq_some_iff.mp hi
          cases ht : asT x with
          | some ys =>
            refine ⟨_, pi_tup ha, ρ, F, st, env, O, E, ?_⟩
            rw [he]
            intro v H1 ρ1 F1 S1 O1 R1
            have : ys = xs := by unfold asLT at h1; rw [ht] at h1; exact Option.some.inj h1
            subst this
            obtain ⟨a, rfl, h4⟩ := standT_ok (cl := cl) R1 ht
            obtain ⟨ws, h5, _⟩ := h4 H1 ρ1 F1 st1 O1 (Same.refl F1) ⟨[], by simp⟩
            exact ⟨a, rfl, ⟨ws, h5⟩, q H1 ρ1 F1 _ S1 O1 (wlk_tup fun H' ρ' F' st' O' S m _ => h4 H' ρ' F' st' O' S m)⟩
          | none =>
            have hL : asL st1 x = some xs := by unfold asLT at h1; rw [ht] at h1; exact h1
            refine ⟨_, pi_list ha, ρ, F, st, env, O, E, ?_⟩
            rw [he]
            intro v H1 ρ1 F1 S1 O1 R1
            obtain ⟨a, vs, rfl, h2, h3⟩ := asL_ok O1 R1 hL
            obtain ⟨a', e1, h4⟩ := standL_ok (cl := cl) R1 hL
            cases e1
            exact ⟨a, rfl, ⟨vs, .inl h2⟩, q H1 ρ1 F1 _ S1 O1 (wlk_list h4)⟩
theorem inR_ok {i : Int} (h : inR i = true) : -(2 ^ 62) ≤ i ∧ i < 2 ^ 62 := by
  simpa [inR] using h
/-- range(n), range(a, b) -/
theorem evs_one {ca : CE} {env : Env} {st st1 : Store} {ds : List D} (h : evs Φ (.cons ca .nil) env st = .ok ds st1) : ∃ d, ds = [d] := by
  rw [evs] at h
  cases he : ev Φ ca env st with
  | ok d s => rw [he] at h; simp only [R.bind_ok, evs] at h; cases h; exact ⟨d, rfl⟩
  | stuck => rw [he] at h; exact nomatch h
  | exc => rw [he] at h; exact nomatch h
theorem evs_two {ca cb : CE} {env : Env} {st st1 : Store} {ds : List D} (h : evs Φ (.cons ca (.cons cb .nil)) env st = .ok ds st1) : ∃ d e, ds = [d, e] := by
  rw [evs] at h
  cases he : ev Φ ca env st with
  | ok d s =>
    rw [he, R.bind_ok] at h
    cases h2 : evs Φ (.cons cb .nil) env s with
    | ok es s2 => rw [h2, R.bind_ok] at h; cases h; obtain ⟨e, rfl⟩ := evs_one h2; exact ⟨d, e, rfl⟩
    | stuck => rw [h2] at h; exact nomatch h
    | exc => rw [h2] at h; exact nomatch h
  | stuck => rw [he] at h; exact nomatch h
  | exc => rw [he] at h; exact nomatch h
theorem sI_rng1 {tg a : Expr} {x : Str} {p pos : Pos} {ca : CE} (hx : x = "range") (hg : Gl X x) (hm : X.mg x = none) (hs : notStar a = true) (ha : PA X [a] (tEs X.K cl W Φ (.cons ca .nil))) : PI X tg (.Call (.Name x p) [a] [] pos) (iG X.K cl W Φ (.rng (.cons ca .nil))) := by
  subst hx
  exact choosePI fun σ H J0 ⟨ρ, F, st, env, O, E, q⟩ => by
    refine ⟨_, pi_range1 hg hm ha (starEach_plain hs), ρ, F, st, env, O, E, ?_⟩
    rw [srcs] at q
    cases he : evs Φ (.cons ca .nil) env st with
    | stuck => rw [he] at q; exact q.elim
    | exc c fs st1 => rw [he] at q; exact q
    | ok ds st1 =>
      rw [he, R.bind_ok] at q
      intro vs H1 ρ1 F1 S1 O1 R1
      obtain ⟨d, rfl⟩ := evs_one he
      obtain ⟨v, rfl, r⟩ := R1.one
      cases hi : rngO [d] with
      | none => rw [hi] at q; exact q.elim
      | some s =>
        rw [hi] at q
        simp only [rngO] at hi
        split at hi
        · rename_i hq
          cases hq
          split at hi
          · cases hi
            obtain rfl := r.intE
            obtain ⟨h1, h2⟩ := inR_ok ‹_›
            exact ⟨_, rfl, h1, h2, q H1 ρ1 F1 _ S1 O1 wlk_range⟩
          · cases hi
        · rename_i hq; exact nomatch hq
        · rename_i hq; exact nomatch hq
        · cases hi
theorem sI_rng2 {tg a b : Expr} {x : Str} {p pos : Pos} {ca cb : CE} (hx : x = "range") (hg : Gl X x) (hm : X.mg x = none) (hs : notStar a = true) (hs2 : notStar b = true) (ha : PA X [a, b] (tEs X.K cl W Φ (.cons ca (.cons cb .nil)))) :
    PI X tg (.Call (.Name x p) [a, b] [] pos) (iG X.K cl W Φ (.rng (.cons ca (.cons cb .nil)))) := by
  subst hx
  exact choosePI fun σ H J0 ⟨ρ, F, st, env, O, E, q⟩ => by
    refine ⟨_, pi_range2 hg hm ha (by rw [starEach_plain hs, starEach_plain hs2]; rfl) (starEach_plain hs2), ρ, F, st, env, O, E, ?_⟩
    rw [srcs] at q
    cases he : evs Φ (.cons ca (.cons cb .nil)) env st with
    | stuck => rw [he] at q; exact q.elim
    | exc c fs st1 => rw [he] at q; exact q
    | ok ds st1 =>
      rw [he, R.bind_ok] at q
      intro vs H1 ρ1 F1 S1 O1 R1
      obtain ⟨d, e, rfl⟩ := evs_two he
      obtain ⟨v, w, rfl, r, r2⟩ := R1.two
      cases hi : rngO [d, e] with
      | none => rw [hi] at q; exact q.elim
      | some s =>
        rw [hi] at q
        simp only [rngO] at hi
        split at hi
        · rename_i hq; exact nomatch hq
        · rename_i hq
          cases hq
          split at hi
          · rename_i hz
            cases hi
            obtain rfl := r.intE; obtain rfl := r2.intE
            simp only [Bool.and_eq_true] at hz
            obtain ⟨h1, h2⟩ := inR_ok hz.1
            obtain ⟨h3, h4⟩ := inR_ok hz.2
            exact ⟨_, _, rfl, ⟨h1, h2, h3, h4⟩, q H1 ρ1 F1 _ S1 O1 wlk_range⟩
          · cases hi
        · rename_i hq; exact nomatch hq
        · cases hi
theorem wlk_rngD {K : PySem.W.Frag} {F : Hp} {ρ : List Addr} {gs : List (Nat × List D)} {lo : Int} {n : Nat} : Wlk K cl (Itc lo (-1) n) [] (rngD lo n) gs ρ F where
  goes := fun i H' ρ' F' st O S m G _ hi => by
    show i < n
    simpa [rngD] using hi
  stops := fun H' ρ' F' st O S m G _ => by
    show n ≤ (rngD lo n).length
    simp [rngD]
  yields := fun i d H' ρ' F' st x H'' O S m G _ hd hy => by
    have hi : i < n := by simpa [rngD] using (List.getElem?_eq_some_iff.mp hd).1
    obtain ⟨rfl, rfl⟩ := hy
    have : d = io (lo + (i : Int) * (-1)) := by
      unfold rngD at hd
      rw [List.getElem?_map, List.getElem?_range hi] at hd
      exact (Option.some.inj hd).symm
    rw [this]
    exact ⟨F', .refl, O, .py (.int _)⟩
theorem evs_three {ca cb cc : CE} {env : Env} {st st1 : Store} {ds : List D} (h : evs Φ (.cons ca (.cons cb (.cons cc .nil))) env st = .ok ds st1) : ∃ d e f, ds = [d, e, f] := by
  rw [evs] at h
  cases he : ev Φ ca env st with
  | ok d s =>
    rw [he, R.bind_ok] at h
    cases h2 : evs Φ (.cons cb (.cons cc .nil)) env s with
    | ok es s2 => rw [h2, R.bind_ok] at h; cases h; obtain ⟨e, f, rfl⟩ := evs_two h2; exact ⟨d, e, f, rfl⟩
    | stuck => rw [h2] at h; exact nomatch h
    | exc => rw [h2] at h; exact nomatch h
  | stuck => rw [he] at h; exact nomatch h
  | exc => rw [he] at h; exact nomatch h
theorem sI_rng3 {tg a b c : Expr} {x : Str} {p pos : Pos} {ca cb cc : CE} (hx : x = "range") (hg : Gl X x) (hm : X.mg x = none) (hs : notStar a = true) (hs2 : notStar b = true) (hs3 : notStar c = true) (ha : PA X [a, b, c] (tEs X.K cl W Φ (.cons ca (.cons cb (.cons cc .nil))))) :
    PI X tg (.Call (.Name x p) [a, b, c] [] pos) (iG X.K cl W Φ (.rng (.cons ca (.cons cb (.cons cc .nil))))) := by
  subst hx
  exact choosePI fun σ H J0 ⟨ρ, F, st, env, O, E, q⟩ => by
    refine ⟨_, pi_range3 hg hm ha (starEach_plain hs) (backTo_plain (by simp only [List.all_cons, hs2, hs3]; rfl)), ρ, F, st, env, O, E, ?_⟩
    rw [srcs] at q
    cases he : evs Φ (.cons ca (.cons cb (.cons cc .nil))) env st with
    | stuck => rw [he] at q; exact q.elim
    | exc c fs st1 => rw [he] at q; exact q
    | ok ds st1 =>
      rw [he, R.bind_ok] at q
      intro vs H1 ρ1 F1 S1 O1 R1
      obtain ⟨d, e, f, rfl⟩ := evs_three he
      obtain ⟨v, w, u, rfl, r, r2, r3⟩ := R1.three
      cases hi : rngO [d, e, f] with
      | none => rw [hi] at q; exact q.elim
      | some s =>
        rw [hi] at q
        simp only [rngO] at hi
        split at hi
        · rename_i hq; exact nomatch hq
        · rename_i hq; exact nomatch hq
        · rename_i hq
          cases hq
          split at hi
          · rename_i hz
            cases hi
            obtain rfl := r.intE; obtain rfl := r2.intE; obtain rfl := r3.intE
            simp only [Bool.and_eq_true, decide_eq_true_eq] at hz
            obtain ⟨⟨g1, g2⟩, rfl⟩ := hz
            obtain ⟨h1, h2⟩ := inR_ok g1
            obtain ⟨h3, h4⟩ := inR_ok g2
            exact ⟨_, _, _, _, rfl, RgC.neg h1 h2 h3 h4, q H1 ρ1 F1 _ S1 O1 wlk_rngD⟩
          · cases hi
        · cases hi
/-! ### for -/
theorem forL_cons_eq {gs : List (Nat × List D)} {tg : Tg} {b : Env → Store → RS} {x : D} {xs : List D} {env : Env} {st : Store} : forL gs tg b (x :: xs) env st = open Classical in if Still gs st then match asg tg x env with
    | none => .stuck
    | some env1 => (b env1 st).turn fun env st => forL gs tg b xs env st
    else .stuck := rfl
def notSet : Expr → Bool
  | .Set _ _ _ => false
  | _ => true
theorem folded_no {e : Expr} {env : PySem.Env} (h : notSet e = true) (x : Value) : foldedSetIterable e env x = pure x := by
  cases e <;> first | rfl | exact nomatch h
/-- a walk without a lock -/
def lstSrc : CE → Bool
  | .seq _ | .rng _ | .zip _ | .enum _ | .rvd _ => true
  | _ => false
theorem rngO_lk {ds : List D} {s : Src} (h : rngO ds = some s) : s.lk = none := by
  unfold rngO at h
  split at h
  · split at h <;> cases h; rfl
  · split at h <;> cases h; rfl
  · split at h <;> cases h; rfl
  · cases h
theorem itemsO_lk {st : Store} {x : D} {s : Src} (h : itemsO st x = some s) : s.lk = none := by
  unfold itemsO at h
  split at h
  · cases h; rfl
  · obtain ⟨xs, _, rfl⟩ := Option.map_eq_some_iff.mp h; rfl
theorem zipO_lk {st : Store} {ds : List D} {s : Src} (h : zipO st ds = some s) : s.lk = none := by
  unfold zipO at h
  split at h
  · split at h
    · cases h; rfl
    · obtain ⟨xs, _, h⟩ := Option.bind_eq_some_iff.mp h
      obtain ⟨ys, _, rfl⟩ := Option.map_eq_some_iff.mp h
      rfl
    · cases h
  · cases h
theorem R.bind_inv {α β : Type} {r : R α} {f : α → Store → R β} {b : β} {st : Store} (h : r.bind f = .ok b st) : ∃ a st1, r = .ok a st1 ∧ f a st1 = .ok b st := by
  cases r with
  | ok a s => exact ⟨a, s, rfl, h⟩
  | stuck => exact nomatch h
  | exc => exact nomatch h
theorem src_lk {c : CE} (h : lstSrc c = true) {env : Env} {st st1 : Store} {s : Src} (e : srcs Φ c env st = .ok s st1) : s.lk = none := by
  cases c <;> first | exact (Bool.noConfusion (show false = true from h)) | skip
  all_goals
    rw [srcs] at e
    obtain ⟨x, s2, _, e⟩ := R.bind_inv e
    obtain ⟨e, _⟩ := give_ok e
    first
      | exact itemsO_lk e
      | exact rngO_lk e
      | exact zipO_lk e
      | (obtain ⟨xs, _, rfl⟩ := Option.map_eq_some_iff.mp e; rfl)
theorem sS_for {t it : Expr} {body : List Stmt} {pos : Pos} {tg : Tg} {c : CE} {b : CS} (hsrc : lstSrc c = true) (hns : notSet it = true) (hp : PassesOwn (model X.prog X.w) X.A X.env X.xe) (hc : X.calm = true) (hi : PI X t it (iG X.K cl W Φ c)) (hg : PG X t (tgV X.K cl tg)) (hb : PSs X body (tS X.K cl W Φ b)) :
    PS X (.For t it body [] pos) (tS X.K cl W Φ (.for c tg b)) := by
  refine weakPS (ps_for hp hc hi hg hb (hs := folded_no hns)) fun D σ H ⟨ρ, F, st, env, O, E, q⟩ => ?_
  rw [exec] at q
  refine ⟨ρ, F, st, env, O, E, ?_⟩
  cases he : srcs Φ c env st with
  | stuck => rw [he] at q; exact q.elim
  | exc cc fs st1 => rw [he] at q; exact fun cls dx H' ρ' F' S' O' x => q cls dx σ H' ρ' F' S' O' (E.step S') x
  | ok s st1 =>
    rw [he, R.thn_ok] at q
    have hdec : s.lk = none := src_lk hsrc he
    rw [show lockS s.lk st1 (fun st => forL s.gs tg (exec Φ b) s.its env st) = forL s.gs tg (exec Φ b) s.its env st1 by rw [hdec]; rfl] at q
    intro H1 ρ1 F1 J S1 O1 Wk
    refine ⟨fun i m σ H => ∃ ρ F st env, i + m = s.its.length ∧ Same F1 F ∧ (∃ k, ρ = ρ1 ++ k) ∧ Ok X.K cl H ρ F st ∧ EnvR X.K F ρ σ env ∧ PostS X.K cl W D ρ F H (forL s.gs tg (exec Φ b) (s.its.drop i) env st),
      ⟨s.its.length, ρ1, F1, st1, env, by omega, Same.refl F1, ⟨[], by simp⟩, O1, E.step S1, PostS.shift S1 (by simpa using q)⟩, ?_⟩
    rintro i m σ H ⟨ρ, F, st, env, him, hS, hm, O, E, q⟩
    cases hx : s.its[i]? with
    | none =>
      have hlen : s.its.length ≤ i := List.getElem?_eq_none_iff.mp hx
      have hi' : i = s.its.length := by omega
      rw [List.drop_eq_nil_of_le hlen, forL] at q
      split at q
      · rename_i hG
        refine .inl ⟨?_, q σ H ρ F .refl O E⟩
        rw [hi']
        exact Wk.stops H ρ F st O hS hm hG (by simp)
      · exact q.elim
    | some d =>
      have hlt : i < s.its.length := (List.getElem?_eq_some_iff.mp hx).1
      have hdr : s.its.drop i = d :: s.its.drop (i + 1) := by
        rw [List.drop_eq_getElem_cons hlt]
        rw [List.getElem?_eq_getElem hlt] at hx
        rw [Option.some.inj hx]
      rw [hdr, forL_cons_eq] at q
      split at q
      · rename_i hG
        refine .inr ⟨Wk.goes i H ρ F st O hS hm hG (by simp) hlt, fun σ H => ∃ ρ F st env, Same F1 F ∧ (∃ k, ρ = ρ1 ++ k) ∧ Ok X.K cl H ρ F st ∧ EnvR X.K F ρ σ env ∧ PostS X.K cl W D ρ F H (forL s.gs tg (exec Φ b) (s.its.drop (i + 1)) env st), fun σ' H' ⟨ρ, F, st, env, h1, h2, h3⟩ => ⟨m - 1, by omega, ρ, F, st, env, by omega, h1, h2, h3⟩, fun x H' hy => ?_⟩
        obtain ⟨F2, S2, O2, R2⟩ := Wk.yields i d H ρ F st x H' O hS hm hG (by simp) hx hy
        split at q
        · exact q.elim
        · rename_i env1 hasg
          refine ⟨ρ, F2, st, env, d, env1, O2, E.step S2, R2, hasg, fun σ2 E2 _ => ⟨ρ, F2, st, env1, O2, E2, ?_⟩⟩
          have q2 := PostS.shift S2 q
          have hS2 : Same F1 F2 := hS.trans S2.grow
          have go : ∀ (env2 : Env) (st2 : Store), PostS X.K cl W D ρ F2 H' (forL s.gs tg (exec Φ b) (s.its.drop (i + 1)) env2 st2) → ∀ (σ' : St) (H'' : Hp) (ρ' : List Addr) (F' : Hp), Step ρ F2 H' ρ' F' H'' → Ok X.K cl H'' ρ' F' st2 → EnvR X.K F' ρ' σ' env2 →
              ∃ ρ F st env, Same F1 F ∧ (∃ k, ρ = ρ1 ++ k) ∧ Ok X.K cl H'' ρ F st ∧ EnvR X.K F ρ σ' env ∧ PostS X.K cl W D ρ F H'' (forL s.gs tg (exec Φ b) (s.its.drop (i + 1)) env st) := fun env2 st2 q3 σ' H'' ρ' F' S3 O3 E3 => by
            obtain ⟨k, rfl⟩ := hm
            obtain ⟨k2, e2⟩ := S3.ext
            exact ⟨ρ', F', st2, env2, hS2.trans S3.grow, ⟨k ++ k2, by rw [e2, List.append_assoc]⟩, O3, E3, PostS.shift S3 q3⟩
          cases hr : exec Φ b env1 st with
          | stuck => rw [hr] at q2; exact q2
          | nx env2 st2 => rw [hr] at q2; exact go env2 st2 q2
          | ct env2 st2 => rw [hr] at q2; exact go env2 st2 q2
          | bk env2 st2 => rw [hr] at q2; exact q2
          | rt => rw [hr] at q2; exact q2
          | exc => rw [hr] at q2; exact q2
      · exact q.elim
/-! ### list comprehensions -/
theorem lcL_cons_eq {α β : Type} {gs : List (Nat × List D)} {tg : Tg} {t : Env → Store → R Bool} {e : Env → Store → R α} {add : β → α → Option β} {env : Env} {x : D} {xs : List D} {st : Store} {acc : β} :
    lcL gs tg t e add env (x :: xs) st acc = open Classical in if Still gs st then match asg tg x env with
      | none => .stuck
      | some env1 => (t env1 st).bind fun b st => match b with
        | true => (e env1 st).bind fun y st => match add acc y with
          | some acc => lcL gs tg t e add env xs st acc
          | none => .stuck
        | false => lcL gs tg t e add env xs st acc
      else .stuck := rfl
theorem addL_ok {acc acc' : List D} {y : D} (h : addL acc y = some acc') : acc.length < sizeLine ∧ acc' = acc ++ [y] := by
  unfold addL at h
  split at h
  · cases h; exact ⟨‹_›, rfl⟩
  · cases h
/-- what a comprehension's parts are -/
structure LcOk (X : Cx) (cl : Nat → Option Addr) (Φ : Nat → Fn) (scope : Scope) (own : List (Str × Nat)) (t : Expr) (ifs : List Expr) (tg : Tg) (ct : CE) : Prop where
  ok : BlkOk X.N X.env.scope scope own
  sub : ∀ i ∈ tgSl tg, i ∈ own.map (·.2)
  hg : ∀ (s : Shared) (H : Hp) (C : Addr) (cls : List (Str × Addr)) (fp : List Addr), PG (X.blk s H scope (compEnvC scope cls C X.env) fp) t (tgV X.K cl tg)
  ht : ∀ (s : Shared) (H : Hp) (C : Addr) (cls : List (Str × Addr)) (fp : List Addr), PTs (X.blk s H scope (compEnvC scope cls C X.env) fp) ifs (tTs X.K cl (fun _ _ _ _ => False) Φ ct)
theorem lc_turns {c : CE} {tg : Tg} {ct ce : CE} {m : Bool} {own : List (Str × Nat)} (hsub : ∀ i ∈ tgSl tg, i ∈ own.map (·.2)) (hsrc : lstSrc c = true) {σ : St} {H : Hp} {Q : VK} (h : tE X.K cl W Φ (.lc m (own.map (·.2)) c tg ct ce) σ H Q) :
    tLc (iG X.K cl W Φ c) (tgV X.K cl tg) (tTs X.K cl (fun _ _ _ _ => False) Φ ct) (tE X.K cl (fun _ _ _ _ => False) Φ ce) (own.map (·.2)) σ H Q := by
  obtain ⟨ρ, F, st, env, O, E, q⟩ := h
  rw [ev] at q
  refine ⟨ρ, F, st, env, O, E, ?_⟩
  cases he : srcs Φ c env st with
  | stuck => rw [he] at q; exact q.elim
  | exc cc fs st1 => rw [he] at q; exact q
  | ok s st1 =>
    rw [he, R.bind_ok] at q
    rw [show lockR s.lk st1 (fun st => lcL s.gs tg (tst Φ ct) (ev Φ ce) addL (WW.wipe env (own.map (·.2))) s.its st []) = lcL s.gs tg (tst Φ ct) (ev Φ ce) addL (WW.wipe env (own.map (·.2))) s.its st1 [] by rw [src_lk hsrc he]; rfl] at q
    intro H0 ρ0 F0 J S0 O0 Wk D hD
    have E0 := E.step S0
    have q0 := Post.shift S0 q
    clear q S0 E O
    obtain ⟨Sx, Ox, hF, hρ⟩ := O0.extra (u := .lst []) hD
    refine ⟨fun i m' H => ∃ ρ F st acc accV, i + m' = s.its.length ∧ Step ρ0 F0 H0 ρ F H ∧ Ok X.K cl H ρ F st ∧ H D = some (.lst accV) ∧ F D = none ∧ D ∉ ρ ∧ Rps X.K F ρ accV acc ∧
        Post X.K cl (Rp X.K) (WE W σ) ρ0 F0 H0 ((lcL s.gs tg (tst Φ ct) (ev Φ ce) addL (WW.wipe env (own.map (·.2))) (s.its.drop i) st acc).nox.bind fun ys st => newL m ys st) Q,
      ⟨s.its.length, ρ0, F0, st1, [], [], by omega, Sx, Ox, upd_same, hF, hρ, .nil, by simpa using q0⟩, ?_⟩
    rintro i m' H ⟨ρ, F, st, acc, accV, him, S, O, hHD, hFD, hρD, Ra, q⟩
    have hm : ∃ k, ρ = ρ0 ++ k := S.ext
    have hS : Same F0 F := S.grow
    cases hx : s.its[i]? with
    | none =>
      have hlen : s.its.length ≤ i := List.getElem?_eq_none_iff.mp hx
      have hi' : i = s.its.length := by omega
      rw [List.drop_eq_nil_of_le hlen, lcL] at q
      split at q
      · rename_i hG
        refine .inl ⟨by rw [hi']; exact Wk.stops H ρ F st O hS hm hG (by simp), ?_⟩
        simp only [R.nox_ok, R.bind_ok] at q
        obtain ⟨d, st', e, q⟩ := post_ok (noExc_newL _ _ _) q
        obtain ⟨ρ', F', S', O', R'⟩ := newAt_ok S O hD hFD hρD hHD Ra e
        exact q _ _ _ _ S' O' R'
      · exact q.elim
    | some d =>
      have hlt : i < s.its.length := (List.getElem?_eq_some_iff.mp hx).1
      have hdr : s.its.drop i = d :: s.its.drop (i + 1) := by
        rw [List.drop_eq_getElem_cons hlt]
        rw [List.getElem?_eq_getElem hlt] at hx
        rw [Option.some.inj hx]
      rw [hdr, lcL_cons_eq] at q
      split at q
      · rename_i hG
        refine .inr ⟨Wk.goes i H ρ F st O hS hm hG (by simp) hlt, fun H => ∃ ρ F st acc accV, Step ρ0 F0 H0 ρ F H ∧ Ok X.K cl H ρ F st ∧ H D = some (.lst accV) ∧ F D = none ∧ D ∉ ρ ∧ Rps X.K F ρ accV acc ∧
          Post X.K cl (Rp X.K) (WE W σ) ρ0 F0 H0 ((lcL s.gs tg (tst Φ ct) (ev Φ ce) addL (WW.wipe env (own.map (·.2))) (s.its.drop (i + 1)) st acc).nox.bind fun ys st => newL m ys st) Q,
          fun H' ⟨ρ, F, st, acc, accV, h⟩ => ⟨m' - 1, by omega, ρ, F, st, acc, accV, by omega, h⟩, fun x H' hy => ?_⟩
        obtain ⟨F2, S2, O2, R2⟩ := Wk.yields i d H ρ F st x H' O hS hm hG (by simp) hx hy
        obtain ⟨hHD2, hFD2, hρD2⟩ := S2.still hHD rfl hFD hρD
        have S02 := S.trans S2
        split at q
        · exact q.elim
        · rename_i env1 hasg
          refine ⟨ρ, F2, st, WW.wipe env (own.map (·.2)), d, env1, O2, (E0.step S02).wipe _, R2, hasg, fun σ2 E2 o2 => ⟨wipe_out o2 hsub, ρ, F2, st, env1, O2, E2, ?_⟩⟩
          cases ht : tst Φ ct env1 st with
          | stuck => rw [ht] at q; exact q.elim
          | exc => rw [ht] at q; exact q.elim
          | ok b st2 =>
            rw [ht, R.bind_ok] at q
            intro b' H3 ρ3 F3 S3 O3 eb
            subst eb
            obtain ⟨hHD3, hFD3, hρD3⟩ := S3.still hHD2 rfl hFD2 hρD2
            have S03 := S02.trans S3
            have Ra3 := (Ra.step S2).step S3
            cases b' with
            | false => rw [if_neg (by simp)]; exact ⟨ρ3, F3, st2, acc, accV, S03, O3, hHD3, hFD3, hρD3, Ra3, q⟩
            | true =>
              rw [if_pos rfl]
              refine ⟨ρ3, F3, st2, env1, O3, E2.step S3, ?_⟩
              simp only at q
              cases hv : ev Φ ce env1 st2 with
              | stuck => rw [hv] at q; exact q.elim
              | exc => rw [hv] at q; exact q.elim
              | ok y st3 =>
                rw [hv, R.bind_ok] at q
                intro v H4 ρ4 F4 S4 O4 R4
                obtain ⟨hHD4, hFD4, hρD4⟩ := S4.still hHD3 rfl hFD3 hρD3
                have S04 := S03.trans S4
                have Ra4 := Ra3.step S4
                cases ha : addL acc y with
                | none => rw [ha] at q; exact q.elim
                | some acc' =>
                  rw [ha] at q
                  obtain ⟨hz, rfl⟩ := addL_ok ha
                  exact ⟨accV, hHD4, by rw [Ra4.length]; exact hz, ρ4, F4, st3, acc ++ [y], accV ++ [v], S04.poke hD, O4.poke hFD4 hρD4, upd_same, hFD4, hρD4, Ra4.append (.cons R4 .nil), q⟩
      · exact q.elim
theorem sE_lc {elt t iter : Expr} {ifs : List Expr} {scope : Scope} {own : List (Str × Nat)} {pos : Pos} {c : CE} {tg : Tg} {ct ce : CE} {m : Bool} (hc : X.calm = true) (hN : X.N.Nodup) (hsrc : lstSrc c = true) (hns : notSet iter = true) (hi : PI X t iter (iG X.K cl W Φ c))
    (L : LcOk X cl Φ scope own t ifs tg ct) (he : ∀ (s : Shared) (H : Hp) (C : Addr) (cls : List (Str × Addr)) (fp : List Addr), PE (X.blk s H scope (compEnvC scope cls C X.env) fp) elt (tE X.K cl (fun _ _ _ _ => False) Φ ce)) :
    PE X (.ListComp elt [⟨t, iter, ifs, 0⟩] scope pos) (tE X.K cl W Φ (.lc m (own.map (·.2)) c tg ct ce)) :=
  weakPE (pe_lc hc hN hi L.ok L.hg L.ht he (hs := folded_no hns)) fun σ H Q h => lc_turns L.sub hsrc h
theorem sS_setLc {i : Nat} {y : Str} {py : Pos} {elt t iter : Expr} {ifs : List Expr} {scope : Scope} {own : List (Str × Nat)} {pos spos : Pos} {c : CE} {tg : Tg} {ct ce : CE} {m : Bool} (hc : X.calm = true) (hN : X.N.Nodup) (hy : X.N[i]? = some y) (hyl : X.env.scope.names.lookup y = some .local)
    (hk : X.env.scope.kind = .function) (hl : (py.line == pos.line) = true) (ha : (scope.names.any fun (n, k) => n == y && (k == .local || k == .cell)) = false) (hsrc : lstSrc c = true) (hns : notSet iter = true) (hi : PI X t iter (iG X.K cl W Φ c))
    (L : LcOk X cl Φ scope own t ifs tg ct) (he : ∀ (s : Shared) (H : Hp) (C : Addr) (cls : List (Str × Addr)) (fp : List Addr), PE (X.blk s H scope (compEnvC scope cls C X.env) fp) elt (tE X.K cl (fun _ _ _ _ => False) Φ ce)) :
    PS X (.Assign [.Name y py] (.ListComp elt [⟨t, iter, ifs, 0⟩] scope pos) spos) (tS X.K cl W Φ (.asg (.nam i) (.lc m (own.map (·.2)) c tg ct ce))) :=
  weakPS (ps_setLc hc hN hy hyl (sw_true hk hyl hl ha) hi L.ok L.hg L.ht he (hs := folded_no hns)) fun D σ H ⟨ρ, F, st, env, O, E, q⟩ => by
    refine lc_turns (m := m) L.sub hsrc ⟨ρ, F, st, env, O, E, (PostS.thn (rel := Rp X.K) E q).imp fun x H1 ⟨ρ1, F1, st1, a, S1, O1, R1, q1⟩ => ?_⟩
    exact q1 _ H1 ρ1 F1 .refl O1 ((E.step S1).set R1)
end
end WW

namespace WW
open PySem PySem.Spec L2
section
variable {K : PySem.W.Frag} {cl : Nat → Option Addr} {F : Hp} {ρ : List Addr} {its : List D} {gs : List (Nat × List D)}
theorem enumD_len : ∀ (k : Nat) (xs : List D), (enumD k xs).length = xs.length
  | _, [] => rfl
  | k, x :: xs => by rw [enumD, List.length_cons, List.length_cons, enumD_len (k + 1) xs]
theorem enumD_get : ∀ (k : Nat) (xs : List D) (i : Nat), (enumD k xs)[i]? = (xs[i]?).map fun x => mkT [io ((k + i : Nat) : Int), x]
  | _, [], i => by simp [enumD]
  | k, x :: xs, 0 => rfl
  | k, x :: xs, i + 1 => by
    rw [enumD, List.getElem?_cons_succ, List.getElem?_cons_succ, enumD_get (k + 1) xs i]
    have : k + 1 + i = k + (i + 1) := by omega
    rw [this]
theorem zipD_len : ∀ (xs ys : List D), (zipD xs ys).length = min xs.length ys.length
  | [], ys => by simp [zipD]
  | _ :: _, [] => by simp [zipD]
  | x :: xs, y :: ys => by rw [zipD, List.length_cons, List.length_cons, List.length_cons, zipD_len xs ys]; omega
theorem zipD_get : ∀ (xs ys : List D) (i : Nat) (d : D), (zipD xs ys)[i]? = some d → ∃ x y, xs[i]? = some x ∧ ys[i]? = some y ∧ d = mkT [x, y]
  | [], ys, i, d, h => by simp [zipD] at h
  | _ :: _, [], i, d, h => by simp [zipD] at h
  | x :: xs, y :: ys, 0, d, h => by cases h; exact ⟨x, y, rfl, rfl, rfl⟩
  | x :: xs, y :: ys, i + 1, d, h => zipD_get xs ys i d (by simpa [zipD] using h)
/-- a pair that was made at T -/
theorem pair_new {H' : Hp} {ρ' : List Addr} {F' : Hp} {st : Store} {T : Addr} {v w : V} {d e : D} (O : Ok K cl H' ρ' F' st) (hT : H' T = none) (r1 : Rp K F' ρ' v d) (r2 : Rp K F' ρ' w e) :
    ∃ F'', Step ρ' F' H' ρ' F'' (upd H' T (.tup [v, w])) ∧ Ok K cl (upd H' T (.tup [v, w])) ρ' F'' st ∧ Rp K F'' ρ' (.ref T) (mkT [d, e]) := by
  obtain ⟨S, O'⟩ := O.lay (u := .tup [v, w]) hT
  exact ⟨_, S, O', mkT_ok upd_same (.cons (r1.step S) (.cons (r2.step S) .nil))⟩
theorem wlk_enum {a : Addr} (h : ∀ (H' : Hp) (ρ' : List Addr) (F' : Hp) (st : Store), Ok K cl H' ρ' F' st → Same F F' → (∃ m, ρ' = ρ ++ m) → Still gs st → ∃ vs, SqL K H' a vs ∧ Rps K F' ρ' vs its) : Wlk K cl (Ite K a) [] (enumD 0 its) gs ρ F where
  goes := fun i H' ρ' F' st O S m G _ hi => by
    obtain ⟨vs, h1, h2⟩ := h H' ρ' F' st O S m G
    rw [enumD_len, ← h2.length] at hi
    exact ⟨vs, vs[i], h1, List.getElem?_eq_getElem hi⟩
  stops := fun H' ρ' F' st O S m G _ => by
    obtain ⟨vs, h1, h2⟩ := h H' ρ' F' st O S m G
    exact ⟨vs, h1, by rw [enumD_len, h2.length]; exact Nat.le_refl _⟩
  yields := fun i d H' ρ' F' st x H'' O S m G _ hd hy => by
    obtain ⟨vs, h1, h2⟩ := h H' ρ' F' st O S m G
    obtain ⟨T, y, rfl, hT, rfl, hx⟩ := hy
    rw [enumD_get, Option.map_eq_some_iff] at hd
    obtain ⟨e, he, rfl⟩ := hd
    obtain ⟨v, h3, h4⟩ := h2.get he
    have := hx vs h1
    rw [h3] at this; cases this
    rw [Nat.zero_add]
    exact pair_new O hT (.py (.int _)) h4
theorem wlk_rev {a : Addr} (h : ∀ (H' : Hp) (ρ' : List Addr) (F' : Hp) (st : Store), Ok K cl H' ρ' F' st → Same F F' → (∃ m, ρ' = ρ ++ m) → Still gs st → ∃ vs, SqL K H' a vs ∧ Rps K F' ρ' vs its) : Wlk K cl (Itv K a its.length) [] its.reverse gs ρ F where
  goes := fun i H' ρ' F' st O S m G _ hi => by
    obtain ⟨vs, h1, h2⟩ := h H' ρ' F' st O S m G
    rw [List.length_reverse] at hi
    have hl := h2.length
    exact ⟨hi, vs, vs[its.length - 1 - i]'(by omega), h1, List.getElem?_eq_getElem _⟩
  stops := fun H' ρ' F' st O S m G _ => by
    show its.length ≤ its.reverse.length
    rw [List.length_reverse]; exact Nat.le_refl _
  yields := fun i d H' ρ' F' st x H'' O S m G _ hd hy => by
    obtain ⟨vs, h1, h2⟩ := h H' ρ' F' st O S m G
    obtain ⟨rfl, hx⟩ := hy
    have hi : i < its.length := by have := (List.getElem?_eq_some_iff.mp hd).1; rwa [List.length_reverse] at this
    rw [List.getElem?_reverse hi] at hd
    obtain ⟨v, h3, h4⟩ := h2.get hd
    have := hx vs h1
    rw [h3] at this; cases this
    exact ⟨F', .refl, O, h4⟩
theorem wlk_zip {a b : Addr} {its2 : List D} (h : ∀ (H' : Hp) (ρ' : List Addr) (F' : Hp) (st : Store), Ok K cl H' ρ' F' st → Same F F' → (∃ m, ρ' = ρ ++ m) → Still gs st → ∃ vs ws, SqL K H' a vs ∧ SqL K H' b ws ∧ Rps K F' ρ' vs its ∧ Rps K F' ρ' ws its2) : Wlk K cl (Itz K a b) [] (zipD its its2) gs ρ F where
  goes := fun i H' ρ' F' st O S m G _ hi => by
    obtain ⟨vs, ws, h1, h2, h3, h4⟩ := h H' ρ' F' st O S m G
    rw [zipD_len, ← h3.length, ← h4.length] at hi
    exact ⟨vs, ws, vs[i]'(by omega), ws[i]'(by omega), h1, h2, List.getElem?_eq_getElem _, List.getElem?_eq_getElem _⟩
  stops := fun H' ρ' F' st O S m G _ => by
    obtain ⟨vs, ws, h1, h2, h3, h4⟩ := h H' ρ' F' st O S m G
    refine ⟨vs, ws, h1, h2, ?_⟩
    rw [zipD_len, h3.length, h4.length]; omega
  yields := fun i d H' ρ' F' st x H'' O S m G _ hd hy => by
    obtain ⟨vs, ws, h1, h2, h3, h4⟩ := h H' ρ' F' st O S m G
    obtain ⟨T, p, q, rfl, hT, rfl, hp, hq⟩ := hy
    obtain ⟨x, y, e1, e2, rfl⟩ := zipD_get _ _ _ _ hd
    obtain ⟨v, k1, k2⟩ := h3.get e1
    obtain ⟨w, k3, k4⟩ := h4.get e2
    have z1 := hp vs h1
    have z2 := hq ws h2
    rw [k1] at z1; cases z1
    rw [k3] at z2; cases z2
    exact pair_new O hT k2 k4
theorem wlk_zipT {a b : Addr} {its2 : List D} (h : ∀ (H' : Hp) (ρ' : List Addr) (F' : Hp) (st : Store), Ok K cl H' ρ' F' st → Same F F' → (∃ m, ρ' = ρ ++ m) → Still gs st → ∃ vs ws, SqT K H' a vs ∧ SqT K H' b ws ∧ Rps K F' ρ' vs its ∧ Rps K F' ρ' ws its2) : Wlk K cl (RZ.ItzT K a b) [] (zipD its its2) gs ρ F where
  goes := fun i H' ρ' F' st O S m G _ hi => by
    obtain ⟨vs, ws, h1, h2, h3, h4⟩ := h H' ρ' F' st O S m G
    rw [zipD_len, ← h3.length, ← h4.length] at hi
    exact ⟨vs, ws, vs[i]'(by omega), ws[i]'(by omega), h1, h2, List.getElem?_eq_getElem _, List.getElem?_eq_getElem _⟩
  stops := fun H' ρ' F' st O S m G _ => by
    obtain ⟨vs, ws, h1, h2, h3, h4⟩ := h H' ρ' F' st O S m G
    refine ⟨vs, ws, h1, h2, ?_⟩
    rw [zipD_len, h3.length, h4.length]; omega
  yields := fun i d H' ρ' F' st x H'' O S m G _ hd hy => by
    obtain ⟨vs, ws, h1, h2, h3, h4⟩ := h H' ρ' F' st O S m G
    obtain ⟨T, p, q, rfl, hT, rfl, hp, hq⟩ := hy
    obtain ⟨x, y, e1, e2, rfl⟩ := zipD_get _ _ _ _ hd
    obtain ⟨v, k1, k2⟩ := h3.get e1
    obtain ⟨w, k3, k4⟩ := h4.get e2
    have z1 := hp vs h1
    have z2 := hq ws h2
    rw [k1] at z1; cases z1
    rw [k3] at z2; cases z2
    exact pair_new O hT k2 k4
theorem wlk_revT {a : Addr} (h : ∀ (H' : Hp) (ρ' : List Addr) (F' : Hp) (st : Store), Ok K cl H' ρ' F' st → Same F F' → (∃ m, ρ' = ρ ++ m) → Still gs st → ∃ vs, SqT K H' a vs ∧ Rps K F' ρ' vs its) : Wlk K cl (RT.ItvT K a its.length) [] its.reverse gs ρ F where
  goes := fun i H' ρ' F' st O S m G _ hi => by
    obtain ⟨vs, h1, h2⟩ := h H' ρ' F' st O S m G
    rw [List.length_reverse] at hi
    have hl := h2.length
    exact ⟨hi, vs, vs[its.length - 1 - i]'(by omega), h1, List.getElem?_eq_getElem _⟩
  stops := fun H' ρ' F' st O S m G _ => by
    show its.length ≤ its.reverse.length
    rw [List.length_reverse]; exact Nat.le_refl _
  yields := fun i d H' ρ' F' st x H'' O S m G _ hd hy => by
    obtain ⟨vs, h1, h2⟩ := h H' ρ' F' st O S m G
    obtain ⟨rfl, hx⟩ := hy
    have hi : i < its.length := by have := (List.getElem?_eq_some_iff.mp hd).1; rwa [List.length_reverse] at this
    rw [List.getElem?_reverse hi] at hd
    obtain ⟨v, h3, h4⟩ := h2.get hd
    have := hx vs h1
    rw [h3] at this; cases this
    exact ⟨F', .refl, O, h4⟩
end
section
variable {X : Cx} {cl : Nat → Option Addr} {W : WX} {Φ : Nat → Fn}
/-- a source by one thing's answer -/
theorem src_one {tg e : Expr} {ca c : CE} {f : Store → D → Option Src} (hc : ∀ env st, srcs Φ c env st = (ev Φ ca env st).bind fun x st => giveS st (f st x)) {t0 : TI} (h0 : PI X tg e t0)
    (hno : ∀ σ H J0, tE X.K cl W Φ ca σ H (fun _ _ => False) → t0 σ H J0)
    (h : ∀ (st : Store) (x : D) (s : Src), f st x = some s → ∃ t1 : TI, PI X tg e t1 ∧ ∀ (σ : St) (H : Hp) (J0 : It → Hp → Prop), tE X.K cl W Φ ca σ H (fun v H1 => ∃ ρ1 F1, Ok X.K cl H1 ρ1 F1 st ∧ Rp X.K F1 ρ1 v x ∧ ∀ J, Wlk X.K cl J [] s.its s.gs ρ1 F1 → J0 J H1) → t1 σ H J0) : PI X tg e (iG X.K cl W Φ c) :=
  choosePI fun σ H J0 ⟨ρ, F, st, env, O, E, q⟩ => by
    rw [hc] at q
    cases he : ev Φ ca env st with
    | stuck => rw [he] at q; exact q.elim
    | exc c fs st1 =>
      rw [he] at q
      refine ⟨_, h0, hno σ H J0 ⟨ρ, F, st, env, O, E, by rw [he]; exact q⟩⟩
    | ok x st1 =>
      rw [he, R.bind_ok] at q
      cases hf : f st1 x with
      | none => rw [hf] at q; exact q.elim
      | some s =>
        rw [hf] at q
        obtain ⟨t1, h1, h2⟩ := h st1 x s hf
        refine ⟨t1, h1, h2 σ H J0 ⟨ρ, F, st, env, O, E, ?_⟩⟩
        rw [he]
        intro v H1 ρ1 F1 S1 O1 R1
        exact ⟨ρ1, F1, O1, R1, fun J w => q H1 ρ1 F1 J S1 O1 w⟩
theorem sI_rvd {tg a : Expr} {x : Str} {p pos : Pos} {ca : CE} (hx : x = "reversed") (hg : Gl X x) (hm : X.mg x = none) (hs : notStar a = true) (ha : PE X a (tE X.K cl W Φ ca)) : PI X tg (.Call (.Name x p) [a] [] pos) (iG X.K cl W Φ (.rvd ca)) := by
  subst hx
  have base := RT.pi_revA (tg := tg) (p := p) (pos := pos) hg hm ha (starEach_plain hs)
  refine src_one (f := fun st x => (asLT st x).map fun xs => { its := xs.reverse, gs := gsO st x }) (fun env st => rfl) base (fun σ H J0 h => tG_imp h fun _ _ z => z.elim) fun st d s hf => ?_
  obtain ⟨xs, h1, rfl⟩ := Option.map_eq_some_iff.mp hf
  refine ⟨_, base, fun σ H J0 h => tG_imp h fun v H1 ⟨ρ1, F1, O1, R1, k⟩ => ?_⟩
  cases ht : asT d with
  | some ys =>
    have : ys = xs := by unfold asLT at h1; rw [ht] at h1; exact Option.some.inj h1
    subst this
    obtain ⟨a, rfl, h4⟩ := standT_ok (cl := cl) R1 ht
    obtain ⟨ws, h5, h6⟩ := h4 H1 ρ1 F1 st O1 (Same.refl F1) ⟨[], by simp⟩
    have hl := h6.length
    exact ⟨a, ws, rfl, .inr ⟨h5, by rw [hl]; exact k _ (wlk_revT fun H' ρ' F' st' O' S m _ => h4 H' ρ' F' st' O' S m)⟩⟩
  | none =>
    have h1' : asL st d = some xs := by unfold asLT at h1; rw [ht] at h1; exact h1
    obtain ⟨a, ws, rfl, h5, h6⟩ := asL_ok O1 R1 h1'
    obtain ⟨a', e1, h4⟩ := standL_ok (cl := cl) R1 h1'
    cases e1
    have hl := h6.length
    exact ⟨a, ws, rfl, .inl ⟨.inl h5, by rw [hl]; exact k _ (wlk_rev h4)⟩⟩
def isTupE : Expr → Bool
  | .Tuple _ _ _ => true
  | _ => false
theorem isTupE_ok {e : Expr} (h : isTupE e = true) : ∃ es k p, e = .Tuple es k p := by
  unfold isTupE at h
  split at h
  · exact ⟨_, _, _, rfl⟩
  · cases h
theorem one_imp {ca : CE} {σ : St} {H : Hp} {Q : List V → Hp → Prop} (h : tE X.K cl W Φ ca σ H fun v H1 => Q [v] H1) : tEs X.K cl W Φ (.cons ca .nil) σ H Q := by
  obtain ⟨ρ, F, st, env, O, E, q⟩ := h
  refine ⟨ρ, F, st, env, O, E, ?_⟩
  rw [evs]
  cases he : ev Φ ca env st with
  | stuck => rw [he] at q; exact q
  | exc => rw [he] at q; exact q
  | ok d st1 =>
    rw [he] at q
    simp only [R.bind_ok, evs]
    intro vs H1 ρ1 F1 S1 O1 R1
    obtain ⟨v, rfl, r⟩ := R1.one
    exact q v H1 ρ1 F1 S1 O1 r
theorem sI_enum {tg a : Expr} {x : Str} {p pos : Pos} {ca : CE} (ht : isTupE tg = true) (hx : x = "enumerate") (hg : Gl X x) (hm : X.mg x = none) (hs : notStar a = true) (ha : PA X [a] (tEs X.K cl W Φ (.cons ca .nil))) : PI X tg (.Call (.Name x p) [a] [] pos) (iG X.K cl W Φ (.enum ca)) := by
  subst hx
  obtain ⟨es, k, tp, rfl⟩ := isTupE_ok ht
  have base := pi_enum (p := p) (pos := pos) (elts := es) (kk := k) (tpos := tp) hg hm ha (by rw [starEach_plain hs]; rfl)
  refine src_one (f := fun st x => (asL st x).map fun xs => { its := enumD 0 xs, gs := gsO st x }) (fun env st => rfl) base (fun σ H J0 h => one_imp (tG_imp h fun _ _ z => z.elim)) fun st d s hf => ?_
  obtain ⟨xs, h1, rfl⟩ := Option.map_eq_some_iff.mp hf
  refine ⟨_, base, fun σ H J0 h => one_imp (tG_imp h fun v H1 ⟨ρ1, F1, O1, R1, k⟩ => ?_)⟩
  obtain ⟨a, ws, rfl, h5, h6⟩ := asL_ok O1 R1 h1
  obtain ⟨a', e1, h4⟩ := standL_ok (cl := cl) R1 h1
  cases e1
  exact ⟨a, ws, rfl, .inl h5, k _ (wlk_enum h4)⟩
theorem sI_zip {tg a b : Expr} {x : Str} {p pos : Pos} {ca cb : CE} (ht : isTupE tg = true) (hx : x = "zip") (hg : Gl X x) (hm : X.mg x = none) (hs : notStar a = true) (hs2 : notStar b = true) (ha : PA X [a, b] (tEs X.K cl W Φ (.cons ca (.cons cb .nil)))) :
    PI X tg (.Call (.Name x p) [a, b] [] pos) (iG X.K cl W Φ (.zip (.cons ca (.cons cb .nil)))) := by
  subst hx
  obtain ⟨es, k, tp, rfl⟩ := isTupE_ok ht
  exact choosePI fun σ H J0 ⟨ρ, F, st, env, O, E, q⟩ => by
    refine ⟨_, RZ.pi_zipA (p := p) (pos := pos) (elts := es) (kk := k) (tpos := tp) hg hm ha (starEach_plain hs) (backTo_plain (by simp only [List.all_cons, hs2]; rfl)), ρ, F, st, env, O, E, ?_⟩
    rw [srcs] at q
    cases he : evs Φ (.cons ca (.cons cb .nil)) env st with
    | stuck => rw [he] at q; exact q.elim
    | exc c fs st1 => rw [he] at q; exact q
    | ok ds st1 =>
      rw [he, R.bind_ok] at q
      intro vs H1 ρ1 F1 S1 O1 R1
      obtain ⟨d, e, rfl⟩ := evs_two he
      obtain ⟨v, w, rfl, r, r2⟩ := R1.two
      cases hi : zipO st1 [d, e] with
      | none => rw [hi] at q; exact q.elim
      | some s =>
        rw [hi] at q
        simp only [zipO] at hi
        split at hi
        · rename_i xs ys h1 h2
          cases hi
          obtain ⟨a, rfl, h4⟩ := standT_ok (cl := cl) r h1
          obtain ⟨b, rfl, h5⟩ := standT_ok (cl := cl) r2 h2
          obtain ⟨ws, k1, _⟩ := h4 H1 ρ1 F1 st1 O1 (Same.refl F1) ⟨[], by simp⟩
          obtain ⟨us, k2, _⟩ := h5 H1 ρ1 F1 st1 O1 (Same.refl F1) ⟨[], by simp⟩
          exact ⟨a, b, ws, us, rfl, .inr ⟨k1, k2, q H1 ρ1 F1 _ S1 O1 (wlk_zipT fun H' ρ' F' st' O' S m _ => by
            obtain ⟨p1, z1, z2⟩ := h4 H' ρ' F' st' O' S m
            obtain ⟨p2, z3, z4⟩ := h5 H' ρ' F' st' O' S m
            exact ⟨p1, p2, z1, z3, z2, z4⟩)⟩⟩
        · obtain ⟨xs, h1, hi⟩ := Option.bind_eq_some_iff.mp hi
          obtain ⟨ys, h2, rfl⟩ := Option.map_eq_some_iff.mp hi
          obtain ⟨a, ws, rfl, k1, _⟩ := asL_ok O1 r h1
          obtain ⟨b, us, rfl, k2, _⟩ := asL_ok O1 r2 h2
          obtain ⟨a', e1, h4⟩ := standL_ok (cl := cl) r h1
          cases e1
          obtain ⟨b', e1, h5⟩ := standL_ok (cl := cl) r2 h2
          cases e1
          exact ⟨a, b, ws, us, rfl, .inl ⟨.inl k1, .inl k2, q H1 ρ1 F1 _ S1 O1 (wlk_zip fun H' ρ' F' st' O' S m G => by
            obtain ⟨p1, z1, z2⟩ := h4 H' ρ' F' st' O' S m fun g hg => G g (List.mem_append_left _ hg)
            obtain ⟨p2, z3, z4⟩ := h5 H' ρ' F' st' O' S m fun g hg => G g (List.mem_append_right _ hg)
            exact ⟨p1, p2, z1, z3, z2, z4⟩)⟩⟩
        · cases hi
end
end WW

namespace WW
open PySem PySem.Spec L2
/-! ### dict comprehensions, keys of either kind -/
def emp (t : Bool) : HO := if t = true then .dT [] else .dK []
theorem emp_ok {P : Program} {w : World} {H : Hp} (t : Bool) (h : Heap) (hb : sysModules < h.objs.size) : ObjOk P w H (h.push { cls := .type "dict", data := .dict #[] }) h.objs.size (emp t) := by
  cases t with
  | false => exact dk_empty h hb
  | true => exact dt_empty h hb
/-- one more entry -/
theorem put_in {X : Cx} {pins : List (Addr × Obj)} {σ : St} {H H' : Hp} {s : Shared} {E : Value → Shared → Prop} {D : Addr} {y v : V} {u r : Value} {Q : Unit → Shared → Prop} (hu : X.A.units < cLine) (I : Inv X pins σ H s) (g : DPut H D y v H') (ry : RelV y u) (rv : RelV v r)
    (h : ∀ s', Inv X pins σ H' s' → Q () s') : wpAny (model X.prog X.w) X.A (dictSet D u r) Q E s := by
  rcases g with ⟨kvs, k, e, rfl, l, rfl⟩ | ⟨kvs, k, b, e, rfl, eb, l, rfl⟩
  · obtain ⟨z, hd, vs, rel, dd⟩ := dk_of I.hok e
    refine wpAny_dictSet_pairs (hsz := by rw [← rel.length]; exact z) (kV_is ry) dd fun h1 d1 hs => h _ ?_
    have := length_putK kvs k v
    exact d_write I (by rw [e]; trivial) hs (let ⟨q, _, _, hq, _⟩ := d1; ⟨q, hq⟩) (dk_new (by omega) hd (rel.put k rv) d1)
  · cases (show u = Value.ref b from ry)
    obtain ⟨z, hd, xs, rel, dd⟩ := dt_of I.hok e
    refine wpAny_dictSet_heap (knd := tupleKind (mixKind X.prog X.w)) (hsz := by rw [← Paired.length rel]; exact z) (show X.A.units < cLine from hu) (key_of I.hok eb) dd fun h1 d1 hs => h _ ?_
    have hl := length_putK kvs k v
    obtain ⟨q, es, ep, hq, g2, g3, g4, _, g5⟩ := d1
    exact d_write I (by rw [e]; trivial) hs ⟨q, hq⟩ ⟨by omega, hd, _, (rel.put k eb rv).keeps fun c ys ec => by rw [upd_ne (ne_of ec e (by nofun))]; exact ec, q, es, ep, hq, g2, g3, g4, g5⟩
/-- {k: v for target in iter if ..}: D the new dict -/
def tDq (t : Bool) (wi : TI) (g : TG) (tt : TT) (tk tv : TE) (vs : List Nat) : TE := fun σ H Q => wi σ H fun J H1 => ∀ D, H1 D = none → ∃ W : Nat → Nat → Hp → Prop, (∃ m, W 0 m (upd H1 D (emp t))) ∧ ∀ i m H, W i m H →
  (J.stop i H ∧ Q (.ref D) H) ∨ (J.go i H ∧ ∃ Nx : Hp → Prop, (∀ H', Nx H' → ∃ m', m' < m ∧ W (i + 1) m' H') ∧ ∀ x H', J.yld i H x H' → g x (L2.wipe σ vs) H' fun σ2 H2 => L2.wipe σ2 vs = L2.wipe σ vs ∧ tt σ2 H2 fun b H3 =>
    if b = true then tk σ2 H3 fun y H4 => tv σ2 H4 fun z H5 => ∃ H6, DPut H5 D y z H6 ∧ Nx H6 else Nx H3)
theorem pe_dq {X : Cx} {t : Bool} {kx vx tg iter : Expr} {ifs : List Expr} {scope : Scope} {own : List (Str × Nat)} {pos : Pos} {wi : TI} {g : TG} {tt : TT} {tk tv : TE} (hu : X.A.units < cLine) (hc : X.calm = true) (hN : X.N.Nodup) (hi : PI X tg iter wi) (ok : BlkOk X.N X.env.scope scope own)
    (hg : ∀ (s : Shared) (H : Hp) (C : Addr) (cls : List (Str × Addr)) (fp : List Addr), PG (X.blk s H scope (compEnvC scope cls C X.env) fp) tg g) (ht : ∀ (s : Shared) (H : Hp) (C : Addr) (cls : List (Str × Addr)) (fp : List Addr), PTs (X.blk s H scope (compEnvC scope cls C X.env) fp) ifs tt)
    (hk : ∀ (s : Shared) (H : Hp) (C : Addr) (cls : List (Str × Addr)) (fp : List Addr), PE (X.blk s H scope (compEnvC scope cls C X.env) fp) kx tk)
    (he : ∀ (s : Shared) (H : Hp) (C : Addr) (cls : List (Str × Addr)) (fp : List Addr), PE (X.blk s H scope (compEnvC scope cls C X.env) fp) vx tv) (hs : ∀ x, foldedSetIterable iter X.env x = pure x) :
    PE X (.DictComp kx vx [⟨tg, iter, ifs, 0⟩] scope pos) (tDq t wi g tt tk tv (own.map (·.2))) := by
  refine ⟨fun pins s σ H Q I h => ?_⟩
  rw [arm_eval_DictComp]
  have fr : ∀ y ∈ scope.names, y.2 = .free → ∃ c, X.env.cells.lookup y.1 = some c := fun y hy e => (ok.free y hy e).elim (fun z => I.ok.has _ (.inl z)) fun z => I.ok.has _ (.inr z)
  refine wpAny_comprehension_free (use := none) rfl hs (closure_ok fr) ok.kind (fun y hy e => (ok.uniq y hy).trans (congrArg some e)) (thn (hi.run pins s σ H _ I h) fun xv s1 hx => thn hx fun itv s2 g2 => ?_)
  obtain ⟨it, fp, tn, J, H2, rfl, I2, T, a2, f2, q⟩ := g2
  refine wpAny_newObj_type (newEnv_comp ?_)
  generalize eD : s2.heap.objs.size = Dn
  obtain ⟨W, ⟨m0, w0⟩, turn⟩ := q Dn (I2.hok.fresh (Nat.le_of_eq eD))
  generalize e3 : ({ s2 with heap := s2.heap.push { cls := .type "dict", data := .dict #[] } } : Shared) = s3
  have p3 : s3.heap = s2.heap.push { cls := .type "dict", data := .dict #[] } := by rw [← e3]
  have I3 : Inv X pins σ (upd H2 Dn (emp t)) s3 := by
    rw [← e3]
    exact I2.laid (t' := s2.toks) (fun b o e => Heap.get?_push_of_some _ e) (Nat.le_of_eq eD) (by rw [← eD]; exact emp_ok t s2.heap I2.big)
  have low : ∀ b ∈ fp, b < s2.heap.objs.size := fun b hb => let ⟨o, e, _⟩ := T.obj _ _ a2 b hb; Heap.lt_size e
  have f3 : ∀ b ∈ fp, FpOk X pins (upd H2 Dn (emp t)) b ∧ b < s3.heap.objs.size := fun b hb =>
    ⟨⟨by rw [upd_ne (by rw [← eD]; exact Nat.ne_of_lt (low b hb))]; exact (f2 b hb).1, (f2 b hb).2⟩, by rw [p3, Heap.size_push]; exact Nat.lt_succ_of_lt (low b hb)⟩
  have a3 : tn 0 s3.heap := T.keep _ _ _ a2 fun b _ o e => by rw [p3]; exact Heap.get?_push_of_some _ e
  have I4 := block_start I3 ok hN f3
  have pg := hg s3 (upd H2 Dn (emp t)) s3.heap.objs.size (cellsFrom (s3.heap.objs.size + 1) scope.names (cloFrom X.env.cells scope.names [])) fp
  have pt := ht s3 (upd H2 Dn (emp t)) s3.heap.objs.size (cellsFrom (s3.heap.objs.size + 1) scope.names (cloFrom X.env.cells scope.names [])) fp
  have pk := hk s3 (upd H2 Dn (emp t)) s3.heap.objs.size (cellsFrom (s3.heap.objs.size + 1) scope.names (cloFrom X.env.cells scope.names [])) fp
  have pv := he s3 (upd H2 Dn (emp t)) s3.heap.objs.size (cellsFrom (s3.heap.objs.size + 1) scope.names (cloFrom X.env.cells scope.names [])) fp
  show codeAny _ _ (.compStart (.DictComp kx vx [⟨tg, iter, ifs, 0⟩] scope pos) 0 (.ref it) (.ref Dn) (compEnvC scope (cellsFrom (s3.heap.objs.size + 1) scope.names (cloFrom X.env.cells scope.names [])) s3.heap.objs.size X.env)) (compPost (model X.prog X.w) X.A X.xe none _ (.ref Dn) s3.heap.objs.size) { s3 with heap := pushCells (s3.heap.push { cls := .type "dict", data := .dict #[] }) scope.names }
  have nfp : ∀ b ∈ fp, (upd H2 Dn (emp t)) b = none := fun b hb => (f3 b hb).1.1
  generalize ece : compEnvC scope (cellsFrom (s3.heap.objs.size + 1) scope.names (cloFrom X.env.cells scope.names [])) s3.heap.objs.size X.env = ce at I4 pg pt pk pv ⊢
  have cL : ce.locals = s3.heap.objs.size := by rw [← ece]; rfl
  generalize eH3 : upd H2 Dn (emp t) = H3 at I3 I4 pg pt pk pv w0 nfp f3
  generalize e4 : ({ s3 with heap := pushCells (s3.heap.push { cls := .type "dict", data := .dict #[] }) scope.names } : Shared) = s4 at I4 ⊢
  have a4 : tn 0 s4.heap := T.keep _ _ _ a3 fun b _ o e => by rw [← e4]; exact pushCells_keeps _ _ _ _ (Heap.get?_push_of_some _ e)
  have fpo : ∀ {σ' : St} {H' : Hp} {s' : Shared}, Inv (X.blk s3 H3 scope ce fp) [] σ' H' s' → (∀ b ∈ fp, H' b = none) → ∀ b ∈ fp, FpOk (X.blk s3 H3 scope ce fp) [] H' b := fun {σ' H' s'} I' hn b hb =>
    ⟨hn b hb, (I'.ok.exf b hb).1, I'.ok.exfs b hb, .inl hb, fun x c e => (I'.ok.exf b hb).2 x c e, fun p hp => absurd (show p ∈ ([] : List (Addr × Obj)) ++ [] from hp) (by simp)⟩
  have loop := compLoop_anyD (prog := X.prog) (w := X.w) (A := X.A) (R := compPost (model X.prog X.w) X.A X.xe none (EP X pins σ Q) (.ref Dn) s3.heap.objs.size) (kx := kx) (vx := vx) (target := tg) (iter := iter) (ifs := ifs) (scope := scope) (pos := pos) (it := .ref it) (D := Dn) (env := ce)
      (fun n s' => ∃ i H', Inv (X.blk s3 H3 scope ce fp) [] (L2.wipe σ (own.map (·.2))) H' s' ∧ tn i s'.heap ∧ (∀ b ∈ fp, H' b = none) ∧ W i n H') ?turns m0 (s := s4) ⟨0, H3, I4, a4, nfp, w0⟩
  · exact codeAny_compStart_dict loop (T.self X.A 0 _ _ _ a4 loop)
  · rintro n s5 ⟨i, H5, I5, a5, n5, w5⟩
    rcases turn i n H5 w5 with ⟨stop, qq⟩ | ⟨go, Nx, hNx, step⟩
    · refine thnF (T.done (X.blk s3 H3 scope ce fp) rfl rfl rfl hc i [] s5 _ H5 (fun _ _ => False) I5 (fpo I5 n5) a5 stop) fun r s6 ⟨hr, I6⟩ => ?_
      subst hr
      have I7 : Inv X pins σ H5 s6 := I3.call' (ch := fp) I6.os I6.base I6.hok I6.bare fun b hb => let z := (f3 b hb).1.2; ⟨z.2.2.1, z.1, z.2.2.2.1, z.2.2.2.2⟩
      have nC : H5 s3.heap.objs.size = none := by
        have z : H5 ce.locals = none := I6.free
        rw [cL] at z; exact z
      obtain ⟨m, hn, _⟩ := I6.loc
      have hn : s6.heap.Ns s3.heap.objs.size m := by
        have z : s6.heap.Ns ce.locals m := hn
        rw [cL] at z; exact z
      obtain ⟨f0, f1, f2, f4, f5, f6⟩ := I3.fpOk (Nat.le_refl _) nC
      exact ⟨m, hn, fun h'' sb => ⟨.ref Dn, H5, I7.turned (t' := s6.toks) (fun b o hb e => (sb.2 b hb).trans e) f0 f1 f4 f5 f6, rfl, qq⟩⟩
    · refine thnF (T.item (X.blk s3 H3 scope ce fp) rfl rfl rfl hc i [] s5 _ H5 (fun _ _ => False) I5 (fpo I5 n5) a5 go) fun r s6 ⟨u, hr, h6⟩ => ?_
      subst hr
      refine thnF h6 fun _ s7 ⟨x, H7, I7, r7, y7, a7, n7⟩ => ?_
      refine thnF (pg.run _ s7 _ H7 x u _ (I7.pinned (fpo I7 n7) (T.obj _ _ a7)) r7 (step x H7 y7)) fun _ s8 ⟨σ8, H8, I8, w8, q8⟩ => ?_
      refine thnF (pt.run _ s8 σ8 H8 _ I8 q8) fun b s9 ⟨H9, I9, q9⟩ => ?_
      have fin : ∀ {s' : Shared} {H' : Hp}, Inv (X.blk s3 H3 scope ce fp) ([] ++ pinsAt fp s7.heap) σ8 H' s' → Nx H' → ∃ m, m < n ∧ ∃ i H', Inv (X.blk s3 H3 scope ce fp) [] (L2.wipe σ (own.map (·.2))) H' s' ∧ tn i s'.heap ∧ (∀ b ∈ fp, H' b = none) ∧ W i m H' := fun {s' H'} I' nx => by
        obtain ⟨m', hm, w'⟩ := hNx H' nx
        have pin : ∀ b ∈ fp, ∀ o, s7.heap.get? b = some o → s'.heap.get? b = some o ∧ H' b = none := fun b hb o e => let z := I'.pin (b, o) (List.mem_append_right _ (List.mem_append_right _ (mem_pinsAt hb e))); ⟨z.1, z.2.1⟩
        refine ⟨m', hm, i + 1, H', (I'.unpinned (pins := [])).weak (by rw [← w8, L2.wipe_length]) (fun j v e => (wipe_some (show (L2.wipe σ8 (own.map (·.2)))[j]? = some (some v) by rw [w8]; exact e)).1), T.keep _ _ _ a7 fun b hb o e => (pin b hb o e).1, fun b hb => ?_, w'⟩
        obtain ⟨o, e, _⟩ := T.obj _ _ a7 b hb
        exact (pin b hb o e).2
      cases b with
      | false =>
        rw [if_neg (by simp)] at q9 ⊢
        exact fin I9 q9
      | true =>
        rw [if_pos rfl] at q9 ⊢
        refine thnF (pk.run _ s9 σ8 H9 _ I9 q9) fun z s10 ⟨yk, H10, I10, r10, q10⟩ => ?_
        refine thnF (pv.run _ s10 σ8 H10 _ I10 q10) fun z2 s11 ⟨yv, H11, I11, r11, H12, g12, nx⟩ => ?_
        exact put_in (X := X.blk s3 H3 scope ce fp) hu I11 g12 r10 r11 fun s12 I12 => fin I12 nx
end WW

namespace WW
open PySem PySem.Spec L2
/-! ### what a call hands back as data -/
section
variable {K : PySem.W.Frag} {cl : Nat → Option Addr} {F1 F2 : Hp} {ρ1 : List Addr} {p : Nat → Bool} {st : Store}
def frzH : HO → Bool
  | .lst _ => true
  | .dK _ => true
  | .dT _ => true
  | _ => false
def FrzAt (K : PySem.W.Frag) (cl : Nat → Option Addr) (p : Nat → Bool) (st : Store) (F1 : Hp) (ρ1 : List Addr) (F2 : Hp) : Prop := ∀ k, p k = true → ∀ a, ρ1[k]? = some a → ∀ o, st[k]? = some o → ∃ u, ObjR K cl F1 ρ1 u o ∧ (frzH u = true → F2 a = some u)
theorem frzL_ok {f : D → Option PyData} (hf : ∀ v d q, Rp K F1 ρ1 v d → f d = some q → Rep K F2 v q) : ∀ {vs : List V} {ds : List D} {qs : List PyData}, Rps K F1 ρ1 vs ds → toPyL f ds = some qs → Reps K F2 vs qs
  | _, _, _, .nil, e => by cases e; exact .nil
  | _, _, _, .cons h r, e => by
    simp only [toPyL, Option.bind_eq_some_iff, Option.map_eq_some_iff] at e
    obtain ⟨q, e1, qs, e2, rfl⟩ := e
    exact .cons (hf _ _ _ h e1) (frzL_ok hf r e2)
theorem frzK_ok {f : D → Option PyData} (hf : ∀ v d q, Rp K F1 ρ1 v d → f d = some q → Rep K F2 v q) : ∀ {vs : List (Key × V)} {ds : List (Key × D)} {qs : List (PyData × PyData)}, RpK K F1 ρ1 vs ds → toPyK f ds = some qs → RepK K F2 vs qs
  | _, _, _, .nil, e => by cases e; exact .nil
  | _, _, _, .cons h r, e => by
    simp only [toPyK, Option.bind_eq_some_iff, Option.map_eq_some_iff] at e
    obtain ⟨q, e1, qs, e2, rfl⟩ := e
    exact .cons (hf _ _ _ h e1) (frzK_ok hf r e2)
theorem frzT_ok {f : D → Option PyData} (hf : ∀ v d q, Rp K F1 ρ1 v d → f d = some q → Rep K F2 v q) : ∀ {vs : List (List Key × V)} {ds : List (List Key × D)} {qs : List (PyData × PyData)}, RpK K F1 ρ1 vs ds → toPyT f ds = some qs → RepT K F2 vs qs
  | _, _, _, .nil, e => by cases e; exact .nil
  | _, _, _, .cons h r, e => by
    simp only [toPyT, Option.bind_eq_some_iff, Option.map_eq_some_iff] at e
    obtain ⟨q, e1, qs, e2, rfl⟩ := e
    exact .cons (hf _ _ _ h e1) (frzT_ok hf r e2)
theorem frz_ok (hS : Same F1 F2) (hp : FrzAt K cl p st F1 ρ1 F2) : ∀ (n : Nat) (v : V) (d : D) (q : PyData), Rp K F1 ρ1 v d → frzD p st n d = some q → Rep K F2 v q
  | n, _, .py d, q, .py r, e => by
    rw [frzD_py] at e
    cases e
    exact r.mono hS
  | 0, _, .tup ds, q, _, e => by cases e
  | 0, _, .loc k, q, _, e => by cases e
  | n + 1, _, .tup ds, q, .tup h r, e => by
    rw [frzD_tup] at e
    obtain ⟨qs, e1, rfl⟩ := Option.map_eq_some_iff.mp e
    exact .tup (hS _ _ h) (frzL_ok (fun v d q => frz_ok hS hp n v d q) r e1)
  | n + 1, _, .loc k, q, .loc h, e => by
    rw [frzD_loc] at e
    split at e
    · rename_i hk
      obtain ⟨o, ho, e⟩ := Option.bind_eq_some_iff.mp e
      obtain ⟨u, hu, hF⟩ := hp k hk _ h o ho
      split at e
      · cases e
      · rename_i hem
        cases hu with
        | lst r => obtain ⟨qs, e1, rfl⟩ := Option.map_eq_some_iff.mp e; exact .lst (hF rfl) (frzL_ok (fun v d q => frz_ok hS hp n v d q) r e1)
        | dK r => obtain ⟨qs, e1, rfl⟩ := Option.map_eq_some_iff.mp e; exact .dK (hF rfl) (frzK_ok (fun v d q => frz_ok hS hp n v d q) r e1)
        | dT r =>
          obtain ⟨qs, e1, rfl⟩ := Option.map_eq_some_iff.mp e
          refine .dT (hF rfl) (frzT_ok (fun v d q => frz_ok hS hp n v d q) r e1) fun z => ?_
          subst z
          cases r with
          | nil => exact hem rfl
          | cons h r => simp only [toPyT, Option.bind_eq_some_iff, Option.map_eq_some_iff] at e1; obtain ⟨_, _, _, _, z⟩ := e1; cases z
        | ins => exact nomatch e
        | lck => exact nomatch e
    · cases e
theorem zipK_ok {κ : Type} {ρ' : List Addr} : ∀ {vs : List (κ × V)} {ds : List (κ × D)} {ps : List PyData}, RpK K F1 ρ1 vs ds → Reps K F2 (vs.map (·.2)) ps → RpK K F2 ρ' vs ((ds.map (·.1)).zip (ps.map .py))
  | _, _, ps, .nil, r => by cases r; exact .nil
  | _, _, ps, .cons h t, r => by
    cases r with
    | cons h2 r2 => exact .cons (.py h2) (zipK_ok t r2)
theorem RpK.vals {κ : Type} {F : Hp} {ρ : List Addr} : ∀ {vs : List (κ × V)} {ds : List (κ × D)}, RpK K F ρ vs ds → Rps K F ρ (vs.map (·.2)) (ds.map (·.2))
  | _, _, .nil => .nil
  | _, _, .cons h t => .cons h (RpK.vals t)
/-- a thing of the store with data alone in it -/
theorem frzO_ok {ρ' : List Addr} {u : HO} {o o' : SO} (hS : Same F1 F2) (hp : FrzAt K cl p st F1 ρ1 F2) (h : ObjR K cl F1 ρ1 u o) (e : frzO p st o = some o') : ObjR K cl F2 ρ' u o' := by
  have hf := fun v d q => frz_ok hS hp 7 v d q
  cases h with
  | lst r => obtain ⟨ps, e1, rfl⟩ := Option.map_eq_some_iff.mp e; exact .lst (frzL_ok hf r e1).rps
  | dK r => obtain ⟨ps, e1, rfl⟩ := Option.map_eq_some_iff.mp e; exact .dK (zipK_ok r (frzL_ok hf r.vals e1))
  | dT r => obtain ⟨ps, e1, rfl⟩ := Option.map_eq_some_iff.mp e; exact .dT (zipK_ok r (frzL_ok hf r.vals e1))
  | ins => exact nomatch e
  | lck => exact nomatch e
theorem frzA_ok {ρ' : List Addr} {u : HO} {o o' : SO} (hS : Same F1 F2) (hp : FrzAt K cl p st F1 ρ1 F2) (h : ObjR K cl F1 ρ1 u o) (e : frzA p st o = some o') : ObjR K cl F2 ρ' u o' := by
  cases h with
  | lck r => obtain ⟨o2, e1, rfl⟩ := Option.map_eq_some_iff.mp e; exact .lck (frzO_ok hS hp r e1)
  | lst r => exact frzO_ok hS hp (.lst r) e
  | dK r => exact frzO_ok hS hp (.dK r) e
  | dT r => exact frzO_ok hS hp (.dT r) e
  | ins c r => exact frzO_ok hS hp (.ins c r) e
theorem frzAll_get : ∀ {os os' : List SO} {j : Nat} {o : SO}, frzAll p st os = some os' → os[j]? = some o → ∃ o', os'[j]? = some o' ∧ frzA p st o = some o'
  | [], _, _, _, _, h => by simp at h
  | o0 :: os, os', 0, o, e, h => by
    simp only [frzAll, Option.bind_eq_some_iff, Option.map_eq_some_iff] at e
    obtain ⟨o1, e1, r, e2, rfl⟩ := e
    cases h
    exact ⟨o1, rfl, e1⟩
  | o0 :: os, os', j + 1, o, e, h => by
    simp only [frzAll, Option.bind_eq_some_iff, Option.map_eq_some_iff] at e
    obtain ⟨o1, e1, r, e2, rfl⟩ := e
    obtain ⟨o', h1, h2⟩ := frzAll_get (j := j) e2 (by simpa using h)
    exact ⟨o', by simpa using h1, h2⟩
theorem frzAll_len : ∀ {os os' : List SO}, frzAll p st os = some os' → os'.length = os.length
  | [], _, e => by cases e; rfl
  | o0 :: os, os', e => by
    simp only [frzAll, Option.bind_eq_some_iff, Option.map_eq_some_iff] at e
    obtain ⟨o1, e1, r, e2, rfl⟩ := e
    rw [List.length_cons, List.length_cons, frzAll_len e2]
theorem pick_get {st : Store} : ∀ {ls : List Nat} {os : List SO} {j n : Nat}, pick st ls = some os → ls[j]? = some n → ∃ o, os[j]? = some o ∧ st[n]? = some o
  | [], _, _, _, _, h => by simp at h
  | m :: ls, os, 0, n, e, h => by
    simp only [pick, Option.bind_eq_some_iff, Option.map_eq_some_iff] at e
    obtain ⟨o1, e1, r, e2, rfl⟩ := e
    cases h
    exact ⟨o1, rfl, e1⟩
  | m :: ls, os, j + 1, n, e, h => by
    simp only [pick, Option.bind_eq_some_iff, Option.map_eq_some_iff] at e
    obtain ⟨o1, e1, r, e2, rfl⟩ := e
    obtain ⟨o', h1, h2⟩ := pick_get (j := j) e2 (by simpa using h)
    exact ⟨o', by simpa using h1, h2⟩
theorem pick_len {st : Store} : ∀ {ls : List Nat} {os : List SO}, pick st ls = some os → os.length = ls.length
  | [], _, e => by cases e; rfl
  | m :: ls, os, e => by
    simp only [pick, Option.bind_eq_some_iff, Option.map_eq_some_iff] at e
    obtain ⟨o1, e1, r, e2, rfl⟩ := e
    rw [List.length_cons, List.length_cons, pick_len e2]
theorem backIn_len : ∀ (ls : List Nat) (os : List SO) (st : Store), (backIn st ls os).length = st.length
  | [], os, st => by cases os <;> rfl
  | _ :: _, [], st => rfl
  | n :: ls, o :: os, st => by rw [backIn, backIn_len ls os, List.length_set]
theorem backIn_out : ∀ (ls : List Nat) (os : List SO) (st : Store) (n : Nat), n ∉ ls → (backIn st ls os)[n]? = st[n]?
  | [], os, st, n, _ => by cases os <;> rfl
  | _ :: _, [], st, _, _ => rfl
  | m :: ls, o :: os, st, n, h => by
    rw [List.mem_cons, not_or] at h
    rw [backIn, backIn_out ls os _ n h.2, List.getElem?_set_ne (Ne.symm h.1)]
theorem backIn_in : ∀ (ls : List Nat) (os : List SO) (st : Store) (j n : Nat), ls.Nodup → os.length = ls.length → ls[j]? = some n → n < st.length → (backIn st ls os)[n]? = os[j]?
  | [], _, _, _, _, _, _, h, _ => by simp at h
  | m :: ls, [], _, _, _, _, h, _, _ => by simp at h
  | m :: ls, o :: os, st, 0, n, hn, hl, h, hs => by
    cases h
    rw [List.nodup_cons] at hn
    rw [backIn, backIn_out ls os _ m hn.1, List.getElem?_set_self hs]; rfl
  | m :: ls, o :: os, st, j + 1, n, hn, hl, h, hs => by
    rw [List.nodup_cons] at hn
    rw [backIn, backIn_in ls os _ j n hn.2 (by simpa using hl) (by simpa using h) (by rw [List.length_set]; exact hs)]
    simp
end
/-! ### into a call and out of it -/
section
variable {K : PySem.W.Frag} {cl : Nat → Option Addr} {F H : Hp} {ρ : List Addr} {st : Store}
def adr (ρ : List Addr) (ls : List Nat) : List Addr := ls.map fun n => ρ.getD n 0
theorem adr_get {ls : List Nat} {j n : Nat} {a : Addr} (h : ls[j]? = some n) (ha : ρ[n]? = some a) : (adr ρ ls)[j]? = some a := by
  unfold adr
  rw [List.getElem?_map, h]
  simp [List.getD, ha]
theorem locs_in : ∀ {vs : List V} {ds : List D} {ls : List Nat}, Rps K F ρ vs ds → locsOf ds = some ls → ∀ n ∈ ls, ∃ a, ρ[n]? = some a
  | _, _, _, .nil, e, n, hn => by cases e; simp at hn
  | _, _, _, .cons (d := .py _) _ r, e, n, hn => locs_in r e n hn
  | _, _, _, .cons (d := .loc m) h r, e, n, hn => by
    simp only [locsOf, Option.map_eq_some_iff] at e
    obtain ⟨l, e1, rfl⟩ := e
    rcases List.mem_cons.mp hn with rfl | hn
    · cases h; exact ⟨_, ‹_›⟩
    · exact locs_in r e1 n hn
  | _, _, _, .cons (d := .tup _) _ r, e, n, hn => nomatch e
theorem renum_ok : ∀ {vs : List V} {ds : List D} {ls : List Nat} (pre : List Addr), Rps K F ρ vs ds → locsOf ds = some ls → Rps K F (pre ++ adr ρ ls) vs (renum pre.length ds)
  | _, _, _, pre, .nil, e => .nil
  | _, _, _, pre, .cons (d := .py _) h r, e => by
    refine .cons ?_ (renum_ok pre r e)
    cases h with | py h => exact .py h
  | _, _, _, pre, .cons (d := .loc m) h r, e => by
    simp only [locsOf, Option.map_eq_some_iff] at e
    obtain ⟨l, e1, rfl⟩ := e
    cases h with
    | @loc _ b ha =>
      have e2 : pre ++ adr ρ (m :: l) = (pre ++ [ρ.getD m 0]) ++ adr ρ l := by simp [adr]
      have e3 : ρ.getD m 0 = b := by simp only [List.getD, ha, Option.getD_some]
      rw [e2]
      refine .cons (.loc ?_) ?_
      · rw [List.append_assoc, List.getElem?_append_right (Nat.le_refl _), Nat.sub_self, e3]; rfl
      · have := renum_ok (pre ++ [ρ.getD m 0]) r e1
        rw [List.length_append, List.length_singleton] at this
        exact this
  | _, _, _, pre, .cons (d := .tup _) h r, e => nomatch e
theorem adr_nodup {ls : List Nat} (hn : ls.Nodup) (hr : ρ.Nodup) (h : ∀ n ∈ ls, ∃ a, ρ[n]? = some a) : (adr ρ ls).Nodup := by
  induction ls with
  | nil => exact List.nodup_nil
  | cons m l ih =>
    rw [List.nodup_cons] at hn
    show (ρ.getD m 0 :: adr ρ l).Nodup
    rw [List.nodup_cons]
    refine ⟨fun z => ?_, ih hn.2 fun n hn => h n (List.mem_cons_of_mem _ hn)⟩
    obtain ⟨k, hk, e⟩ := List.mem_map.mp z
    obtain ⟨a, ha⟩ := h m (List.mem_cons_self ..)
    obtain ⟨b, hb⟩ := h k (List.mem_cons_of_mem _ hk)
    simp only [List.getD, ha, hb, Option.getD_some] at e
    subst e
    obtain ⟨h1, e1⟩ := List.getElem?_eq_some_iff.mp ha
    obtain ⟨h2, e2⟩ := List.getElem?_eq_some_iff.mp hb
    have : m = k := (List.getElem_inj hr).mp (e1.trans e2.symm)
    exact hn.1 (by rw [this]; exact hk)
theorem adr_mem {ls : List Nat} (h : ∀ n ∈ ls, ∃ a, ρ[n]? = some a) {a : Addr} (ha : a ∈ adr ρ ls) : ∃ n ∈ ls, ρ[n]? = some a := by
  obtain ⟨n, hn, e⟩ := List.mem_map.mp ha
  obtain ⟨b, hb⟩ := h n hn
  simp only [List.getD, hb, Option.getD_some] at e
  subst e
  exact ⟨n, hn, hb⟩
/-- the callee's store -/
theorem callIn {ls : List Nat} {os : List SO} (O : Ok K cl H ρ F st) (hn : ls.Nodup) (hl : ∀ n ∈ ls, ∃ a, ρ[n]? = some a) (hp : (pick st ls).bind (frzAll (fun _ => false) []) = some os) : Ok K cl H (adr ρ ls) F os := by
  obtain ⟨os0, h1, h2⟩ := Option.bind_eq_some_iff.mp hp
  refine ⟨O.sub', O.nf, ?_, adr_nodup hn O.nd hl, fun a ha => ?_, fun j a o ha ho => ?_⟩
  · rw [frzAll_len h2, pick_len h1]; simp [adr]
  · obtain ⟨n, _, hb⟩ := adr_mem hl ha
    exact O.free a (List.mem_of_getElem? hb)
  · have hj : j < ls.length := by have := (List.getElem?_eq_some_iff.mp ha).1; simpa [adr] using this
    have hjn : ls[j]? = some ls[j] := List.getElem?_eq_getElem hj
    obtain ⟨b, hb⟩ := hl ls[j] (List.getElem_mem hj)
    have := adr_get hjn hb
    rw [ha] at this; cases this
    obtain ⟨o0, g1, g2⟩ := pick_get h1 hjn
    obtain ⟨o', g3, g4⟩ := frzAll_get h2 g1
    rw [ho] at g3; cases g3
    obtain ⟨u, hu, r⟩ := O.obj _ _ _ hb g2
    exact ⟨u, hu, frzA_ok (Same.refl F) (fun k hk => by simp at hk) r g4⟩
/-- the caller's, behind it: p which of the new things are data from now on -/
theorem callOut {ls : List Nat} {p : Nat → Bool} {ρ1 : List Addr} {F1 H1 : Hp} {st1 : Store} {os1 : List SO} (O : Ok K cl H ρ F st) (hn : ls.Nodup) (hl : ∀ n ∈ ls, ∃ a, ρ[n]? = some a) (S : Step (adr ρ ls) F H ρ1 F1 H1) (O1 : Ok K cl H1 ρ1 F1 st1)
    (hp : ∀ k, p k = true → ls.length ≤ k) (hb : frzAll p st1 (st1.take ls.length) = some os1) :
    ∃ F2, Step ρ F H ρ F2 H1 ∧ Ok K cl H1 ρ F2 (backIn st ls os1) ∧ Same F1 F2 ∧ FrzAt K cl p st1 F1 ρ1 F2 ∧ ∀ k a, ρ1[k]? = some a → ls.length ≤ k → p k = false → F2 a = none ∧ a ∉ ρ ∧ H a = none := by
  classical
  obtain ⟨m, em, nm⟩ := S.more
  have hla : (adr ρ ls).length = ls.length := by simp [adr]
  have fresh : ∀ k a, ρ1[k]? = some a → ls.length ≤ k → a ∈ m := fun k a ha hk => by
    rw [em, List.getElem?_append_right (by rw [hla]; exact hk)] at ha
    exact List.mem_of_getElem? ha
  let F2 : Hp := fun a => match F1 a with
    | some u => some u
    | none => if ∃ k u, p k = true ∧ ρ1[k]? = some a ∧ H1 a = some u ∧ frzH u = true then H1 a else none
  have f2some : ∀ a u, F1 a = some u → F2 a = some u := fun a u e => by simp only [F2, e]
  have f2none : ∀ a, F1 a = none → (¬ ∃ k u, p k = true ∧ ρ1[k]? = some a ∧ H1 a = some u ∧ frzH u = true) → F2 a = none := fun a e h => by simp only [F2, e, if_neg h]
  have f2cases : ∀ a u, F2 a = some u → F1 a = some u ∨ (F1 a = none ∧ H1 a = some u ∧ frzH u = true ∧ a ∈ m) := fun a u e => by
    simp only [F2] at e
    split at e
    · exact .inl (by rw [← e]; assumption)
    · rename_i h1
      split at e
      · rename_i h
        obtain ⟨k, w, h2, h3, h4, h5⟩ := h
        rw [h4] at e; cases e
        exact .inr ⟨h1, h4, h5, fresh k a h3 (hp k h2)⟩
      · cases e
  have sF : Same F1 F2 := fun a u e => f2some a u e
  have out : ∀ a, a ∈ ρ → F2 a = none := fun a ha => by
    cases e : F2 a with
    | none => rfl
    | some u =>
      exfalso
      obtain ⟨n, hn', ea⟩ := List.getElem_of_mem ha
      have h1 : n < st.length := by rw [← O.len]; exact hn'
      obtain ⟨w, hw, r⟩ := O.obj n a st[n] (by rw [List.getElem?_eq_getElem hn', ea]) (List.getElem?_eq_getElem h1)
      have hF1 : F1 a = none := (S.fresh a (O.free a ha) (by rw [hw]; simp) (by rw [hw]; exact r.notTup)).1
      rcases f2cases a u e with q | ⟨_, _, _, q⟩
      · rw [hF1] at q; cases q
      · rw [nm a q] at hw; cases hw
  have hat : FrzAt K cl p st1 F1 ρ1 F2 := fun k hk a ha o ho => by
    obtain ⟨u, hu, r⟩ := O1.obj k a o ha ho
    refine ⟨u, r, fun hz => ?_⟩
    have e1 : F1 a = none := O1.free a (List.mem_of_getElem? ha)
    simp only [F2, e1]
    rw [if_pos ⟨k, u, hk, ha, hu, hz⟩]; exact hu
  refine ⟨F2, ⟨⟨[], by simp, by simp⟩, S.grow.trans sF, fun a h1 h2 h3 => ?_, fun a o h1 h2 => S.keep a o h1 fun z => h2 ?_, S.dom, S.frzs⟩, ⟨fun a u e => ?_, fun a ob u e => ?_, ?_, O.nd, out, fun n a o ha ho => ?_⟩, sF, hat, fun k a ha hk hpk => ?_⟩
  · obtain ⟨g1, g2⟩ := S.fresh a h1 h2 h3
    refine ⟨?_, g2⟩
    cases e : F2 a with
    | none => rfl
    | some u =>
      rcases f2cases a u e with q | ⟨_, _, _, q⟩
      · rw [g1] at q; cases q
      · exact absurd (nm a q) h2
  · obtain ⟨n, _, hb⟩ := adr_mem hl z
    exact List.mem_of_getElem? hb
  · rcases f2cases a u e with q | ⟨_, q, _, _⟩
    · exact O1.sub' a u q
    · exact .inl q
  · rcases f2cases a _ e with q | ⟨_, _, q, _⟩
    · exact O1.nf a ob u q
    · cases q
  · rw [backIn_len]; exact O.len
  · by_cases hin : n ∈ ls
    · obtain ⟨j, hj, ej⟩ := List.getElem_of_mem hin
      have hjn : ls[j]? = some n := by rw [List.getElem?_eq_getElem hj, ej]
      have hlen : os1.length = ls.length := by
        rw [frzAll_len hb, List.length_take]
        have : ls.length ≤ st1.length := by rw [← O1.len, em, List.length_append, hla]; omega
        omega
      have hns : n < st.length := by rw [← O.len]; exact (List.getElem?_eq_some_iff.mp ha).1
      rw [backIn_in ls os1 st j n hn hlen hjn hns] at ho
      have h1 : ρ1[j]? = some a := by
        rw [em, List.getElem?_append_left (by rw [hla]; exact hj)]
        exact adr_get hjn ha
      have hj1 : j < st1.length := by rw [← O1.len]; exact (List.getElem?_eq_some_iff.mp h1).1
      have h2 : (st1.take ls.length)[j]? = some st1[j] := by rw [List.getElem?_take_of_lt hj, List.getElem?_eq_getElem hj1]
      obtain ⟨o', g1, g2⟩ := frzAll_get hb h2
      rw [ho] at g1; cases g1
      obtain ⟨u, hu, r⟩ := O1.obj j a _ h1 (List.getElem?_eq_getElem hj1)
      exact ⟨u, hu, frzA_ok sF hat r g2⟩
    · rw [backIn_out ls os1 st n hin] at ho
      obtain ⟨u, hu, r⟩ := O.obj n a o ha ho
      refine ⟨u, S.keep a u hu fun z => ?_, r.mono (S.grow.trans sF) ⟨[], by simp⟩⟩
      obtain ⟨n', hn', hb⟩ := adr_mem hl z
      obtain ⟨h1, e1⟩ := List.getElem?_eq_some_iff.mp ha
      obtain ⟨h2, e2⟩ := List.getElem?_eq_some_iff.mp hb
      have : n = n' := (List.getElem_inj O.nd).mp (e1.trans e2.symm)
      exact hin (by rw [this]; exact hn')
  · have hm := fresh k a ha hk
    refine ⟨?_, fun z => ?_, nm a hm⟩
    · refine f2none a (O1.free a (List.mem_of_getElem? ha)) ?_
      rintro ⟨k', u, h1, h2, _⟩
      obtain ⟨g1, e1⟩ := List.getElem?_eq_some_iff.mp ha
      obtain ⟨g2, e2⟩ := List.getElem?_eq_some_iff.mp h2
      have : k = k' := (List.getElem_inj O1.nd).mp (e1.trans e2.symm)
      rw [this, h1] at hpk; cases hpk
    · obtain ⟨n, hn', ea⟩ := List.getElem_of_mem z
      have h1 : n < st.length := by rw [← O.len]; exact hn'
      obtain ⟨w, hw, _⟩ := O.obj n a st[n] (by rw [List.getElem?_eq_getElem hn', ea]) (List.getElem?_eq_getElem h1)
      rw [nm a hm] at hw; cases hw
end
end WW

namespace WW
open PySem PySem.Spec L2
section
variable {K : PySem.W.Frag} {cl : Nat → Option Addr} {F H : Hp} {ρ : List Addr} {st : Store}
theorem frzF_ok {F1 F2 : Hp} {ρ1 ρ' : List Addr} {p : Nat → Bool} {st : Store} (hS : Same F1 F2) (hp : FrzAt K cl p st F1 ρ1 F2) : ∀ {fv : List (Str × V)} {fs gs : List (Str × D)}, RpK K F1 ρ1 fv fs → frzF p st fs = some gs → RpK K F2 ρ' fv gs
  | _, _, _, .nil, e => by cases e; exact .nil
  | _, _, _, .cons h r, e => by
    simp only [frzF, Option.bind_eq_some_iff, Option.map_eq_some_iff] at e
    obtain ⟨q, e1, qs, e2, rfl⟩ := e
    exact .cons (.py (frz_ok hS hp 7 _ _ _ h e1)) (frzF_ok hS hp r e2)
theorem frzF_nil {p : Nat → Bool} {st : Store} {gs : List (Str × D)} (h : frzF p st [] = some gs) : gs = [] := by cases h; rfl
/-- a call by values keeps the promise -/
theorem sub_post {md : Nat} {φ : Fn} {vs : List V} {ds : List D} {E : XK} {Q : VK} (O : Ok K cl H ρ F st) (R0 : Rps K F ρ vs ds) (h : Post K cl (Rp K) E ρ F H (callSub md φ ds st) Q) : spG K cl φ vs.length vs H Q E := by
  unfold callSub at h
  cases hl : locsOf ds with
  | none => rw [hl] at h; exact h.elim
  | some ls =>
    rw [hl] at h
    simp only at h
    split at h
    · rename_i hn
      cases hp : (pick st ls).bind (frzAll (fun _ => false) []) with
      | none => rw [hp] at h; exact h.elim
      | some os =>
        rw [hp] at h
        simp only at h
        have hin := locs_in R0 hl
        have O' := callIn O hn hin hp
        have R' := renum_ok [] R0 hl
        refine ⟨rfl, adr ρ ls, F, os, renum 0 ds, O', by simpa using R', ?_⟩
        cases hr : φ (renum 0 ds) os with
        | stuck => rw [hr] at h; exact h.elim
        | ok d st1 =>
          rw [hr] at h
          intro v H1 ρ1 F1 S O1 r
          simp only at h
          split at h
          · split at h
            · rename_i q os1 h1 h2
              obtain ⟨F2, S2, O2, sF, hat, _⟩ := callOut O hn hin S O1 (fun k hk => of_decide_eq_true hk) h2
              exact h v H1 ρ F2 S2 O2 (.py (frz_ok sF hat 8 _ _ _ r h1))
            · exact h.elim
          · split at h
            · rename_i j
              split at h
              · rename_i hj
                split at h
                · rename_i o os1 h1 h2
                  obtain ⟨o0, h3, h4⟩ := Option.bind_eq_some_iff.mp h1
                  obtain ⟨F2, S2, O2, sF, hat, ext⟩ := callOut O hn hin S O1 (p := butOne ls.length j) (fun k hk => by
                    simp only [butOne, Bool.and_eq_true, decide_eq_true_eq] at hk; exact hk.1) h2
                  cases r with
                  | @loc _ a ha =>
                    obtain ⟨u, hu, ro⟩ := O1.obj j a o0 ha h3
                    obtain ⟨e1, e2, e3⟩ := ext j a ha hj (by simp [butOne])
                    obtain ⟨S3, O3⟩ := Ok.makeAt (o := o) S2 O2 e3 e1 e2 hu (frzO_ok sF hat ro h4)
                    refine h _ H1 _ _ S3 O3 (.loc ?_)
                    rw [List.getElem?_append_right (Nat.le_of_eq O.len), O.len, Nat.sub_self]; rfl
                · exact h.elim
              · exact h.elim
            · exact h.elim
        | exc c fs st1 =>
          rw [hr] at h
          intro cls dx H1 ρ1 F1 S O1 x
          simp only at h
          split at h
          · rename_i gs os1 h1 h2
            obtain ⟨F2, S2, O2, sF, hat, _⟩ := callOut O hn hin S O1 (fun k hk => of_decide_eq_true hk) h2
            obtain ⟨A, e1, e2, e3⟩ := x
            refine h cls dx H1 ρ F2 S2 O2 ⟨A, e1, e2, ?_⟩
            rcases e3 with ⟨rfl, e4⟩ | ⟨d, fv, e4, e5, e6⟩
            · exact .inl ⟨frzF_nil h1, e4⟩
            · exact .inr ⟨d, fv, e4, e5, frzF_ok sF hat e6 h1⟩
          · exact h.elim
    · exact h.elim
theorem call_post {md : Nat} {φ : Fn} {vs : List V} {ds : List D} {E : XK} {Q : VK} (O : Ok K cl H ρ F st) (R0 : Rps K F ρ vs ds) (h : Post K cl (Rp K) E ρ F H (callM md φ ds st) Q) : spG K cl φ vs.length vs H Q E := by
  unfold callM at h
  split at h
  · exact ⟨rfl, ρ, F, st, ds, O, R0, h⟩
  · exact sub_post O R0 h
end
/-! ### the call -/
section
variable {X : Cx} {cl : Nat → Option Addr} {W : WX} {Φ : Nat → Fn}
theorem run_fnG {pins : List (Addr × Obj)} {σ : St} {H : Hp} {s : Shared} {Q : VK} {k : Nat} {f : Addr} {fd : FuncData} {ps : List Str} {sp : Sp} {us zs : List Value} {kw : List (Str × Value)} {vs : List V}
    (G : FnG X.prog X.w X.K X.mg X.base k f fd ps sp) (hg : X.A.guards = some []) (hr : Room k X.A) (tk : Takes X W) (I : Inv X pins σ H s) (hb : BindsTo s fd ⟨us, kw⟩ (ps.zip zs)) (r : Vals vs zs) (h : sp vs H Q (WE W σ)) :
    wpAny (model X.prog X.w) X.A (call (.ref f) us kw) (EP X pins σ Q) X.xe s := by
  have run := G.run X.A X.stack s H ⟨us, kw⟩ zs vs Q (WE W σ) hg hr I.env0 hb r h
  refine wpAny_call (codeAny_mono run fun res s' hres => ?_)
  match res, hres with
  | .error e, hres => exact tk e s' (XE.of_call I (fun _ _ _ q => q) hres)
  | .ok (.ret u), hres => exact I.after hres
  | .ok .next, hres => exact hres.elim
  | .ok .brk, hres => exact hres.elim
  | .ok .cont, hres => exact hres.elim
theorem sE_call {e : Expr} {es : List Expr} {x : Str} {p pos : Pos} {md n : Nat} {as : CE} {ps : List Str} {sh : List Shape} (hg : X.A.guards = some []) (tk : Takes X W) (gx : Gl X x) (hdb : (x == ("__debug__" : Str)) = false) (hf : GlobOk X cl Φ x (.fn n ps true sh))
    (hst : (e :: es).all notStar = true) (ha : PA X (e :: es) (tEs X.K cl W Φ as)) (hlen : (e :: es).length = ps.length) (hal : ∀ env st ds st1, evs Φ as env st = .ok ds st1 → ds.length = ps.length) : PE X (.Call (.Name x p) (e :: es) [] pos) (tE X.K cl W Φ (.call md n as)) := by
  obtain ⟨f, fd, k, hm, G, hr, hk, hb, _⟩ := hf
  have h2 := hst
  simp only [List.all_cons, Bool.and_eq_true] at h2
  refine ⟨fun pins s σ H Q I h => ?_⟩
  refine wpAny_Call_Name_kw (ld_glob I gx hm ?_ hdb)
  refine PySem.W.callWith_K (h₀ := X.base) I.ok.mod.kin hk ?_ (starEach_plain h2.1) (backTo_plain h2.2)
  have h' : tEs X.K cl W Φ as σ H fun vs H1 => spG X.K cl (Φ n) ps.length vs H1 Q (WE W σ) := by
    obtain ⟨ρ, F, st, env, O, E, q⟩ := h
    refine ⟨ρ, F, st, env, O, E, ?_⟩
    rw [ev] at q
    cases he : evs Φ as env st with
    | stuck => rw [he] at q; exact q
    | exc => rw [he] at q; exact q
    | ok ds st1 =>
      rw [he, R.bind_ok] at q
      intro vs H1 ρ1 F1 S1 O1 R1
      have hl := hal env st ds st1 he
      rw [← hl, ← R1.length]
      exact call_post O1 R1 (Post.shift S1 q)
  refine thn (ha.run pos pins s σ H _ I h') fun us s1 ⟨vs, H1, I1, r, q⟩ => ⟨I1.kIn, ?_⟩
  have hl : us.length = ps.length := by rw [← r.length]; exact G.len _ _ _ _ q
  exact run_fnG (zs := us) G hg hr tk I1 (by have := hb rfl s1 us I1.kIn (by simpa using hl); simpa using this) r q
/-! ### keywords -/
theorem sK_nil : PK X [] (tEs X.K cl W Φ .nil) :=
  weakPK pk_nil fun σ H Q ⟨ρ, F, st, env, O, E, q⟩ => by
    rw [evs] at q
    exact q [] H ρ F .refl O .nil
theorem sK_cons {nm : Option Str} {e : Expr} {kpos : Pos} {kws : List Keyword} {ca cas : CE} (ha : PE X e (tE X.K cl W Φ ca)) (hr : PK X kws (tEs X.K cl W Φ cas)) : PK X (⟨nm, e, kpos⟩ :: kws) (tEs X.K cl W Φ (.cons ca cas)) :=
  weakPK (pk_cons ha hr) fun σ H Q h => tG_imp (tG_bind (fun _ _ => rfl) h) fun x H1 ⟨ρ1, F1, st1, env, d1, O1, E1, R1, p1⟩ =>
    ⟨ρ1, F1, st1, env, O1, E1, p1.bind.imp fun xs H2 ⟨ρ2, F2, st2, d2, S2, O2, R2, p2⟩ => p2 _ _ _ _ .refl O2 (.cons (R1.step S2) R2)⟩
theorem kw_all {env : PySem.Env} {pos : Pos} : ∀ {kws : List Keyword}, kws.all (fun k => k.arg.isSome) = true → (backToKw pos (keywordEach kws env)).all (·.1.isSome) = true ∧ (backToKw pos (keywordEach kws env)).any (·.1.isNone) = false ∧ (backToKw pos (keywordEach kws env)).filterMap (·.1) = kws.filterMap (·.arg)
  | [], _ => ⟨rfl, rfl, rfl⟩
  | ⟨nm, e, kp⟩ :: kws, h => by
    rw [List.all_cons, Bool.and_eq_true] at h
    obtain ⟨h1, h2, h3⟩ := kw_all (env := env) (pos := pos) h.2
    cases nm with
    | none => exact nomatch h.1
    | some y =>
      refine ⟨?_, ?_, ?_⟩
      · show (true && (backToKw pos (keywordEach kws env)).all (·.1.isSome)) = true
        rw [h1]; rfl
      · show (false || (backToKw pos (keywordEach kws env)).any (·.1.isNone)) = false
        rw [h2]; rfl
      · show y :: (backToKw pos (keywordEach kws env)).filterMap (·.1) = y :: kws.filterMap (·.arg)
        rw [h3]
theorem sel_ok {K : PySem.W.Frag} {F : Hp} {ρ : List Addr} {l : List Value} {vsA : List V} {dsA : List D} (R0 : Rps K F ρ vsA dsA) (V0 : Vals vsA l) : ∀ {sel : List (Nat ⊕ PyData)} {zs : List Value} {ds' : List D}, Paired (SelOk K l) sel zs → selO dsA sel = some ds' → ∃ vs', Rps K F ρ vs' ds' ∧ Vals vs' zs
  | _, _, _, .nil, e => by cases e; exact ⟨[], .nil, .nil⟩
  | .inl i :: sel, z :: zs, ds', .cons h t, e => by
    simp only [selO, Option.bind_eq_some_iff, Option.map_eq_some_iff] at e
    obtain ⟨d, h1, r, h2, rfl⟩ := e
    obtain ⟨vs', r1, r2⟩ := sel_ok R0 V0 t h2
    obtain ⟨v, g1, g2⟩ := R0.get h1
    obtain ⟨u, g3, g4⟩ := V0.get g1
    have h' : l[i]? = some z := h
    rw [g3] at h'; cases h'
    exact ⟨v :: vs', .cons g2 r1, .cons g4 r2⟩
  | .inr p :: sel, z :: zs, ds', .cons h t, e => by
    simp only [selO, Option.map_eq_some_iff] at e
    obtain ⟨r, h2, rfl⟩ := e
    obtain ⟨vs', r1, r2⟩ := sel_ok R0 V0 t h2
    obtain ⟨v, g1, g2⟩ := (show ∃ v, (∀ F, Rep K F v p) ∧ RelV v z from h)
    exact ⟨v :: vs', .cons (.py (g1 F)) r1, .cons g2 r2⟩
/-- how many -/
def ceLen : CE → Nat
  | .cons _ as => ceLen as + 1
  | _ => 0
theorem evs_len : ∀ (as : CE) {env : Env} {st st1 : Store} {ds : List D}, evs Φ as env st = .ok ds st1 → ds.length = ceLen as
  | .nil, env, st, st1, ds, h => by rw [evs] at h; cases h; rfl
  | .cons a as, env, st, st1, ds, h => by
    rw [evs] at h
    obtain ⟨d, s, _, h⟩ := R.bind_inv h
    obtain ⟨r, s2, h2, h⟩ := R.bind_inv h
    cases h
    rw [List.length_cons, evs_len as h2]; rfl
  | .con _, _, _, _, _, h | .var _, _, _, _, _, h | .bin _ _ _ _, _, _, _, _, h | .un _ _, _, _, _, _, h | .nt _, _, _, _, _, h | .and _ _, _, _, _, _, h | .or _ _, _, _, _, _, h | .ite _ _ _, _, _, _, _, h
  | .cmp _ _ _, _, _, _, _, h | .chn _ _ _ _ _, _, _, _, _, h | .tup _, _, _, _, _, h | .lst _ _, _, _, _, _, h | .dct _ _, _, _, _, _, h | .idx _ _, _, _, _, _, h | .slc _ _ _ _, _, _, _, _, h | .rev _ _, _, _, _, _, h
  | .abs, _, _, _, _, h | .lc _ _ _ _ _ _, _, _, _, _, h | .dc _ _ _ _ _ _ _, _, _, _, _, h | .call _ _ _, _, _, _, _, h | .callK _ _ _ _ _, _, _, _, _, h | .new _ _ _, _, _, _, _, h | .mc _ _ _ _, _, _, _, _, h | .fld _ _, _, _, _, _, h
  | .bi _ _ _, _, _, _, _, h | .mt _ _ _, _, _, _, _, h | .isi _ _, _, _, _, _, h | .tnt _, _, _, _, _, h | .tand _ _, _, _, _, _, h | .tor _ _, _, _, _, _, h | .tof _, _, _, _, _, h | .yes, _, _, _, _, h
  | .seq _, _, _, _, _, h | .rng _, _, _, _, _, h | .zip _, _, _, _, _, h | .enum _, _, _, _, _, h | .keys _, _, _, _, _, h | .items _, _, _, _, _, h | .vals _, _, _, _, _, h | .rvd _, _, _, _, _, h => by rw [evs] at h <;> first | exact nomatch h | (intros; nofun)
theorem sE_callK {es : List Expr} {kws : List Keyword} {x : Str} {p pos : Pos} {md n : Nat} {as ks : CE} {ps : List Str} {pl : Bool} {shs : List Shape} {sh : Shape} (hg : X.A.guards = some []) (tk : Takes X W) (gx : Gl X x) (hdb : (x == ("__debug__" : Str)) = false) (hf : GlobOk X cl Φ x (.fn n ps pl shs))
    (hsh : sh ∈ shs) (hnil : es = [] → as = .nil) (hst : es.all notStar = true) (hka : kws.all (fun k => k.arg.isSome) = true) (hks : kws.filterMap (·.arg) = sh.ks) (hn : ceLen as = sh.n) (hn2 : ceLen ks = sh.ks.length) (ha : PA X es (tEs X.K cl W Φ as)) (hk' : PK X kws (tEs X.K cl W Φ ks)) :
    PE X (.Call (.Name x p) es kws pos) (tE X.K cl W Φ (.callK md n sh.sel as ks)) := by
  obtain ⟨f, fd, k, hm, G, hr, hk, _, hshapes⟩ := hf
  obtain ⟨k1, k2, k3⟩ := kw_all (env := X.env) (pos := pos) hka
  refine ⟨fun pins s σ H Q I h => ?_⟩
  refine wpAny_Call_Name_kw (ld_glob I gx hm ?_ hdb)
  have h' : tEs X.K cl W Φ as σ H fun vs H1 => vs.length = sh.n ∧ tEs X.K cl W Φ ks σ H1 fun ws H2 => ws.length = sh.ks.length ∧ ∀ (us us2 zs : List Value), Vals vs us → Vals ws us2 → Paired (SelOk X.K (us ++ us2)) sh.sel zs → ∃ vs', Vals vs' zs ∧ spG X.K cl (Φ n) vs'.length vs' H2 Q (WE W σ) := by
    obtain ⟨ρ, F, st, env, O, E, q⟩ := h
    refine ⟨ρ, F, st, env, O, E, ?_⟩
    rw [ev] at q
    cases he : evs Φ as env st with
    | stuck => rw [he] at q; exact q
    | exc => rw [he] at q; exact q
    | ok ds st1 =>
      rw [he, R.bind_ok] at q
      intro vs H1 ρ1 F1 S1 O1 R1
      refine ⟨by rw [R1.length, evs_len as he, hn], ρ1, F1, st1, env, O1, E.step S1, ?_⟩
      have q1 := Post.shift S1 q
      cases he2 : evs Φ ks env st1 with
      | stuck => rw [he2] at q1; exact q1
      | exc => rw [he2] at q1; exact q1
      | ok ds2 st2 =>
        rw [he2, R.bind_ok] at q1
        intro ws H2 ρ2 F2 S2 O2 R2
        refine ⟨by rw [R2.length, evs_len ks he2, hn2], fun us us2 zs v1 v2 hp => ?_⟩
        have q2 := Post.shift S2 q1
        split at q2
        · rename_i ds' hs
          obtain ⟨vs', r1, r2⟩ := sel_ok ((R1.step S2).append R2) (v1.append v2) hp hs
          exact ⟨vs', r2, call_post O2 r1 q2⟩
        · exact q2.elim
  have fin : ∀ {us us2 : List Value} {vs ws : List V} {H2 : Hp} {s2 : Shared}, Inv X pins σ H2 s2 → Vals vs us → Vals ws us2 → vs.length = sh.n → ws.length = sh.ks.length →
      (∀ (us us2 zs : List Value), Vals vs us → Vals ws us2 → Paired (SelOk X.K (us ++ us2)) sh.sel zs → ∃ vs', Vals vs' zs ∧ spG X.K cl (Φ n) vs'.length vs' H2 Q (WE W σ)) → wpAny (model X.prog X.w) X.A (call (.ref f) us (sh.ks.zip us2)) (EP X pins σ Q) X.xe s2 := by
    intro us us2 vs ws H2 s2 I2 r1 r2 l1 l2 q
    obtain ⟨zs, z1, z2, z3⟩ := hshapes sh hsh s2 us us2 I2.kIn (by rw [← r1.length]; exact l1) (by rw [← r2.length]; exact l2)
    obtain ⟨vs', v1, v2⟩ := q us us2 zs r1 r2 z3
    have hl : vs'.length = ps.length := by rw [v1.length]; exact z1
    rw [hl] at v2
    exact run_fnG (zs := zs) G hg hr tk I2 z2 v1 v2
  cases es with
  | nil =>
    refine PySem.W.callWith_KW0 (h₀ := X.base) I.ok.mod.kin hk k1 ?_ (by rw [k2]; rfl)
    have en : as = .nil := hnil rfl
    subst en
    obtain ⟨ρ, F, st, env, O, E, q⟩ := h'
    rw [evs] at q
    obtain ⟨l1, q⟩ := q [] H ρ F .refl O .nil
    refine thn (hk'.run pos pins s σ H _ I q) fun us2 s2 ⟨ws, H2, I2, r2, l2, q2⟩ => ⟨I2.kIn, ?_⟩
    rw [k3, hks]
    exact fin I2 .nil r2 l1 l2 q2
  | cons e es =>
    simp only [List.all_cons, Bool.and_eq_true] at hst
    refine PySem.W.callWith_KW (h₀ := X.base) I.ok.mod.kin hk k1 (thn (ha.run pos pins s σ H _ I h') fun us s1 ⟨vs, H1, I1, r, l1, q⟩ => ?_) (by rw [k2, backTo_plain (by simp only [List.all_cons, Bool.and_eq_true]; exact hst)]; rfl) (starEach_plain hst.1)
    refine thn (hk'.run pos pins s1 σ H1 _ I1 q) fun us2 s2 ⟨ws, H2, I2, r2, l2, q2⟩ => ⟨I2.kIn, ?_⟩
    rw [k3, hks]
    exact fin I2 r r2 l1 l2 q2
end
end WW

namespace WW
open PySem PySem.Spec L2
section
variable {P : Program} {w : World} {K : PySem.W.Frag} {mg : Str → Option Value} {base : Heap} {cl : Nat → Option Addr} {Φ : Nat → Fn}
/-- a global name, wherever it is looked at -/
def GlobK (P : Program) (w : World) (K : PySem.W.Frag) (mg : Str → Option Value) (base : Heap) (cl : Nat → Option Addr) (Φ : Nat → Fn) (k : Nat) (x : Str) : GE → Prop
  | .blt => mg x = none
  | .con d => ∃ v u, mg x = some u ∧ RelV v u ∧ ∀ F, Rep K F v d
  | .fn n ps plain shapes => ∃ f fd j, j ≤ k ∧ mg x = some (.ref f) ∧ FnG P w K mg base j f fd ps (spG K cl (Φ n) ps.length) ∧ PySem.W.keepIn K (.ref f) = true ∧ (plain = true → Binds K fd ps []) ∧ ∀ sh ∈ shapes, ShapeOk K fd ps sh
theorem GlobK.ok {X : Cx} {k : Nat} {x : Str} {g : GE} (h : GlobK X.prog X.w X.K X.mg X.base cl Φ k x g) (hr : Room k X.A) : GlobOk X cl Φ x g := by
  cases g with
  | blt => exact h
  | con d => exact h
  | fn n ps pl sh =>
    obtain ⟨f, fd, j, hj, h1, h2, h3, h4, h5⟩ := h
    exact ⟨f, fd, j, h1, h2, hr.mono hj, h3, h4, h5⟩
theorem start_env {F : Hp} {ρ : List Addr} : ∀ {vs : List V} {ds : List D} {N : List Str} {sl : Nat}, Rps K F ρ vs ds → sl = N.length → EnvR K F ρ (L2.start N vs) (WW.start sl ds) := by
  intro vs ds N sl r hs
  have hl : vs.length = ds.length := r.length
  refine ⟨?_, fun i d h => ?_⟩
  · unfold L2.start WW.start
    simp only [List.length_append, List.length_map, List.length_replicate, hl, hs]
  · unfold WW.start at h
    unfold L2.start
    by_cases hi : i < ds.length
    · rw [List.getElem?_append_left (by simpa using hi), List.getElem?_map] at h
      rw [List.getElem?_append_left (by simpa [hl] using hi), List.getElem?_map]
      have h' : ds[i]? = some d := by
        cases e : ds[i]? with
        | none => rw [e] at h; cases h
        | some a => rw [e] at h; cases h; rfl
      obtain ⟨v, h1, h2⟩ := r.get h'
      exact ⟨v, by rw [h1]; rfl, h2⟩
    · rw [List.getElem?_append_right (by simpa using hi), List.getElem?_replicate] at h
      split at h <;> cases h
/-- a def by its body -/
theorem fnG_of {k : Nat} {f : Addr} {name qual : Str} {params : Arguments} {body : List Stmt} {scope : Scope} {dV kV doc pm cdv ct oc : Value} {an od : Option Addr} {osl : Array (Option Value)} {ps : List Str} {cf : CF} {C : CC}
    (lk : K.lookup f = some ⟨oc, od, .func (PySem.W.fnOf name qual params body scope dV kV doc pm an cdv ct), osl⟩) (hcd : PySem.W.codeIn K cdv qual = true) (S : FnScope C.N ps scope) (hsc : C.sc = scope) (hfn : C.fn = fun _ => true) (har : cf.ar = ps.length) (hsl : cf.sl = C.N.length)
    (nst : PySem.W.nsIn K cStatics "sys.int_max_str_digits" = some none) (hglo : ∀ x g, (x, g) ∈ C.G → GlobK P w K mg base cl Φ k x g)
    (hbody : ∀ (X : Cx) (W : WX), X.K = K → CtxOk C cl Φ X W → PSs X body (tS X.K cl W Φ cf.body)) :
    FnG P w K mg base (k + 1) f (PySem.W.fnOf name qual params body scope dV kV doc pm an cdv ct) ps (spG K cl (run Φ cf) ps.length) := by
  refine ⟨fun vs H Q E h => h.1, fun A outer s H args us vs Q E hgu hr e0 hb r hsp => ?_⟩
  have hl := hsp.1
  have KX : K.In s.heap := e0.mod.kin.keeps fun b o e => (e0.bs b o e).1
  have lim : s.heap.NoLimit := e0.mod.nolimit.keeps fun b o e => (e0.bs b o e).1
  have hkind : ∀ y ∈ ps.zip us, scope.names.lookup y.1 = some .local ∨ (scope.names.lookup y.1 = some .cell ∧ ((cellsFrom (s.heap.objs.size + 1) scope.names []).lookup y.1).isSome = true) := by
    rintro ⟨n, v⟩ hy
    exact (S.par n (List.of_mem_zip hy).1).imp id fun q => ⟨q, PySem.W.cellsFrom_some _ _ _ (.inl q)⟩
  refine codeAny_call_function hr.depth (KX _ _ lk) rfl S.co S.gen rfl (PySem.W.codeRec_of KX hcd) (hb _ _ _ _ (wpAny_newFunctionEnv_cells S.kind hkind ?_))
  intro env he s1 x
  subst he
  refine ⟨lim.keeps x.toInCall.keep, codeAny_func ?_⟩
  let X : Cx := cxOf (L2.CX P w) P w K mg base C.N qual scope f cdv A outer s H E
  have hrX : Room k X.A := hr.deeper _
  have ctx : CtxOk C cl Φ X (fun cls d _ H => E cls d H) := {
    N := rfl
    nd := S.nd
    sc := hsc.symm
    fn := fun _ _ => rfl
    calm := rfl
    tk := takes_of rfl rfl rfl rfl
    hu := by have := hrX.un; omega
    gu := hgu
    po := passes_of (K := fun e s'' => L2.CX P w outer H s E e s'') rfl
    glo := fun x g hx => GlobK.ok (X := X) (hglo x g hx) hrX
    nst := nst }
  have I : Inv X [] (L2.start C.N vs) H s1 := inv_start S hr.hd e0 hl r x
  obtain ⟨_, ρ, F, st, ds, O, R0, q⟩ := hsp
  have hq : tS X.K cl (fun cls d _ H => E cls d H) Φ cf.body { nx := fun _ H' => Q .non H', rt := Q } (L2.start C.N vs) H := by
    refine ⟨ρ, F, st, WW.start cf.sl ds, O, start_env R0 hsl, ?_⟩
    have hd : ds.length = cf.ar := by rw [← R0.length, hl, har]
    unfold run at q
    rw [if_pos hd] at q
    cases hr : exec Φ cf.body (WW.start cf.sl ds) st with
    | stuck => rw [hr] at q; exact q.elim
    | bk => rw [hr] at q; exact q.elim
    | ct => rw [hr] at q; exact q.elim
    | nx env st1 => rw [hr] at q; exact fun σ' H' ρ' F' a b c => q .non H' ρ' F' a b (.py .non)
    | rt d st1 => rw [hr] at q; exact q
    | exc c fs env st1 => rw [hr] at q; exact fun cls dx σ' H' ρ' F' a b c x => q cls dx H' ρ' F' a b x
  refine wpAny_mono ((hbody X _ rfl ctx).run [] s1 (L2.start C.N vs) H _ I hq) (fun fl s' hs => ?_) fun e s' hs => hs
  have fin : ∀ {σ' : St} {H' : Hp} {v : V} {u : Value}, Inv X [] σ' H' s' → RelV v u → Q v H' → L2.CE outer P w H s Q u s' := by
    intro σ' H' v u J rv q
    exact ⟨v, H', J.os, J.bare, J.base, J.hok, rv, q⟩
  cases fl with
  | ret u => obtain ⟨v, σ', H', J, rv, q⟩ := hs; exact fin J rv q
  | next => obtain ⟨σ', H', J, q⟩ := hs; exact fin (v := V.non) (u := Value.none) J rfl q
  | brk => obtain ⟨_, _, _, q⟩ := hs; exact q.elim
  | cont => obtain ⟨_, _, _, q⟩ := hs; exact q.elim
end
end WW

namespace WW
open PySem PySem.Spec L2 PyProof.Rows
/-- no list stands in the written part -/
def noLists (K : PySem.W.Frag) : Bool := K.all fun p => match p.2.cls with
  | .type t => !(t == "list")
  | _ => true
theorem noLists_at : ∀ {K : PySem.W.Frag} {a : Addr} {o : Obj}, noLists K = true → K.lookup a = some o → o.cls ≠ .type "list"
  | [], _, _, _, h => nomatch h
  | (b, u) :: K, a, o, hn, h => by
    unfold noLists at hn
    rw [List.all_cons, Bool.and_eq_true] at hn
    rw [List.lookup_cons] at h
    split at h
    · cases h
      intro z
      have := hn.1
      simp only [z] at this
      exact absurd this (by decide)
    · exact noLists_at (K := K) hn.2 h
def ioS (ns : List Int) : List D := ns.map io
theorem rps_ints {K : PySem.W.Frag} {F : Hp} {ρ : List Addr} : ∀ ns : List Int, Rps K F ρ (ns.map V.int) (ioS ns)
  | [] => .nil
  | n :: ns => .cons (.py (.int n)) (rps_ints ns)
/-- the law's call at the top's end -/
theorem law_callG {P : Program} {w : World} {K : PySem.W.Frag} {mg mb : Str → Option Value} {cl : Nat → Option Addr} {φ : Fn} {k : Nat} {fa a : Addr} {fd : FuncData} {x : Str} {s₁ : Shared} {vs : List Value} {ns : List Int}
    (KX : K.In s₁.heap) (hns : s₁.heap.Ns mainGlobals mg) (hb : s₁.heap.Ns builtinsNs mb) (hbb : ∀ x : Str, x ≠ "__name__" → mb x = bootBuiltins x) (hlim : s₁.heap.NoLimit) (hg : s₁.gens = #[]) (hnl : noLists K = true)
    (ha : s₁.heap.get? a = some { cls := .type "list", data := .seq vs.toArray }) (hi : IntsAre vs ns) (hl : ns.length ≤ sizeLine) (hr : Room k callerA)
    (G : ∀ base : Heap, K.In base → base.Ns mainGlobals mg → FnG P w K mg base k fa fd [x] (spG K cl φ 1)) (hbind : ∀ (s : Shared) (u : Value), BindsTo s fd ⟨[u], []⟩ [(x, u)])
    (hφ : ∃ st, φ [.loc 0] [.lck (.lst (ioS ns))] = .ok (bo true) st) :
    codeAny (model P w) callerA (.call (.ref fa) ⟨[.ref a], []⟩) (fun r s' => r = .ok (.ret (.bool true)) ∧ OldK s₁.heap s'.heap ∧ s'.os = s₁.os ∧ AllBare s'.gens) s₁ := by
  have hKa : K.lookup a = none := by
    cases e : K.lookup a with
    | none => rfl
    | some o =>
      have h1 := KX a o e
      rw [ha] at h1; cases h1
      exact absurd rfl (noLists_at hnl e)
  let ob : Obj := { cls := .type "list", data := .seq vs.toArray }
  let H : Hp := fun b => if b = a then some (.frz ob (.lst (ns.map V.int))) else none
  have Ha : H a = some (.frz ob (.lst (ns.map V.int))) := if_pos rfl
  have Hn : ∀ b, b ≠ a → H b = none := fun b hb => if_neg hb
  have hok : HOk P w H s₁.heap := by
    intro b u z
    by_cases hb : b = a
    · subst hb
      rw [Ha] at z; cases z
      exact ⟨ha, by rw [List.length_map]; exact hl, vs, _, vals_ints hi, ha⟩
    · rw [Hn b hb] at z; cases z
  have off : ∀ {b : Addr} {o : Obj}, s₁.heap.get? b = some o → b ≠ a → (hidT s₁.heap H).get? b = some o := fun {b o} e hb => hidT_get e (Hn b hb)
  have nd : ∀ {b : Addr} {o : Obj} {es : Array DictEntry} {ep : Nat}, s₁.heap.get? b = some o → o.data = .dict es ep → b ≠ a := by
    rintro b o es ep e d rfl
    rw [ha] at e; cases e
    exact nomatch d
  have nsB : ∀ {b : Addr} {m : Str → Option Value}, s₁.heap.Ns b m → (hidT s₁.heap H).Ns b m := by
    rintro b m ⟨o, es, ep, e, d, r⟩
    exact ⟨o, es, ep, off e (nd e d), d, r⟩
  have kb : K.In (hidT s₁.heap H) := fun b o e => off (KX b o e) fun z => by rw [z, hKa] at e; cases e
  have M : Mod K mg (hidT s₁.heap H) := by
    obtain ⟨mc, h1, h2⟩ := hlim
    exact ⟨kb, nsB hns, ⟨mb, nsB hb, hbb⟩, mc, nsB h1, h2⟩
  have e0 : Env0 P w K mg (hidT s₁.heap H) callerA [] s₁ H := {
    frames := rfl
    mod := M
    bs := fun b o e => of_hidT e
    bsz := Nat.le_of_eq (hidT_size _ _)
    funs := trivial
    frf := fun b hb => nomatch hb
    hok := hok
    bare := .of_eq hg }
  have O : Ok K cl H [a] (fun _ => none) [.lck (.lst (ioS ns))] := by
    refine ⟨fun b u e => (nomatch e), fun b ob u e => (nomatch e), rfl, (by simp), fun b _ => rfl, fun n b o h1 h2 => ?_⟩
    cases n with
    | zero => cases h1; cases h2; exact ⟨_, Ha, .lck (.lst (rps_ints ns))⟩
    | succ n => cases h1
  obtain ⟨st, hφ⟩ := hφ
  have hsp : spG K cl φ 1 [.ref a] H (fun v _ => v = .bl true) (fun _ _ _ => False) := by
    refine ⟨rfl, [a], fun _ => none, [.lck (.lst (ioS ns))], [.loc 0], O, .cons (.loc rfl) .nil, ?_⟩
    rw [hφ]
    intro v H' ρ' F' _ _ r
    cases r with | py r => cases r; rfl
  refine codeAny_mono ((G _ kb (nsB hns)).run callerA [] s₁ H ⟨[.ref a], []⟩ [.ref a] [.ref a] _ _ rfl hr e0 (hbind s₁ _) (.cons rfl .nil) hsp) fun r s' h => ?_
  match r, h with
  | .error e, ⟨_, _, _, _, _, _, _, _, _, _, _, _, z⟩ => exact z.elim
  | .ok .next, h => exact h.elim
  | .ok .brk, h => exact h.elim
  | .ok .cont, h => exact h.elim
  | .ok (.ret u), ⟨v, H', os, bare, un, hok', r', q⟩ =>
    have q' : v = .bl true := q
    subst q'
    obtain rfl : u = Value.bool true := r'
    refine ⟨rfl, OldK.of_keep fun b o e => ?_, os, bare⟩
    by_cases hb : b = a
    · subst hb
      obtain ⟨e2, _⟩ := hok' _ _ (un.frzs _ _ _ Ha)
      rw [ha] at e; cases e
      exact e2
    · exact un.keep b o e (Hn b hb) (fun z => nomatch z) (fun z => nomatch z)
/-- the head's goal -/
theorem walk_ofG {l : PySem.W.OpenLaw} {n k : Nat} {q : Program} {loose : List Str} {XP : (Str → Option Value) → Heap → Prop} {YP : World → Heap → Prop} {d : DefRec} {K : Params → PySem.W.Frag} {φ : Fn} {x : Str} {cl : PySem.W.Frag → Nat → Option Addr}
    (hn : l.most = some n) (hn2 : n ≤ sizeLine) (hdf : d.params.defaults = []) (hr : Room k callerA) (hY : ∀ (w : World) (h : Heap), YP w h → (K w.params).In h) (hnl : ∀ w : World, noLists (K w.params) = true)
    (G : ∀ (w : World) (mg : Str → Option Value) (fa : Addr) (h : Heap), (K w.params).In h → h.Ns mainGlobals mg → mg d.name = some (.ref fa) →
      ∃ fd : FuncData, (∀ (s : Shared) (u : Value), BindsTo s fd ⟨[u], []⟩ [(x, u)]) ∧ ∀ base : Heap, (K w.params).In base → base.Ns mainGlobals mg → FnG l.prog w (K w.params) mg base k fa fd [x] (spG (K w.params) (cl (K w.params)) φ 1))
    (hφ : ∀ ns : List Int, ns.length ≤ n → ∃ st, φ [.loc 0] [.lck (.lst (ioS ns))] = .ok (bo true) st) :
    PySem.W.WalkO q loose XP YP l.row.toRowW d [] (fun f vs => PySem.call f vs) := by
  refine Att.attach_call hn hdf fun w s₀ s₁ mg mb fa o pm cd doc a vs ns gr Y ho hd hcd hmg hobj hints hlen hg => ?_
  obtain ⟨fd, hb, hF⟩ := G w mg fa _ (hY w _ Y) gr.T.g hmg
  exact law_callG (hY w _ Y) gr.T.g gr.T.b gr.T.builtins gr.T.nolimit hg (hnl w) hobj hints (Nat.le_trans hlen hn2) hr hF hb (hφ ns hlen)
end WW

namespace WW
open PySem PySem.Spec L2
section
variable {X : Cx} {cl : Nat → Option Addr} {W : WX} {Φ : Nat → Fn}
/-- nothing is stored within a comprehension -/
def noSw (C : CC) (t e : Expr) : Bool := match e with
  | .ListComp _ _ s pos | .SetComp _ _ s pos | .DictComp _ _ _ s pos => match t with
    | .Name y py => (match C.sc.names.lookup y with | some .local => !(py.line == pos.line) || s.names.any (fun (n, k) => n == y && (k == .local || k == .cell)) | _ => true)
    | _ => true
  | _ => true
theorem noSw_ok {C : CC} {t e : Expr} {l : Nat} (ctx : CtxOk C cl Φ X W) (h : noSw C t e = true) : swapsWith e (some t) l X.env = pure false := by
  have key : ∀ (y : Str) (b c : Bool), (match C.sc.names.lookup y with | some .local => !b || c | _ => true) = true → (X.env.blockKind == .function && X.env.kindOf y == some .local && b && !c) = false := by
    intro y b c h
    rw [kind_eq, ctx.sc]
    split at h
    · rw [Bool.or_eq_true, Bool.not_eq_true'] at h
      rcases h with h | h
      · rw [h]; simp
      · rw [h]; simp
    · rename_i hy
      cases hk : (C.sc.names.lookup y == some .local) with
      | false => simp
      | true =>
        rw [beq_iff_eq] at hk
        exact absurd hk hy
  unfold noSw at h
  unfold swapsWith
  cases e <;> try rfl
  all_goals
    cases t <;> try rfl
    have := key _ _ _ h
    simp only [Expr.pos] at this ⊢
    show (pure _ : Sem Bool) = _
    exact congrArg pure this
theorem chn_imp {op op' : CmpOp} {ca cb cc : CE} {σ : St} {H : Hp} {Q : VK} (h : tE X.K cl W Φ (.chn op op' ca cb cc) σ H Q) :
    tChain (rB X.K cl fun st x y => give st ((cmpO op st x y).map bo)) (rB X.K cl fun st x y => give st ((cmpO op' st x y).map bo)) (tE X.K cl W Φ ca) (tE X.K cl W Φ cb) (tE X.K cl W Φ cc) σ H Q :=
  tG_imp (tG_bind (fun _ _ => rfl) h) fun x H1 ⟨ρ1, F1, st1, env, d1, O1, E1, R1, p1⟩ =>
    ⟨ρ1, F1, st1, env, O1, E1, p1.bind.imp fun y H2 ⟨ρ2, F2, st2, d2, S2, O2, R2, p2⟩ => by
      split at p2
      · rename_i hk
        refine ⟨ρ2, F2, st2, d1, d2, O2, R1.step S2, R2, bo true, st2, by simp only [hk]; rfl, fun v H' ρ' F' S' O' R' => ⟨true, R'.blE, ?_⟩⟩
        rw [if_pos rfl]
        refine ⟨ρ', F', st2, env, O', (E1.step S2).step S', ?_⟩
        refine (Post.shift S' p2).bind.imp fun z H3 ⟨ρ3, F3, st3, d3, S3, O3, R3, p3⟩ => ⟨ρ3, F3, st3, d2, d3, O3, (R2.step S').step S3, R3, post_ok (noExc_give _ _) p3⟩
      · rename_i hk
        refine ⟨ρ2, F2, st2, d1, d2, O2, R1.step S2, R2, bo false, st2, by simp only [hk]; rfl, fun v H' ρ' F' S' O' R' => ⟨false, R'.blE, ?_⟩⟩
        rw [if_neg (by simp)]
        exact p2 _ _ _ _ S' O' (.py (.bl _))
      · exact p2.elim⟩
theorem give_bool {st st1 : Store} {o : Option Bool} {d : D} (h : give st (o.map bo) = .ok d st1) : ∃ k, d = bo k := by
  cases o with
  | none => exact nomatch h
  | some k => cases h; exact ⟨k, rfl⟩
theorem chn_bool {op op' : CmpOp} {ca cb cc : CE} {env : Env} {st st1 : Store} {d : D} (h : ev Φ (.chn op op' ca cb cc) env st = .ok d st1) : ∃ k, d = bo k := by
  rw [ev] at h
  obtain ⟨x, s1, _, h⟩ := R.bind_inv h
  obtain ⟨y, s2, _, h⟩ := R.bind_inv h
  split at h
  · obtain ⟨z, s3, _, h⟩ := R.bind_inv h
    exact give_bool h
  · cases h; exact ⟨false, rfl⟩
  · exact nomatch h
theorem tof_bool {c : CE} (hb : ∀ env st d st1, ev Φ c env st = .ok d st1 → ∃ k, d = bo k) {σ : St} {H : Hp} {Q : Bool → Hp → Prop} (h : tTs X.K cl W Φ (.tof c) σ H Q) : tE X.K cl W Φ c σ H fun x H' => ∃ k, x = .bl k ∧ Q k H' := by
  obtain ⟨ρ, F, st, env, O, E, h⟩ := h
  refine ⟨ρ, F, st, env, O, E, ?_⟩
  rw [tst] at h
  cases he : ev Φ c env st with
  | stuck => rw [he] at h; exact h
  | exc => rw [he] at h; exact h
  | ok d st1 =>
    rw [he, R.bind_ok] at h
    obtain ⟨k, rfl⟩ := hb _ _ _ _ he
    intro v H' ρ' F' S' O' R'
    exact ⟨k, R'.blE, h k H' ρ' F' S' O' rfl⟩
theorem sT_chn {a b c : Expr} {op op' : CmpOp} {pos : Pos} {ca cb cc : CE} (hu : X.A.units + 70 < cLine) (ha : PE X a (tE X.K cl W Φ ca)) (hb : PE X b (tE X.K cl W Φ cb)) (hc : PE X c (tE X.K cl W Φ cc)) (hm : lastMarks [op, op'] [b, c] = false) :
    PT X (.Compare a [op, op'] [b, c] pos) (tTs X.K cl W Φ (.tof (.chn op op' ca cb cc))) :=
  weakPT (pt_chain (sO_cmp hu) (sO_cmp hu) ha hb hc hm) fun σ H Q h => chn_imp (tof_bool (fun _ _ _ _ => chn_bool) h)
/-! ### dict displays -/
theorem frz0_ok {K : PySem.W.Frag} {F F' : Hp} {ρ : List Addr} {v : V} {d : D} {q : PyData} (hS : Same F F') (r : Rp K F ρ v d) (e : frzD (fun _ => false) [] 0 d = some q) : Rep K F' v q := by
  cases d with
  | py d => rw [frzD_py] at e; cases e; cases r with | py r => exact r.mono hS
  | loc n => exact nomatch e
  | tup ds => exact nomatch e
/-- a dict that was made there -/
theorem newDAt_ok {K : PySem.W.Frag} {F F0 H H0 : Hp} {ρ ρ0 : List Addr} {st : Store} {p : Addr} {k : Nat} {xs : List (Key × D)} {vs : List (Key × V)} {d : D} {st' : Store} (S : Step ρ0 F0 H0 ρ F H) (O : Ok K cl H ρ F st) (h0 : H0 p = none) (hF : F p = none) (hρ : p ∉ ρ) (hp : H p = some (.dK vs)) (r : RpK K F ρ vs xs) (e : newD k (.dK xs) st = .ok d st') :
    ∃ ρ' F', Step ρ0 F0 H0 ρ' F' H ∧ Ok K cl H ρ' F' st' ∧ Rp K F' ρ' (.ref p) d := by
  cases k with
  | zero =>
    unfold newD at e
    simp only [emT, Bool.false_eq_true, if_false] at e
    cases h : toPyO (frzD (fun _ => false) [] 0) (.dK xs) with
    | none => rw [h] at e; exact nomatch e
    | some q =>
      rw [h] at e
      cases e
      obtain ⟨es, h1, rfl⟩ := Option.map_eq_some_iff.mp h
      obtain ⟨S', O', sF⟩ := Ok.layAt S O h0 hF hρ hp (fun _ _ => nofun)
      exact ⟨_, _, S', O', .py (.dK upd_same (frzK_ok (fun v d q => frz0_ok sF) r h1))⟩
  | succ k =>
    cases e
    obtain ⟨S', O'⟩ := Ok.makeAt (o := .dK xs) S O h0 hF hρ hp (.dK (r.mono (Same.refl F) ⟨[p], rfl⟩))
    refine ⟨_, _, S', O', .loc ?_⟩
    rw [List.getElem?_append_right (Nat.le_of_eq O.len), O.len, Nat.sub_self]; rfl
def dprs : CE → List (CE × CE)
  | .cons a (.cons b r) => (a, b) :: dprs r
  | _ => []
def evn : CE → Bool
  | .nil => true
  | .cons _ (.cons _ r) => evn r
  | _ => false
def prs : List V → List (V × V)
  | a :: b :: r => (a, b) :: prs r
  | _ => []
theorem cons_imp {a as : CE} {σ : St} {H : Hp} {Q : List V → Hp → Prop} (h : tEs X.K cl W Φ (.cons a as) σ H Q) : tE X.K cl W Φ a σ H fun x H1 => tEs X.K cl W Φ as σ H1 fun xs H2 => Q (x :: xs) H2 :=
  tG_imp (tG_bind (fun _ _ => rfl) h) fun x H1 ⟨ρ1, F1, st1, env, d1, O1, E1, R1, p1⟩ =>
    ⟨ρ1, F1, st1, env, O1, E1, p1.bind.imp fun xs H2 ⟨ρ2, F2, st2, d2, S2, O2, R2, p2⟩ => p2 _ _ _ _ .refl O2 (.cons (R1.step S2) R2)⟩
theorem pairs_imp : ∀ (as : CE) {σ : St} {H : Hp} {Q : List (V × V) → Hp → Prop}, evn as = true → tEs X.K cl W Φ as σ H (fun vs H1 => Q (prs vs) H1) → tPairs ((dprs as).map fun p => (tE X.K cl W Φ p.1, tE X.K cl W Φ p.2)) σ H Q
  | .nil, σ, H, Q, _, ⟨ρ, F, st, env, O, E, q⟩ => by
    rw [evs] at q
    exact q [] H ρ F .refl O .nil
  | .cons a (.cons b r), σ, H, Q, he, h => by
    show tE X.K cl W Φ a σ H _
    refine tG_imp (cons_imp h) fun x H1 h1 => ?_
    refine tG_imp (cons_imp h1) fun y H2 h2 => ?_
    exact pairs_imp r he h2
theorem pairsO_ok {K : PySem.W.Frag} {F : Hp} {ρ : List Addr} : ∀ {vs : List V} {ds : List D} {kvs : List (Key × D)}, Rps K F ρ vs ds → pairsO ds = some kvs → ∃ kv : List (Key × V), prs vs = kv.map (fun p => (kV p.1, p.2)) ∧ RpK K F ρ kv kvs
  | _, _, _, .nil, e => by cases e; exact ⟨[], rfl, .nil⟩
  | _, _, _, .cons (d := .py k) h1 (.cons (v := y) h2 r), e => by
    simp only [pairsO, Option.bind_eq_some_iff, Option.map_eq_some_iff] at e
    obtain ⟨k', e1, kvs', e2, rfl⟩ := e
    obtain ⟨kv, g1, g2⟩ := pairsO_ok r e2
    cases h1 with
    | py h1 =>
      have := keyP_ok h1 e1
      subst this
      exact ⟨(k', y) :: kv, by rw [prs, g1]; rfl, .cons h2 g2⟩
  | _, _, _, .cons (d := .py k) h1 .nil, e => nomatch e
  | _, _, _, .cons (d := .loc k) h1 .nil, e => nomatch e
  | _, _, _, .cons (d := .tup k) h1 .nil, e => nomatch e
  | _, _, _, .cons (d := .loc k) h1 (.cons h2 r), e => nomatch e
  | _, _, _, .cons (d := .tup k) h1 (.cons h2 r), e => nomatch e
theorem merge_ok {K : PySem.W.Frag} {F : Hp} {ρ : List Addr} : ∀ {more : List (Key × V)} {md : List (Key × D)} {kv : List (Key × V)} {kd : List (Key × D)}, RpK K F ρ more md → RpK K F ρ kv kd → RpK K F ρ (mergeK kv more) (mergeD kd md)
  | _, _, _, _, .nil, r => r
  | (k, v) :: vs, (_, d) :: ds, kv, kd, .cons h t, r => by
    show RpK K F ρ (mergeK (putK kv k v) vs) (mergeD (WW.put kd k d) ds)
    exact merge_ok t (r.put k h)
theorem RpK.len {κ : Type} {K : PySem.W.Frag} {F : Hp} {ρ : List Addr} : ∀ {vs : List (κ × V)} {ds : List (κ × D)}, RpK K F ρ vs ds → vs.length = ds.length
  | _, _, .nil => rfl
  | _, _, .cons _ t => by rw [List.length_cons, List.length_cons, RpK.len t]
theorem RpK.stp {κ : Type} {K : PySem.W.Frag} {F F' H H' : Hp} {ρ ρ' : List Addr} {vs : List (κ × V)} {ds : List (κ × D)} (r : RpK K F ρ vs ds) (s : Step ρ F H ρ' F' H') : RpK K F' ρ' vs ds := r.mono s.grow s.ext
theorem sE_dct {keys : List (Option Expr)} {values : List Expr} {pos : Pos} {k : Nat} {as : CE} (hk : k ≤ 1) (he : evn as = true) (hp : PPs X pos keys values ((dprs as).map fun p => (tE X.K cl W Φ p.1, tE X.K cl W Φ p.2))) (hall : keys.all (·.isSome) = true) (hl : keys.length = values.length) (h0 : keys ≠ []) (h15 : keys.length ≤ 15) :
    PE X (.Dict keys values pos) (tE X.K cl W Φ (.dct k as)) :=
  weakPE (pe_disp hp hall hl h0 h15) fun σ H Q ⟨ρ, F, st, env, O, E, q⟩ p hpn => by
    obtain ⟨S0, O0, hF0, hρ0⟩ := O.extra (u := .dK []) hpn
    rw [ev] at q
    refine pairs_imp as he ⟨ρ, F, st, env, O0, E, ?_⟩
    cases hv : evs Φ as env st with
    | stuck => rw [hv] at q; exact q.elim
    | exc c fs st1 => rw [hv] at q; exact fun cls dx H' ρ' F' a b x => q cls dx H' ρ' F' (S0.trans a) b x
    | ok ds st1 =>
      rw [hv, R.bind_ok] at q
      intro vs H1 ρ1 F1 S1 O1 R1
      obtain ⟨g1, g2, g3⟩ := S1.still (upd_same) rfl hF0 hρ0
      cases hpr : pairsO ds with
      | none => rw [hpr] at q; exact q.elim
      | some kvs =>
        rw [hpr] at q
        simp only at q
        obtain ⟨kv, e1, e2⟩ := pairsO_ok R1 hpr
        split at q
        · rename_i hlen
          have p2 : Post X.K cl (Rp X.K) (WE W σ) ρ F H (newD k (.dK (mergeD [] kvs)) st1) Q := by
            split at q
            · omega
            · exact q
          refine ⟨g1, kv, e1, by rw [e2.len]; exact hlen, ?_⟩
          cases hn : newD k (.dK (mergeD [] kvs)) st1 with
          | stuck => rw [hn] at p2; exact p2.elim
          | exc c fs st2 =>
            exfalso
            unfold newD at hn
            split at hn
            · split at hn
              · cases hn
              · exact noExc_give _ _ _ _ _ hn
            · cases hn
          | ok d st2 =>
            rw [hn] at p2
            obtain ⟨ρ', F', S', O', R'⟩ := newDAt_ok ((S0.trans S1).poke hpn) (O1.poke g2 g3) hpn g2 g3 upd_same (merge_ok e2 .nil) hn
            exact p2 _ _ _ _ S' O' R'
        · exact q.elim
end
end WW

namespace WW
open PySem PySem.Spec L2
section
variable {X : Cx} {cl : Nat → Option Addr} {W : WX} {Φ : Nat → Fn}
/-- the two kinds of dicts: how the heap has them, how the store, how a pair is put in -/
structure Kd {κ : Type} (t : Bool) (mk : List (κ × V) → HO) (mo : List (κ × D) → SO) (add : List (κ × D) → D × D → Option (List (κ × D))) (k : Nat) : Prop where
  z : mk [] = emp t
  nt : ∀ vs, isTup (some (mk vs)) = false
  put : ∀ {K : PySem.W.Frag} {cl : Nat → Option Addr} {F H : Hp} {ρ : List Addr} {st : Store} {p : Addr} {vs : List (κ × V)} {acc acc' : List (κ × D)} {y v : V} {a b : D}, Ok K cl H ρ F st → H p = some (mk vs) → RpK K F ρ vs acc → Rp K F ρ y a → Rp K F ρ v b → add acc (a, b) = some acc' →
    ∃ vs', DPut H p y v (upd H p (mk vs')) ∧ RpK K F ρ vs' acc'
  new : ∀ {K : PySem.W.Frag} {cl : Nat → Option Addr} {F F0 H H0 : Hp} {ρ ρ0 : List Addr} {st st' : Store} {p : Addr} {xs : List (κ × D)} {vs : List (κ × V)} {d : D}, Step ρ0 F0 H0 ρ F H → Ok K cl H ρ F st → H0 p = none → F p = none → p ∉ ρ → H p = some (mk vs) → RpK K F ρ vs xs → newD k (mo xs) st = .ok d st' →
    ∃ ρ' F', Step ρ0 F0 H0 ρ' F' H ∧ Ok K cl H ρ' F' st' ∧ Rp K F' ρ' (.ref p) d
theorem kd_K (k : Nat) : Kd false .dK .dK addK k where
  z := rfl
  nt := fun _ => rfl
  put := fun {K cl F H ρ st p vs acc acc' y v a b} O hp r ry rv e => by
    unfold addK at e
    split at e
    · rename_i q hq
      split at e
      · rename_i hl
        cases e
        obtain rfl := dkey_one ry hq
        exact ⟨putK vs q v, DPut.k hp (by rw [r.len]; exact hl), r.put q rv⟩
      · cases e
    · cases e
  new := fun S O h0 hF hρ hp r e => newDAt_ok S O h0 hF hρ hp r e
theorem kd_T (k : Nat) : Kd true .dT .dT addT (k + 1) where
  z := rfl
  nt := fun _ => rfl
  put := fun {K cl F H ρ st p vs acc acc' y v a b} O hp r ry rv e => by
    unfold addT at e
    split at e
    · rename_i q hq
      split at e
      · rename_i hl
        cases e
        obtain ⟨c, rfl, hc⟩ := dkey_many O ry hq
        exact ⟨putK vs q v, DPut.t hp hc (by rw [r.len]; exact hl), r.put q rv⟩
      · cases e
    · cases e
  new := fun {K cl F F0 H H0 ρ ρ0 st st' p xs vs d} S O h0 hF hρ hp r e => by
    cases e
    obtain ⟨S', O'⟩ := Ok.makeAt (o := .dT xs) S O h0 hF hρ hp (.dT (r.mono (Same.refl F) ⟨[p], rfl⟩))
    refine ⟨_, _, S', O', .loc ?_⟩
    rw [List.getElem?_append_right (Nat.le_of_eq O.len), O.len, Nat.sub_self]; rfl
theorem noExc_newD (k : Nat) (o : SO) (st : Store) : NoExc (newD k o st) := by
  unfold newD
  split
  · split
    · exact noExc_stuck
    · exact noExc_give _ _
  · exact noExc_ok _ _
noncomputable def dcR {κ : Type} (Φ : Nat → Fn) (mo : List (κ × D) → SO) (add : List (κ × D) → D × D → Option (List (κ × D))) (k : Nat) (own : List Nat) (tg : Tg) (t ke ve : CE) (env : Env) (s : Src) (st : Store) : R D :=
  (lockR s.lk st fun st => lcL s.gs tg (tst Φ t) (fun env st => (ev Φ ke env st).bind fun a st => (ev Φ ve env st).bind fun b st => .ok (a, b) st) add (WW.wipe env own) s.its st []).nox.bind fun ys st => newD k (mo ys) st
theorem dc_turns {κ : Type} {kt : Bool} {mk : List (κ × V) → HO} {mo : List (κ × D) → SO} {add : List (κ × D) → D × D → Option (List (κ × D))} {k : Nat} (KD : Kd kt mk mo add k) {c : CE} {tg : Tg} {ct ke ve : CE} {own : List (Str × Nat)} (hsub : ∀ i ∈ tgSl tg, i ∈ own.map (·.2)) (hsrc : lstSrc c = true) {σ : St} {H : Hp} {Q : VK}
    (h : tG X.K cl W (Rp X.K) (fun env st => (srcs Φ c env st).bind fun s st => dcR Φ mo add k (own.map (·.2)) tg ct ke ve env s st) σ H Q) :
    tDq kt (iG X.K cl W Φ c) (tgV X.K cl tg) (tTs X.K cl (fun _ _ _ _ => False) Φ ct) (tE X.K cl (fun _ _ _ _ => False) Φ ke) (tE X.K cl (fun _ _ _ _ => False) Φ ve) (own.map (·.2)) σ H Q := by
  obtain ⟨ρ, F, st, env, O, E, q⟩ := h
  replace q : Post X.K cl (Rp X.K) (WE W σ) ρ F H ((srcs Φ c env st).bind fun s st => dcR Φ mo add k (own.map (·.2)) tg ct ke ve env s st) Q := q
  refine ⟨ρ, F, st, env, O, E, ?_⟩
  cases he : srcs Φ c env st with
  | stuck => rw [he] at q; exact q.elim
  | exc cc fs st1 => rw [he] at q; exact q
  | ok s st1 =>
    rw [he, R.bind_ok] at q
    unfold dcR at q
    rw [show lockR s.lk st1 (fun st => lcL s.gs tg (tst Φ ct) (fun env st => (ev Φ ke env st).bind fun a st => (ev Φ ve env st).bind fun b st => .ok (a, b) st) add (WW.wipe env (own.map (·.2))) s.its st []) = lcL s.gs tg (tst Φ ct) (fun env st => (ev Φ ke env st).bind fun a st => (ev Φ ve env st).bind fun b st => .ok (a, b) st) add (WW.wipe env (own.map (·.2))) s.its st1 [] by rw [src_lk hsrc he]; rfl] at q
    intro H0 ρ0 F0 J S0 O0 Wk D hD
    have E0 := E.step S0
    have q0 := Post.shift S0 q
    clear q S0 E O
    obtain ⟨Sx, Ox, hF, hρ⟩ := O0.extra (u := emp kt) hD
    refine ⟨fun i m' H => ∃ ρ F st acc accV, i + m' = s.its.length ∧ Step ρ0 F0 H0 ρ F H ∧ Ok X.K cl H ρ F st ∧ H D = some (mk accV) ∧ F D = none ∧ D ∉ ρ ∧ RpK X.K F ρ accV acc ∧
        Post X.K cl (Rp X.K) (WE W σ) ρ0 F0 H0 ((lcL s.gs tg (tst Φ ct) (fun env st => (ev Φ ke env st).bind fun a st => (ev Φ ve env st).bind fun b st => .ok (a, b) st) add (WW.wipe env (own.map (·.2))) (s.its.drop i) st acc).nox.bind fun ys st => newD k (mo ys) st) Q,
      ⟨s.its.length, ρ0, F0, st1, [], [], by omega, Sx, Ox, by rw [KD.z]; exact upd_same, hF, hρ, .nil, by simpa using q0⟩, ?_⟩
    rintro i m' H ⟨ρ, F, st, acc, accV, him, S, O, hHD, hFD, hρD, Ra, q⟩
    have hm : ∃ k, ρ = ρ0 ++ k := S.ext
    have hS : Same F0 F := S.grow
    cases hx : s.its[i]? with
    | none =>
      have hlen : s.its.length ≤ i := List.getElem?_eq_none_iff.mp hx
      have hi' : i = s.its.length := by omega
      rw [List.drop_eq_nil_of_le hlen, lcL] at q
      split at q
      · rename_i hG
        refine .inl ⟨by rw [hi']; exact Wk.stops H ρ F st O hS hm hG (by simp), ?_⟩
        simp only [R.nox_ok, R.bind_ok] at q
        obtain ⟨d, st', e, q⟩ := post_ok (noExc_newD _ _ _) q
        obtain ⟨ρ', F', S', O', R'⟩ := KD.new S O hD hFD hρD hHD Ra e
        exact q _ _ _ _ S' O' R'
      · exact q.elim
    | some d =>
      have hlt : i < s.its.length := (List.getElem?_eq_some_iff.mp hx).1
      have hdr : s.its.drop i = d :: s.its.drop (i + 1) := by
        rw [List.drop_eq_getElem_cons hlt]
        rw [List.getElem?_eq_getElem hlt] at hx
        rw [Option.some.inj hx]
      rw [hdr, lcL_cons_eq] at q
      split at q
      · rename_i hG
        refine .inr ⟨Wk.goes i H ρ F st O hS hm hG (by simp) hlt, fun H => ∃ ρ F st acc accV, Step ρ0 F0 H0 ρ F H ∧ Ok X.K cl H ρ F st ∧ H D = some (mk accV) ∧ F D = none ∧ D ∉ ρ ∧ RpK X.K F ρ accV acc ∧
          Post X.K cl (Rp X.K) (WE W σ) ρ0 F0 H0 ((lcL s.gs tg (tst Φ ct) (fun env st => (ev Φ ke env st).bind fun a st => (ev Φ ve env st).bind fun b st => .ok (a, b) st) add (WW.wipe env (own.map (·.2))) (s.its.drop (i + 1)) st acc).nox.bind fun ys st => newD k (mo ys) st) Q,
          fun H' ⟨ρ, F, st, acc, accV, h⟩ => ⟨m' - 1, by omega, ρ, F, st, acc, accV, by omega, h⟩, fun x H' hy => ?_⟩
        obtain ⟨F2, S2, O2, R2⟩ := Wk.yields i d H ρ F st x H' O hS hm hG (by simp) hx hy
        obtain ⟨hHD2, hFD2, hρD2⟩ := S2.still hHD (KD.nt _) hFD hρD
        have S02 := S.trans S2
        split at q
        · exact q.elim
        · rename_i env1 hasg
          refine ⟨ρ, F2, st, WW.wipe env (own.map (·.2)), d, env1, O2, (E0.step S02).wipe _, R2, hasg, fun σ2 E2 o2 => ⟨wipe_out o2 hsub, ρ, F2, st, env1, O2, E2, ?_⟩⟩
          cases ht : tst Φ ct env1 st with
          | stuck => rw [ht] at q; exact q.elim
          | exc => rw [ht] at q; exact q.elim
          | ok b st2 =>
            rw [ht, R.bind_ok] at q
            intro b' H3 ρ3 F3 S3 O3 eb
            subst eb
            obtain ⟨hHD3, hFD3, hρD3⟩ := S3.still hHD2 (KD.nt _) hFD2 hρD2
            have S03 := S02.trans S3
            have Ra3 : RpK X.K F3 ρ3 accV acc := (Ra.stp S2).stp S3
            cases b' with
            | false => rw [if_neg (by simp)]; exact ⟨ρ3, F3, st2, acc, accV, S03, O3, hHD3, hFD3, hρD3, Ra3, q⟩
            | true =>
              rw [if_pos rfl]
              refine ⟨ρ3, F3, st2, env1, O3, E2.step S3, ?_⟩
              simp only at q
              cases hv : ev Φ ke env1 st2 with
              | stuck => rw [hv] at q; exact q.elim
              | exc => rw [hv] at q; exact q.elim
              | ok y st3 =>
                rw [hv, R.bind_ok] at q
                intro v H4 ρ4 F4 S4 O4 R4
                obtain ⟨hHD4, hFD4, hρD4⟩ := S4.still hHD3 (KD.nt _) hFD3 hρD3
                have S04 := S03.trans S4
                have Ra4 : RpK X.K F4 ρ4 accV acc := Ra3.stp S4
                refine ⟨ρ4, F4, st3, env1, O4, (E2.step S3).step S4, ?_⟩
                cases hw : ev Φ ve env1 st3 with
                | stuck => rw [hw] at q; exact q.elim
                | exc => rw [hw] at q; exact q.elim
                | ok z st4 =>
                  rw [hw] at q
                  simp only [R.bind_ok] at q
                  intro w H5 ρ5 F5 S5 O5 R5
                  obtain ⟨hHD5, hFD5, hρD5⟩ := S5.still hHD4 (KD.nt _) hFD4 hρD4
                  have S05 := S04.trans S5
                  have Ra5 : RpK X.K F5 ρ5 accV acc := Ra4.stp S5
                  cases ha : add acc (y, z) with
                  | none => rw [ha] at q; exact q.elim
                  | some acc' =>
                    rw [ha] at q
                    obtain ⟨vs', g1, g2⟩ := KD.put O5 hHD5 Ra5 (R4.step S5) R5 ha
                    exact ⟨_, g1, ρ5, F5, st4, acc', vs', S05.poke hD, O5.poke hFD5 hρD5, upd_same, hFD5, hρD5, g2, q⟩
      · exact q.elim
/-- {k: v for .. in .. if ..} -/
theorem sE_dc {kx vx t iter : Expr} {ifs : List Expr} {scope : Scope} {own : List (Str × Nat)} {pos : Pos} {k : Nat} {c : CE} {tg : Tg} {ct ke ve : CE} (hk2 : k ≤ 2) (hu : X.A.units < cLine) (hc : X.calm = true) (hN : X.N.Nodup) (hsrc : lstSrc c = true) (hns : notSet iter = true) (hi : PI X t iter (iG X.K cl W Φ c))
    (L : LcOk X cl Φ scope own t ifs tg ct) (hk : ∀ (s : Shared) (H : Hp) (C : Addr) (cls : List (Str × Addr)) (fp : List Addr), PE (X.blk s H scope (compEnvC scope cls C X.env) fp) kx (tE X.K cl (fun _ _ _ _ => False) Φ ke))
    (hv : ∀ (s : Shared) (H : Hp) (C : Addr) (cls : List (Str × Addr)) (fp : List Addr), PE (X.blk s H scope (compEnvC scope cls C X.env) fp) vx (tE X.K cl (fun _ _ _ _ => False) Φ ve)) :
    PE X (.DictComp kx vx [⟨t, iter, ifs, 0⟩] scope pos) (tE X.K cl W Φ (.dc k (own.map (·.2)) c tg ct ke ve)) := by
  match k, hk2 with
  | 0, _ => exact weakPE (pe_dq hu hc hN hi L.ok L.hg L.ht hk hv (hs := folded_no hns)) fun σ H Q ⟨ρ, F, st, env, O, E, q⟩ => dc_turns (kd_K 0) L.sub hsrc ⟨ρ, F, st, env, O, E, by rw [ev] at q; exact q⟩
  | 1, _ => exact weakPE (pe_dq hu hc hN hi L.ok L.hg L.ht hk hv (hs := folded_no hns)) fun σ H Q ⟨ρ, F, st, env, O, E, q⟩ => dc_turns (kd_K 1) L.sub hsrc ⟨ρ, F, st, env, O, E, by rw [ev] at q; exact q⟩
  | 2, _ => exact weakPE (pe_dq hu hc hN hi L.ok L.hg L.ht hk hv (hs := folded_no hns)) fun σ H Q ⟨ρ, F, st, env, O, E, q⟩ => dc_turns (kd_T 0) L.sub hsrc ⟨ρ, F, st, env, O, E, by rw [ev] at q; exact q⟩
end
end WW

namespace WW
open PySem PySem.Spec L2
/-! ### the look at a text -/
inductive AS where
  | e (e : Expr) | t (e : Expr) | w (e : Expr) | a (es : List Expr) | k (ks : List Keyword) | i (tg e : Expr) | d (ks : List (Option Expr)) (vs : List Expr)
def plainN (x : Str) : Bool := !(x == ("__debug__" : Str)) && !decide (x = "__name__") && !(x == ("__classdict__" : Str))
def CC.glob (C : CC) (x : Str) : Bool := (match C.sc.names.lookup x with | some .globalImplicit => true | _ => false) && plainN x
def CC.vis (C : CC) (i : Nat) (x : Str) : Bool := decide (C.N[i]? = some x) && (match C.sc.names.lookup x with | some .local => true | some .cell => true | some .free => true | _ => false) && plainN x
def CC.loc (C : CC) (i : Nat) (x : Str) : Bool := decide (C.N[i]? = some x) && (match C.sc.names.lookup x with | some .local => true | some .cell => C.fn x | _ => false)
def CC.locL (C : CC) (i : Nat) (x : Str) : Bool := decide (C.N[i]? = some x) && (match C.sc.names.lookup x with | some .local => true | _ => false)
def CC.ge (C : CC) (x : Str) : Option GE := C.G.findSome? fun p => if p.1 = x then some p.2 else none
def CC.blt (C : CC) (x y : Str) : Bool := decide (x = y) && C.glob x && (match C.ge x with | some .blt => true | _ => false)
mutual
def eqC : PyData → PyData → Bool
  | .none, .none => true
  | .bool a, .bool b => a == b
  | .int a, .int b => decide (a = b)
  | .str a, .str b => decide (a = b)
  | .tuple a, .tuple b => eqCs a b
  | .list a, .list b => eqCs a b
  | _, _ => false
def eqCs : List PyData → List PyData → Bool
  | [], [] => true
  | a :: as, b :: bs => eqC a b && eqCs as bs
  | _, _ => false
end
mutual
theorem eqC_ok : ∀ {a b : PyData}, eqC a b = true → a = b
  | .none, b, h => by cases b <;> first | rfl | (simp [eqC] at h)
  | .bool a, b, h => by cases b <;> simp [eqC] at h <;> simp [h]
  | .int a, b, h => by cases b <;> simp [eqC] at h <;> simp [h]
  | .str a, b, h => by cases b <;> simp [eqC] at h <;> simp [h]
  | .tuple a, b, h => by cases b <;> simp only [eqC] at h <;> first | (rw [eqCs_ok h]) | (exact nomatch h)
  | .list a, b, h => by cases b <;> simp only [eqC] at h <;> first | (rw [eqCs_ok h]) | (exact nomatch h)
  | .dict a, b, h => by cases b <;> simp [eqC] at h
theorem eqCs_ok : ∀ {a b : List PyData}, eqCs a b = true → a = b
  | [], [], _ => rfl
  | [], _ :: _, h => nomatch h
  | _ :: _, [], h => nomatch h
  | a :: as, b :: bs, h => by
    rw [eqCs, Bool.and_eq_true] at h
    rw [eqC_ok h.1, eqCs_ok h.2]
end
def conK : PyData → Const → Bool
  | .none, .none => true
  | .bool a, .bool b => a == b
  | .int a, .int b => decide (a = b)
  | .str a, .str b => decide (a = b)
  | _, _ => false
def biNm : Bi → Str
  | .len => "len" | .all => "all" | .any => "any" | .abs => "abs" | .int => "int" | .str => "str" | .repr => "repr" | .tuple => "tuple" | .list => "list" | .max => "max" | .min => "min" | .sum => "sum" | .sorted => "sorted" | .dict => "dict" | .dictT => "dict" | .tupR => "tuple" | .lstR => "list" | .sset => "sorted"
def tyNm : List (String × Str) := [("int", "int"), ("str", "str"), ("tuple", "tuple"), ("list", "list"), ("bool", "bool"), ("dict", "dict")]
mutual
def chkT : Tg → CC → Expr → Bool
  | .nam i, C, .Name x _ => C.loc i x
  | .nil, _, _ => false
  | .cons a b, C, .Tuple (x :: xs) _ _ => notStar x && chkT a C x && chkTs b C xs
  | _, _, _ => false
def chkTs : Tg → CC → List Expr → Bool
  | .nil, _, [] => true
  | .cons a b, C, x :: xs => notStar x && chkT a C x && chkTs b C xs
  | _, _, _ => false
end
def ownOf (C : CC) (own : List Nat) : List (Str × Nat) := own.map fun i => (C.N.getD i "", i)
def eqSel : List (Nat ⊕ PyData) → List (Nat ⊕ PyData) → Bool
  | [], [] => true
  | .inl a :: as, .inl b :: bs => decide (a = b) && eqSel as bs
  | .inr a :: as, .inr b :: bs => eqC a b && eqSel as bs
  | _, _ => false
def shOk (sh : Shape) (n : Nat) (ks : List Str) (sel : List (Nat ⊕ PyData)) : Bool := decide (sh.n = n) && decide (sh.ks = ks) && eqSel sh.sel sel
def isRg : Bi → Bool
  | .tupR | .lstR => true
  | _ => false
def isGet : Mt → Bool
  | .get => true
  | _ => false
def isNil : CE → Bool
  | .nil => true
  | _ => false
def chk : CE → CC → AS → Bool
  | .con d, C, s => match s with
    | .e (.Constant k _ _) => conK d k
    | .e (.Name x _) => C.glob x && (match C.ge x with | some (.con d') => eqC d' d | _ => false)
    | _ => false
  | .var i, C, s => match s with
    | .e (.Name x _) => C.vis i x
    | _ => false
  | .bin op m a b, C, s => match s with
    | .e (.BinOp x o y _) => decide (op = o) && binOk op && chk a C (.e x) && chk b C (.e y)
    | _ => false
  | .un op a, C, s => match s with
    | .e (.UnaryOp o x _) => decide (op = .USub) && decide (o = .USub) && chk a C (.e x)
    | _ => false
  | .nt a, C, s => match s with
    | .e (.UnaryOp o x _) => decide (o = .Not) && chk a C (.e x)
    | _ => false
  | .and a b, C, s => match s with
    | .e (.BoolOp o (x :: y :: rest) pos) => decide (o = .And) && chk a C (.e x) && (match rest with | [] => chk b C (.e y) | _ => chk b C (.e (.BoolOp .And (y :: rest) pos)))
    | _ => false
  | .or a b, C, s => match s with
    | .e (.BoolOp o (x :: y :: rest) pos) => decide (o = .Or) && chk a C (.e x) && (match rest with | [] => chk b C (.e y) | _ => chk b C (.e (.BoolOp .Or (y :: rest) pos)))
    | _ => false
  | .ite c a b, C, s => match s with
    | .e (.IfExp t x y _) => chk c C (.t t) && chk a C (.e x) && chk b C (.e y)
    | _ => false
  | .cmp op a b, C, s => match s with
    | .e (.Compare x [o] [y] _) => decide (op = o) && !behindInMarks o y && chk a C (.e x) && chk b C (.e y)
    | _ => false
  | .chn op op' a b c, C, s => match s with
    | .e (.Compare x [o, o'] [y, z] _) => decide (op = o) && decide (op' = o') && !lastMarks [o, o'] [y, z] && chk a C (.e x) && chk b C (.e y) && chk c C (.e z)
    | _ => false
  | .nil, _, s => match s with
    | .a [] => true
    | .k [] => true
    | .d [] [] => true
    | _ => false
  | .cons a as, C, s => match s with
    | .a (x :: xs) => notStar x && chk a C (.e x) && chk as C (.a xs)
    | .k (⟨some _, x, _⟩ :: xs) => chk a C (.e x) && chk as C (.k xs)
    | .d (some x :: xs) (y :: ys) => chk a C (.e x) && (match as with
      | .cons b as => chk b C (.e y) && chk as C (.d xs ys)
      | _ => false)
    | _ => false
  | .tup as, C, s => match s with
    | .e (.Tuple es _ _) => chk as C (.a es)
    | _ => false
  | .lst m as, C, s => match s with
    | .e (.List es _) => chk as C (.a es)
    | _ => false
  | .dct k as, C, s => match s with
    | .e (.Dict [] [] _) => decide (k ≤ 2) && isNil as
    | .e (.Dict (y :: ys) vs _) => decide (k ≤ 1) && decide ((y :: ys).length ≤ 15) && decide ((y :: ys).length = vs.length) && (y :: ys).all (·.isSome) && evn as && chk as C (.d (y :: ys) vs)
    | _ => false
  | .idx a b, C, s => match s with
    | .e (.Subscript x y _) => plainIx y && chk a C (.e x) && chk b C (.e y)
    | _ => false
  | .slc m a lo hi, C, s => match s with
    | .e (.Subscript x (.Slice l h none _) _) => chk a C (.e x) && (match l with | none => isAbs lo | some y => !isAbs lo && chk lo C (.e y)) && (match h with | none => isAbs hi | some y => !isAbs hi && chk hi C (.e y))
    | _ => false
  | .lc m own src tg t e, C, s => match s with
    | .e (.ListComp elt [⟨t', iter, ifs, 0⟩] scope _) => lstSrc src && notSet iter && chk src C (.i t' iter) && blkC C.N C.sc scope (ownOf C own) && (tgSl tg).all (fun i => decide (i ∈ own)) && chkT tg (C.blk scope) t' &&
      (match ifs with | [] => (match t with | .yes => true | _ => false) | [x] => chk t (C.blk scope) (.t x) | _ => false) && chk e (C.blk scope) (.e elt)
    | _ => false
  | .call md n as, C, s => match s with
    | .e (.Call (.Name x _) (y :: ys) [] _) => C.glob x && (match C.ge x with | some (.fn f ps true _) => decide (f = n) && decide ((y :: ys).length = ps.length) && decide (ceLen as = ps.length) | _ => false) && (y :: ys).all notStar && chk as C (.a (y :: ys))
    | _ => false
  | .callK md n sel as ks, C, s => match s with
    | .e (.Call (.Name x _) es kws _) => C.glob x && (match C.ge x with | some (.fn f ps _ shs) => decide (f = n) && shs.any (fun sh => shOk sh (ceLen as) (kws.filterMap (·.arg)) sel) && decide (ceLen ks = (kws.filterMap (·.arg)).length) | _ => false) &&
        es.all notStar && kws.all (fun k => k.arg.isSome) && (match es with | [] => isNil as | _ => true) && chk as C (.a es) && chk ks C (.k kws)
    | _ => false
  | .bi b m as, C, s => match s with
    | .e (.Call (.Name x _) (y :: ys) [] _) => C.blt x (biNm b) && (match biOk b with
      | true => (y :: ys).all notStar && chk as C (.a (y :: ys))
      | false => isRg b && (match as, y, ys with
        | .cons a .nil, .Call (.Name z _) [u] [] _, [] => C.blt z "range" && notStar u && chk a C (.e u)
        | .cons a (.cons b .nil), .Call (.Name z _) [u, v] [] _, [] => C.blt z "range" && notStar u && notStar v && chk a C (.e u) && chk b C (.e v)
        | _, _, _ => false))
    | _ => false
  | .dc k own src tg t ke ve, C, s => match s with
    | .e (.DictComp kx vx [⟨t', iter, ifs, 0⟩] scope _) => decide (k ≤ 2) && lstSrc src && notSet iter && chk src C (.i t' iter) && blkC C.N C.sc scope (ownOf C own) && (tgSl tg).all (fun i => decide (i ∈ own)) && chkT tg (C.blk scope) t' &&
      (match ifs with | [] => (match t with | .yes => true | _ => false) | [x] => chk t (C.blk scope) (.t x) | _ => false) && chk ke (C.blk scope) (.e kx) && chk ve (C.blk scope) (.e vx)
    | _ => false
  | .isi cs a, C, s => match s with
    | .e (.Call (.Name x _) [y, .Name t _] [] _) => C.blt x "isinstance" && notStar y && (match cs with | [c] => (match tyNm.lookup c with | some n => C.blt t n | none => false) | _ => false) && chk a C (.e y)
    | _ => false
  | .mt m o as, C, s => match s with
    | .e (.Call (.Attribute y nm apos) (x :: xs) [] cpos) => match isGet m with
      | false => mtIsA m && decide (nm = mtName m) && notSuper y && (x :: xs).all notStar && decide ((x :: xs).length < 30) && (apos.endLine == cpos.line) && chk o C (.e y) && chk as C (.a (x :: xs))
      | true => decide (nm = ("get" : Str)) && notSuper y && (apos.endLine == cpos.line) && chk o C (.e y) && (match as, xs with
        | .cons a .nil, [] => notStar x && chk a C (.e x)
        | .cons a (.cons b .nil), [z] => notStar x && notStar z && chk a C (.e x) && chk b C (.e z)
        | _, _ => false)
    | .e (.Call (.Attribute y nm apos) [] [] cpos) => mtIs0 m && decide (nm = mtName m) && notSuper y && (apos.endLine == cpos.line) && chk o C (.e y) && isNil as
    | _ => false
  | .tnt a, C, s => match s with
    | .t (.UnaryOp o x _) => decide (o = .Not) && chk a C (.t x)
    | _ => false
  | .tand a b, C, s => match s with
    | .t (.BoolOp o (x :: y :: rest) pos) => decide (o = .And) && chk a C (.t x) && (match rest with | [] => chk b C (.t y) | _ => chk b C (.w (.BoolOp .And (y :: rest) pos)))
    | .w (.BoolOp o (x :: y :: rest) pos) => decide (o = .And) && chk a C (.t x) && (match rest with | [] => chk b C (.t y) | _ => chk b C (.w (.BoolOp .And (y :: rest) pos)))
    | _ => false
  | .tor a b, C, s => match s with
    | .t (.BoolOp o (x :: y :: rest) pos) => decide (o = .Or) && chk a C (.t x) && (match rest with | [] => chk b C (.t y) | _ => chk b C (.w (.BoolOp .Or (y :: rest) pos)))
    | .w (.BoolOp o (x :: y :: rest) pos) => decide (o = .Or) && chk a C (.t x) && (match rest with | [] => chk b C (.t y) | _ => chk b C (.w (.BoolOp .Or (y :: rest) pos)))
    | _ => false
  | .tof a, C, s => match a, s with
    | .cmp op a b, .t (.Compare x [o] [y] _) => decide (op = o) && !behindInMarks o y && chk a C (.e x) && chk b C (.e y)
    | .chn op op' a b c, .t (.Compare x [o, o'] [y, z] _) => decide (op = o) && decide (op' = o') && !lastMarks [o, o'] [y, z] && chk a C (.e x) && chk b C (.e y) && chk c C (.e z)
    | a, .t e => plainT e && chk a C (.e e)
    | _, _ => false
  | .seq a, C, s => match s with
    | .i _ e => chk a C (.e e)
    | _ => false
  | .rng as, C, s => match as, s with
    | .cons a .nil, .i _ (.Call (.Name x _) [y] [] _) => C.blt x "range" && notStar y && chk a C (.e y)
    | .cons a (.cons b .nil), .i _ (.Call (.Name x _) [y, z] [] _) => C.blt x "range" && notStar y && notStar z && chk a C (.e y) && chk b C (.e z)
    | .cons a (.cons b (.cons c .nil)), .i _ (.Call (.Name x _) [y, z, u] [] _) => C.blt x "range" && notStar y && notStar z && notStar u && chk a C (.e y) && chk b C (.e z) && chk c C (.e u)
    | _, _ => false
  | .zip as, C, s => match as, s with
    | .cons a (.cons b .nil), .i t (.Call (.Name x _) [y, z] [] _) => isTupE t && C.blt x "zip" && notStar y && notStar z && chk a C (.e y) && chk b C (.e z)
    | _, _ => false
  | .enum a, C, s => match s with
    | .i t (.Call (.Name x _) [y] [] _) => isTupE t && C.blt x "enumerate" && notStar y && chk a C (.e y)
    | _ => false
  | .rvd a, C, s => match s with
    | .i _ (.Call (.Name x _) [y] [] _) => C.blt x "reversed" && notStar y && chk a C (.e y)
    | _ => false
  | .yes, _, s => match s with
    | .e _ => true
    | _ => false
  | _, _, _ => false
end WW

namespace WW
open PySem PySem.Spec L2
section
variable {X : Cx} {cl : Nat → Option Addr} {W : WX} {Φ : Nat → Fn} {C : CC}
theorem plainN_ok {x : Str} (h : plainN x = true) : (x == ("__debug__" : Str)) = false ∧ x ≠ "__name__" ∧ (x == ("__classdict__" : Str)) = false := by
  unfold plainN at h
  simp only [Bool.and_eq_true, Bool.not_eq_true', decide_eq_false_iff_not] at h
  exact ⟨h.1.1, h.1.2, h.2⟩
theorem glob_ok {x : Str} (ctx : CtxOk C cl Φ X W) (h : C.glob x = true) : Gl X x ∧ (x == ("__debug__" : Str)) = false ∧ x ≠ "__name__" := by
  unfold CC.glob at h
  rw [Bool.and_eq_true] at h
  obtain ⟨h1, h2⟩ := h
  refine ⟨?_, (plainN_ok h2).1, (plainN_ok h2).2.1⟩
  show X.env.kindOf x = _
  rw [kind_eq, ctx.sc]
  split at h1
  · assumption
  · cases h1
theorem vis_ok {i : Nat} {x : Str} (ctx : CtxOk C cl Φ X W) (h : C.vis i x = true) : X.N[i]? = some x ∧ Vis X.env.scope x ∧ (x == ("__debug__" : Str)) = false ∧ (x == ("__classdict__" : Str)) = false := by
  unfold CC.vis at h
  rw [Bool.and_eq_true, Bool.and_eq_true, decide_eq_true_eq] at h
  obtain ⟨⟨h1, h2⟩, h3⟩ := h
  refine ⟨by rw [ctx.N]; exact h1, ?_, (plainN_ok h3).1, (plainN_ok h3).2.2⟩
  rw [ctx.sc]
  split at h2
  · exact .inl (by assumption)
  · exact .inr (.inl (by assumption))
  · exact .inr (.inr (by assumption))
  · cases h2
theorem loc_ok {i : Nat} {x : Str} (ctx : CtxOk C cl Φ X W) (h : C.loc i x = true) : X.N[i]? = some x ∧ Loc X.env.scope x ∧ (X.fn x = true ∨ X.env.scope.names.lookup x = some .local) := by
  unfold CC.loc at h
  rw [Bool.and_eq_true, decide_eq_true_eq] at h
  obtain ⟨h1, h2⟩ := h
  rw [← ctx.sc] at h2
  refine ⟨by rw [ctx.N]; exact h1, ?_⟩
  split at h2
  · exact ⟨.inl (by assumption), .inr (by assumption)⟩
  · exact ⟨.inr (by assumption), .inl (ctx.fn x h2)⟩
  · cases h2
theorem locL_ok {i : Nat} {x : Str} (ctx : CtxOk C cl Φ X W) (h : C.locL i x = true) : X.N[i]? = some x ∧ X.env.scope.names.lookup x = some .local := by
  unfold CC.locL at h
  rw [Bool.and_eq_true, decide_eq_true_eq] at h
  obtain ⟨h1, h2⟩ := h
  rw [← ctx.sc] at h2
  refine ⟨by rw [ctx.N]; exact h1, ?_⟩
  split at h2
  · assumption
  · cases h2
theorem ge_in : ∀ {G : List (Str × GE)} {x : Str} {g : GE}, (G.findSome? fun p => if p.1 = x then some p.2 else none) = some g → (x, g) ∈ G
  | (y, g') :: G, x, g, h => by
    rw [List.findSome?_cons] at h
    split at h
    · rename_i a ha
      split at ha
      · rename_i e; cases ha; cases h; exact e ▸ List.mem_cons_self ..
      · cases ha
    · exact List.mem_cons_of_mem _ (ge_in h)
theorem ge_ok {x : Str} {g : GE} (ctx : CtxOk C cl Φ X W) (h : C.ge x = some g) : GlobOk X cl Φ x g := ctx.glo x g (ge_in h)
theorem blt_ok {x y : Str} (ctx : CtxOk C cl Φ X W) (h : C.blt x y = true) : x = y ∧ Gl X x ∧ X.mg x = none ∧ (x == ("__debug__" : Str)) = false ∧ x ≠ "__name__" := by
  unfold CC.blt at h
  rw [Bool.and_eq_true, Bool.and_eq_true, decide_eq_true_eq] at h
  obtain ⟨⟨h1, h2⟩, h3⟩ := h
  obtain ⟨g1, g2, g3⟩ := glob_ok ctx h2
  refine ⟨h1, g1, ?_, g2, g3⟩
  split at h3
  · rename_i e
    exact ge_ok ctx e
  · cases h3
theorem biNm_ok (b : Bi) : bootBuiltins (biNm b) = some (biId b) := by cases b <;> decide +kernel
theorem tyNm_ok {c : String} {n : Str} (h : tyNm.lookup c = some n) : bootBuiltins n = some (.type c) := by
  unfold tyNm at h
  simp only [List.lookup] at h
  repeat' split at h
  all_goals first
    | (cases h; rename_i e; rw [beq_iff_eq] at e; subst e; decide +kernel)
    | (cases h)
mutual
theorem chkT_ok : ∀ {tg : Tg} {x : Expr}, CtxOk C cl Φ X W → chkT tg C x = true → PG X x (tgV X.K cl tg)
  | .nam i, x, ctx, h => by
    cases x <;> simp only [chkT, Bool.false_eq_true] at h
    obtain ⟨h1, h2, h3⟩ := loc_ok ctx h
    exact sG_name (by rw [ctx.N]; exact ctx.nd) h1 h2 h3
  | .nil, _, _, h => by simp [chkT] at h
  | .cons a b, x, ctx, h => by
    cases x with
    | Tuple es k p => cases es with
      | nil => simp [chkT] at h
      | cons x xs =>
        simp only [chkT, Bool.and_eq_true] at h
        obtain ⟨⟨h1, h2⟩, h3⟩ := h
        obtain ⟨g1, g2, g3⟩ := chkTs_ok ctx h3
        refine sG_tup ctx.calm ?_ ?_ (fun i => nofun) (sGs_cons h1 (chkT_ok ctx h2) g1)
        · rw [List.all_cons, h1, g2]; rfl
        · rw [List.length_cons, g3]; rfl
    | _ => simp [chkT] at h
theorem chkTs_ok : ∀ {tg : Tg} {xs : List Expr}, CtxOk C cl Φ X W → chkTs tg C xs = true → PGs X xs (tgVs X.K cl tg) ∧ xs.all notStar = true ∧ xs.length = tgLen tg
  | .nam i, xs, ctx, h => by simp [chkTs] at h
  | .nil, [], ctx, h => ⟨sGs_nil, rfl, rfl⟩
  | .nil, _ :: _, ctx, h => by simp [chkTs] at h
  | .cons a b, [], ctx, h => by simp [chkTs] at h
  | .cons a b, x :: xs, ctx, h => by
    simp only [chkTs, Bool.and_eq_true] at h
    obtain ⟨⟨h1, h2⟩, h3⟩ := h
    obtain ⟨g1, g2, g3⟩ := chkTs_ok ctx h3
    exact ⟨sGs_cons h1 (chkT_ok ctx h2) g1, by rw [List.all_cons, h1, g2]; rfl, by rw [List.length_cons, g3]; rfl⟩
end
theorem eqSel_ok : ∀ {a b : List (Nat ⊕ PyData)}, eqSel a b = true → a = b
  | [], [], _ => rfl
  | [], _ :: _, h => by simp [eqSel] at h
  | .inl a :: as, [], h => by simp [eqSel] at h
  | .inr a :: as, [], h => by simp [eqSel] at h
  | .inl a :: as, .inl b :: bs, h => by
    simp only [eqSel, Bool.and_eq_true, decide_eq_true_eq] at h
    rw [h.1, eqSel_ok h.2]
  | .inl a :: as, .inr b :: bs, h => by simp [eqSel] at h
  | .inr a :: as, .inl b :: bs, h => by simp [eqSel] at h
  | .inr a :: as, .inr b :: bs, h => by
    simp only [eqSel, Bool.and_eq_true] at h
    rw [eqC_ok h.1, eqSel_ok h.2]
theorem isNil_ok {c : CE} (h : isNil c = true) : c = .nil := by cases c <;> first | rfl | (exact nomatch h)
theorem ownOf_snd (C : CC) (own : List Nat) : (ownOf C own).map (·.2) = own := by
  unfold ownOf
  rw [List.map_map]
  exact List.map_id own
end
/-- what the look tells -/
def Snd (X : Cx) (cl : Nat → Option Addr) (W : WX) (Φ : Nat → Fn) (c : CE) : AS → Prop
  | .e x => PE X x (tE X.K cl W Φ c)
  | .t x => PT X x (tTs X.K cl W Φ c)
  | .w x => PW X x (tTs X.K cl W Φ c)
  | .a xs => PA X xs (tEs X.K cl W Φ c)
  | .k xs => PK X xs (tEs X.K cl W Φ c)
  | .i tg x => PI X tg x (iG X.K cl W Φ c)
  | .d ks vs => evn c = true → ∀ pos, PPs X pos ks vs ((dprs c).map fun p => (tE X.K cl W Φ p.1, tE X.K cl W Φ p.2))
end WW

namespace WW
open PySem PySem.Spec L2
section
variable {cl : Nat → Option Addr} {Φ : Nat → Fn}
theorem wkPTs {X : Cx} {e : List Expr} {t t' : TT} (h : PTs X e t) (i : ∀ σ H Q, t' σ H Q → t σ H Q) : PTs X e t' := ⟨fun pins s σ H Q I q => h.run pins s σ H Q I (i σ H Q q)⟩
/-- what is never come to -/
theorem bad_ok {X : Cx} {W : WX} {e : Expr} : PE X e (tE X.K cl W Φ .yes) := ⟨fun pins s σ H Q I ⟨ρ, F, st, env, O, E, q⟩ => by simp only [ev] at q; exact q.elim⟩
set_option maxHeartbeats 0 in
theorem chk_ok : ∀ (c : CE) {C : CC} {X : Cx} {W : WX} {s : AS}, CtxOk C cl Φ X W → chk c C s = true → Snd X cl W Φ c s
  | .con d, C, X, W, s, ctx, h => by
    unfold chk at h
    split at h
    · rename_i k j p
      unfold conK at h
      split at h
      · exact sE_non
      · rw [beq_iff_eq] at h; subst h; exact sE_bool
      · rw [decide_eq_true_eq] at h; subst h; exact sE_int
      · rw [decide_eq_true_eq] at h; subst h; exact sE_str
      · cases h
    · rename_i x p
      rw [Bool.and_eq_true] at h
      obtain ⟨h1, h2⟩ := h
      obtain ⟨g1, g2, g3⟩ := glob_ok ctx h1
      split at h2
      · rename_i d' e
        have := eqC_ok h2
        subst this
        exact sE_glob g1 g2 (ge_ok ctx e)
      · cases h2
    · cases h
  | .var i, C, X, W, s, ctx, h => by
    unfold chk at h
    split at h
    · obtain ⟨h1, h2, h3, h4⟩ := vis_ok ctx h
      exact sE_var h1 h2 h3 h4
    · cases h
  | .bin op m a b, C, X, W, s, ctx, h => by
    unfold chk at h
    split at h
    · simp only [Bool.and_eq_true, decide_eq_true_eq] at h
      obtain ⟨⟨⟨rfl, h2⟩, h3⟩, h4⟩ := h
      exact sE_bin (sO_bin h2) (noExc_bin _ _) (chk_ok a ctx h3) (chk_ok b ctx h4)
    · cases h
  | .un op a, C, X, W, s, ctx, h => by
    unfold chk at h
    split at h
    · simp only [Bool.and_eq_true, decide_eq_true_eq] at h
      obtain ⟨⟨rfl, rfl⟩, h3⟩ := h
      exact sE_un (chk_ok a ctx h3)
    · cases h
  | .nt a, C, X, W, s, ctx, h => by
    unfold chk at h
    split at h
    · simp only [Bool.and_eq_true, decide_eq_true_eq] at h
      obtain ⟨rfl, h3⟩ := h
      exact sE_nt (chk_ok a ctx h3)
    · cases h
  | .and a b, C, X, W, s, ctx, h => by
    unfold chk at h
    split at h
    · simp only [Bool.and_eq_true, decide_eq_true_eq] at h
      obtain ⟨⟨rfl, h2⟩, h3⟩ := h
      refine sE_and (chk_ok a ctx h2) ?_
      split at h3
      · exact pe_one (chk_ok b ctx h3)
      · exact chk_ok b ctx h3
    · cases h
  | .or a b, C, X, W, s, ctx, h => by
    unfold chk at h
    split at h
    · simp only [Bool.and_eq_true, decide_eq_true_eq] at h
      obtain ⟨⟨rfl, h2⟩, h3⟩ := h
      refine sE_or (chk_ok a ctx h2) ?_
      split at h3
      · exact pe_one (chk_ok b ctx h3)
      · exact chk_ok b ctx h3
    · cases h
  | .ite c a b, C, X, W, s, ctx, h => by
    unfold chk at h
    split at h
    · simp only [Bool.and_eq_true] at h
      obtain ⟨⟨h1, h2⟩, h3⟩ := h
      exact sE_ite (chk_ok c ctx h1) (chk_ok a ctx h2) (chk_ok b ctx h3)
    · cases h
  | .cmp op a b, C, X, W, s, ctx, h => by
    unfold chk at h
    split at h
    · simp only [Bool.and_eq_true, decide_eq_true_eq, Bool.not_eq_true'] at h
      obtain ⟨⟨⟨rfl, h2⟩, h3⟩, h4⟩ := h
      exact sE_cmp (sO_cmp (by have := ctx.hu; omega)) (chk_ok a ctx h3) (chk_ok b ctx h4) h2
    · cases h
  | .chn op op' a b c, C, X, W, s, ctx, h => by
    unfold chk at h
    split at h
    · simp only [Bool.and_eq_true, decide_eq_true_eq, Bool.not_eq_true'] at h
      obtain ⟨⟨⟨⟨⟨rfl, rfl⟩, h2⟩, h3⟩, h4⟩, h5⟩ := h
      exact sE_chn (by have := ctx.hu; omega) (chk_ok a ctx h3) (chk_ok b ctx h4) (chk_ok c ctx h5) h2
    · cases h
  | .nil, C, X, W, s, ctx, h => by
    unfold chk at h
    split at h
    · exact sA_nil
    · exact sK_nil
    · exact fun _ pos => pps_nil
    · cases h
  | .cons a as, C, X, W, s, ctx, h => by
    unfold chk at h
    split at h
    · simp only [Bool.and_eq_true] at h
      obtain ⟨⟨h1, h2⟩, h3⟩ := h
      exact sA_cons h1 (chk_ok a ctx h2) (chk_ok as ctx h3)
    · simp only [Bool.and_eq_true] at h
      exact sK_cons (chk_ok a ctx h.1) (chk_ok as ctx h.2)
    · rw [Bool.and_eq_true] at h
      obtain ⟨h1, h2⟩ := h
      split at h2
      · rename_i b as
        rw [Bool.and_eq_true] at h2
        exact fun he pos => pps_cons (chk_ok a ctx h1) (chk_ok b ctx h2.1) (chk_ok as ctx h2.2 he pos)
      · cases h2
    · cases h
  | .tup as, C, X, W, s, ctx, h => by
    unfold chk at h
    split at h
    · exact sE_tup (chk_ok as ctx h)
    · cases h
  | .lst m as, C, X, W, s, ctx, h => by
    unfold chk at h
    split at h
    · exact sE_lst (chk_ok as ctx h)
    · cases h
  | .dct k as, C, X, W, s, ctx, h => by
    unfold chk at h
    split at h
    · simp only [Bool.and_eq_true, decide_eq_true_eq] at h
      obtain rfl := isNil_ok h.2
      exact sE_dct0 h.1
    · simp only [Bool.and_eq_true, decide_eq_true_eq] at h
      obtain ⟨⟨⟨⟨⟨h1, h2⟩, h3⟩, h4⟩, h5⟩, h6⟩ := h
      exact sE_dct h1 h5 (chk_ok as ctx h6 h5 _) h4 h3 (fun z => nomatch z) h2
    · cases h
  | .idx a b, C, X, W, s, ctx, h => by
    unfold chk at h
    split at h
    · simp only [Bool.and_eq_true] at h
      obtain ⟨⟨h1, h2⟩, h3⟩ := h
      exact sE_idx (by have := ctx.hu; omega) h1 (chk_ok a ctx h2) (chk_ok b ctx h3)
    · cases h
  | .slc m a lo hi, C, X, W, s, ctx, h => by
    unfold chk at h
    split at h
    · simp only [Bool.and_eq_true] at h
      obtain ⟨⟨h1, h2⟩, h3⟩ := h
      refine sE_slc (chk_ok a ctx h1) ?_ ?_
      · split at h2
        · exact .inl ⟨rfl, h2⟩
        · rw [Bool.and_eq_true, Bool.not_eq_true'] at h2
          exact .inr ⟨_, rfl, h2.1, chk_ok lo ctx h2.2⟩
      · split at h3
        · exact .inl ⟨rfl, h3⟩
        · rw [Bool.and_eq_true, Bool.not_eq_true'] at h3
          exact .inr ⟨_, rfl, h3.1, chk_ok hi ctx h3.2⟩
    · cases h
  | .lc m own src tg t e, C, X, W, s, ctx, h => by
    unfold chk at h
    split at h
    · simp only [Bool.and_eq_true] at h
      obtain ⟨⟨⟨⟨⟨⟨⟨h1, h2⟩, h3⟩, h4⟩, h5⟩, h6⟩, h7⟩, h8⟩ := h
      show PE X _ (tE X.K cl W Φ (.lc m own src tg t e))
      rw [← ownOf_snd C own]
      refine sE_lc ctx.calm (by rw [ctx.N]; exact ctx.nd) h1 h2 (chk_ok src ctx h3) ⟨by rw [ctx.N, ctx.sc]; exact blkOk_by h4, fun i hi => ?_, fun s H Ca cls fp => chkT_ok (ctx.blk _ s H Ca cls fp) h6, fun s H Ca cls fp => ?_⟩ (fun s H Ca cls fp => chk_ok e (ctx.blk _ s H Ca cls fp) h8)
      · rw [ownOf_snd]
        rw [List.all_eq_true] at h5
        exact of_decide_eq_true (h5 i hi)
      · split at h7
        · split at h7
          · exact wkPTs pts_nil fun σ H Q q => by
              obtain ⟨ρ, F, st, env, O, E, q⟩ := q
              rw [tst] at q
              exact q true H ρ F .refl O rfl
          · cases h7
        · exact pts_one (chk_ok t (ctx.blk _ s H Ca cls fp) h7)
        · cases h7
    · cases h
  | .call md n as, C, X, W, s, ctx, h => by
    unfold chk at h
    split at h
    · simp only [Bool.and_eq_true] at h
      obtain ⟨⟨⟨h1, h2⟩, h3⟩, h4⟩ := h
      obtain ⟨g1, g2, _⟩ := glob_ok ctx h1
      split at h2
      · rename_i e
        simp only [Bool.and_eq_true, decide_eq_true_eq] at h2
        obtain ⟨⟨rfl, l1⟩, l2⟩ := h2
        exact sE_call ctx.gu ctx.tk g1 g2 (ge_ok ctx e) h3 (chk_ok as ctx h4) l1 fun env st ds st1 he => by rw [evs_len as he, l2]
      · cases h2
    · cases h
  | .callK md n sel as ks, C, X, W, s, ctx, h => by
    unfold chk at h
    split at h
    · simp only [Bool.and_eq_true] at h
      obtain ⟨⟨⟨⟨⟨⟨h1, h2⟩, h3⟩, h4⟩, h5⟩, h6⟩, h7⟩ := h
      obtain ⟨g1, g2, _⟩ := glob_ok ctx h1
      split at h2
      · rename_i e
        simp only [Bool.and_eq_true, decide_eq_true_eq, List.any_eq_true] at h2
        obtain ⟨⟨rfl, sh, m1, m2⟩, l2⟩ := h2
        unfold shOk at m2
        simp only [Bool.and_eq_true, decide_eq_true_eq] at m2
        obtain ⟨⟨n1, n2⟩, n3⟩ := m2
        have := eqSel_ok n3
        subst this
        exact sE_callK ctx.gu ctx.tk g1 g2 (ge_ok ctx e) m1 (fun z => by subst z; exact isNil_ok h5) h3 h4 n2.symm n1.symm (by rw [n2]; exact l2) (chk_ok as ctx h6) (chk_ok ks ctx h7)
      · cases h2
    · cases h
  | .bi b m as, C, X, W, s, ctx, h => by
    unfold chk at h
    split at h
    · simp only [Bool.and_eq_true] at h
      obtain ⟨h2, h3⟩ := h
      obtain ⟨rfl, g1, g2, g3, g4⟩ := blt_ok ctx h2
      split at h3
      · rename_i h1
        rw [Bool.and_eq_true] at h3
        exact sE_bi h1 ctx.calm ctx.gu (by have := ctx.hu; omega) ctx.nst g1 g2 (biNm_ok b) g4 g3 h3.1 (chk_ok as ctx h3.2)
      · rw [Bool.and_eq_true] at h3
        obtain ⟨h3, h4⟩ := h3
        split at h4
        · rename_i a z p u p2
          simp only [Bool.and_eq_true] at h4
          obtain ⟨⟨h5, h6⟩, h7⟩ := h4
          obtain ⟨e1, k1, k2, _, _⟩ := blt_ok ctx h5
          cases b with
          | tupR => exact sE_tupR1 ctx.calm rfl g1 g2 e1 k1 k2 h6 (chk_ok a ctx h7)
          | lstR => exact sE_lstR1 ctx.calm rfl g1 g2 e1 k1 k2 h6 (chk_ok a ctx h7)
          | _ => cases h3
        · rename_i a b' z p u v p2
          simp only [Bool.and_eq_true] at h4
          obtain ⟨⟨⟨⟨h5, h6⟩, h6'⟩, h7⟩, h8⟩ := h4
          obtain ⟨e1, k1, k2, _, _⟩ := blt_ok ctx h5
          cases b with
          | tupR => exact sE_tupR2 ctx.calm rfl g1 g2 e1 k1 k2 h6 h6' (chk_ok a ctx h7) (chk_ok b' ctx h8)
          | lstR => exact sE_lstR2 ctx.calm rfl g1 g2 e1 k1 k2 h6 h6' (chk_ok a ctx h7) (chk_ok b' ctx h8)
          | _ => cases h3
        · cases h4
    · cases h
  | .dc k own src tg t ke ve, C, X, W, s, ctx, h => by
    unfold chk at h
    split at h
    · simp only [Bool.and_eq_true, decide_eq_true_eq] at h
      obtain ⟨⟨⟨⟨⟨⟨⟨⟨⟨h0, h1⟩, h2⟩, h3⟩, h4⟩, h5⟩, h6⟩, h7⟩, h8⟩, h9⟩ := h
      show PE X _ (tE X.K cl W Φ (.dc k own src tg t ke ve))
      rw [← ownOf_snd C own]
      refine sE_dc h0 (by have := ctx.hu; omega) ctx.calm (by rw [ctx.N]; exact ctx.nd) h1 h2 (chk_ok src ctx h3) ⟨by rw [ctx.N, ctx.sc]; exact blkOk_by h4, fun i hi => ?_, fun s H Ca cls fp => chkT_ok (ctx.blk _ s H Ca cls fp) h6, fun s H Ca cls fp => ?_⟩ (fun s H Ca cls fp => chk_ok ke (ctx.blk _ s H Ca cls fp) h8) (fun s H Ca cls fp => chk_ok ve (ctx.blk _ s H Ca cls fp) h9)
      · rw [ownOf_snd]
        rw [List.all_eq_true] at h5
        exact of_decide_eq_true (h5 i hi)
      · split at h7
        · split at h7
          · exact wkPTs pts_nil fun σ H Q q => by
              obtain ⟨ρ, F, st, env, O, E, q⟩ := q
              rw [tst] at q
              exact q true H ρ F .refl O rfl
          · cases h7
        · exact pts_one (chk_ok t (ctx.blk _ s H Ca cls fp) h7)
        · cases h7
    · cases h
  | .isi cs a, C, X, W, s, ctx, h => by
    unfold chk at h
    split at h
    · simp only [Bool.and_eq_true] at h
      obtain ⟨⟨⟨h1, h2⟩, h3⟩, h4⟩ := h
      obtain ⟨e1, g1, g2, g3, g4⟩ := blt_ok ctx h1
      split at h3
      · split at h3
        · rename_i n hn
          obtain ⟨e2, k1, k2, k3, k4⟩ := blt_ok ctx h3
          exact sE_isi g1 g2 (by rw [e1]; decide +kernel) g4 g3 k1 k2 (by rw [e2]; exact tyNm_ok hn) k4 k3 h2 (chk_ok a ctx h4)
        · cases h3
      · cases h3
    · cases h
  | .mt m o as, C, X, W, s, ctx, h => by
    unfold chk at h
    split at h
    · split at h
      · simp only [Bool.and_eq_true, decide_eq_true_eq] at h
        obtain ⟨⟨⟨⟨⟨⟨⟨h1, h2⟩, h3⟩, h4⟩, h5⟩, h6⟩, h7⟩, h8⟩ := h
        exact sE_mt h1 h2 h3 h4 h5 h6 (chk_ok o ctx h7) (chk_ok as ctx h8)
      · rename_i hm
        have hm : m = .get := by cases m <;> first | rfl | cases hm
        subst hm
        simp only [Bool.and_eq_true, decide_eq_true_eq] at h
        obtain ⟨⟨⟨⟨h1, h2⟩, h3⟩, h4⟩, h5⟩ := h
        split at h5
        · rename_i a
          rw [Bool.and_eq_true] at h5
          exact sE_get1 h1 (by have := ctx.hu; omega) h2 h5.1 h3 (chk_ok o ctx h4) (chk_ok a ctx h5.2)
        · rename_i a b z
          simp only [Bool.and_eq_true] at h5
          obtain ⟨⟨⟨h6, h7⟩, h8⟩, h9⟩ := h5
          exact sE_get2 h1 (by have := ctx.hu; omega) h2 h6 h7 h3 (chk_ok o ctx h4) (chk_ok a ctx h8) (chk_ok b ctx h9)
        · cases h5
    · simp only [Bool.and_eq_true, decide_eq_true_eq] at h
      obtain ⟨⟨⟨⟨⟨h1, h2⟩, h3⟩, h6⟩, h7⟩, h8⟩ := h
      obtain rfl := isNil_ok h8
      exact sE_mtN h1 h2 h3 h6 (chk_ok o ctx h7)
    · cases h
  | .tnt a, C, X, W, s, ctx, h => by
    unfold chk at h
    split at h
    · simp only [Bool.and_eq_true, decide_eq_true_eq] at h
      obtain ⟨rfl, h3⟩ := h
      exact sT_not (chk_ok a ctx h3)
    · cases h
  | .tand a b, C, X, W, s, ctx, h => by
    unfold chk at h
    split at h
    · simp only [Bool.and_eq_true, decide_eq_true_eq] at h
      obtain ⟨⟨rfl, h2⟩, h3⟩ := h
      refine (sW_and (chk_ok a ctx h2) ?_).pt
      split at h3
      · exact sW_one (chk_ok b ctx h3)
      · exact chk_ok b ctx h3
    · simp only [Bool.and_eq_true, decide_eq_true_eq] at h
      obtain ⟨⟨rfl, h2⟩, h3⟩ := h
      refine sW_and (chk_ok a ctx h2) ?_
      split at h3
      · exact sW_one (chk_ok b ctx h3)
      · exact chk_ok b ctx h3
    · cases h
  | .tor a b, C, X, W, s, ctx, h => by
    unfold chk at h
    split at h
    · simp only [Bool.and_eq_true, decide_eq_true_eq] at h
      obtain ⟨⟨rfl, h2⟩, h3⟩ := h
      refine (sW_or (chk_ok a ctx h2) ?_).pt
      split at h3
      · exact sW_one (chk_ok b ctx h3)
      · exact chk_ok b ctx h3
    · simp only [Bool.and_eq_true, decide_eq_true_eq] at h
      obtain ⟨⟨rfl, h2⟩, h3⟩ := h
      refine sW_or (chk_ok a ctx h2) ?_
      split at h3
      · exact sW_one (chk_ok b ctx h3)
      · exact chk_ok b ctx h3
    · cases h
  | .tof a, C, X, W, s, ctx, h => by
    unfold chk at h
    split at h
    · rename_i op a b x o y p
      simp only [Bool.and_eq_true, decide_eq_true_eq, Bool.not_eq_true'] at h
      obtain ⟨⟨⟨rfl, h2⟩, h3⟩, h4⟩ := h
      exact sT_cmp (by have := ctx.hu; omega) (chk_ok a ctx h3) (chk_ok b ctx h4) h2
    · rename_i op op' a b c x o o' y z p
      simp only [Bool.and_eq_true, decide_eq_true_eq, Bool.not_eq_true'] at h
      obtain ⟨⟨⟨⟨⟨rfl, rfl⟩, h2⟩, h3⟩, h4⟩, h5⟩ := h
      exact sT_chn (by have := ctx.hu; omega) (chk_ok a ctx h3) (chk_ok b ctx h4) (chk_ok c ctx h5) h2
    · rw [Bool.and_eq_true] at h
      exact sT_of h.1 (chk_ok a ctx h.2)
    · cases h
  | .seq a, C, X, W, s, ctx, h => by
    unfold chk at h
    split at h
    · exact sI_seq (chk_ok a ctx h)
    · cases h
  | .rng as, C, X, W, s, ctx, h => by
    unfold chk at h
    split at h
    · rename_i a t x p y p2
      simp only [Bool.and_eq_true] at h
      obtain ⟨⟨h1, h2⟩, h3⟩ := h
      obtain ⟨e1, g1, g2, g3, g4⟩ := blt_ok ctx h1
      exact sI_rng1 e1 g1 g2 h2 (sA_cons h2 (chk_ok a ctx h3) sA_nil)
    · rename_i a b t x p y z p2
      simp only [Bool.and_eq_true] at h
      obtain ⟨⟨⟨⟨h1, h2⟩, h3⟩, h4⟩, h5⟩ := h
      obtain ⟨e1, g1, g2, g3, g4⟩ := blt_ok ctx h1
      exact sI_rng2 e1 g1 g2 h2 h3 (sA_cons h2 (chk_ok a ctx h4) (sA_cons h3 (chk_ok b ctx h5) sA_nil))
    · rename_i a b c t x p y z u p2
      simp only [Bool.and_eq_true] at h
      obtain ⟨⟨⟨⟨⟨⟨h1, h2⟩, h3⟩, h4⟩, h5⟩, h6⟩, h7⟩ := h
      obtain ⟨e1, g1, g2, g3, g4⟩ := blt_ok ctx h1
      exact sI_rng3 e1 g1 g2 h2 h3 h4 (sA_cons h2 (chk_ok a ctx h5) (sA_cons h3 (chk_ok b ctx h6) (sA_cons h4 (chk_ok c ctx h7) sA_nil)))
    · cases h
  | .rev _ _, C, X, W, s, ctx, h => by unfold chk at h; cases h
  | .abs, C, X, W, s, ctx, h => by unfold chk at h; cases h
  | .new _ _ _, C, X, W, s, ctx, h => by unfold chk at h; cases h
  | .mc _ _ _ _, C, X, W, s, ctx, h => by unfold chk at h; cases h
  | .fld _ _, C, X, W, s, ctx, h => by unfold chk at h; cases h
  | .yes, C, X, W, s, ctx, h => by
    unfold chk at h
    split at h
    · exact bad_ok
    · cases h
  | .zip as, C, X, W, s, ctx, h => by
    unfold chk at h
    split at h
    · rename_i a b t x p y z p2
      simp only [Bool.and_eq_true] at h
      obtain ⟨⟨⟨⟨⟨h0, h1⟩, h2⟩, h3⟩, h4⟩, h5⟩ := h
      obtain ⟨e1, g1, g2, g3, g4⟩ := blt_ok ctx h1
      exact sI_zip h0 e1 g1 g2 h2 h3 (sA_cons h2 (chk_ok a ctx h4) (sA_cons h3 (chk_ok b ctx h5) sA_nil))
    · cases h
  | .enum a, C, X, W, s, ctx, h => by
    unfold chk at h
    split at h
    · simp only [Bool.and_eq_true] at h
      obtain ⟨⟨⟨h0, h1⟩, h2⟩, h3⟩ := h
      obtain ⟨e1, g1, g2, g3, g4⟩ := blt_ok ctx h1
      exact sI_enum h0 e1 g1 g2 h2 (sA_cons h2 (chk_ok a ctx h3) sA_nil)
    · cases h
  | .keys _, C, X, W, s, ctx, h => by unfold chk at h; cases h
  | .items _, C, X, W, s, ctx, h => by unfold chk at h; cases h
  | .vals _, C, X, W, s, ctx, h => by unfold chk at h; cases h
  | .rvd a, C, X, W, s, ctx, h => by
    unfold chk at h
    split at h
    · simp only [Bool.and_eq_true] at h
      obtain ⟨⟨h1, h2⟩, h3⟩ := h
      obtain ⟨e1, g1, g2, g3, g4⟩ := blt_ok ctx h1
      exact sI_rvd e1 g1 g2 h2 (chk_ok a ctx h3)
    · cases h
end
end WW

namespace WW
open PySem PySem.Spec L2
inductive SS where
  | s (s : Stmt) | b (b : List Stmt)
def isName : Expr → Bool
  | .Name _ _ => true
  | _ => false
def chkPar : List Nat → CC → List Expr → List Expr → Bool
  | [i, j], C, [.Name x px, .Name y py], [a, b] => C.locL i x && C.locL j y && decide (i ≠ j) && swOk2 x y px py a b
  | [i, j, l], C, [.Name x px, .Name y py, .Name z pz], [a, b, c] => C.locL i x && C.locL j y && C.locL l z && decide (i ≠ j) && decide (i ≠ l) && decide (j ≠ l) && swOk3 x y z px py pz a b c
  | _, _, _, _ => false
def isFun (C : CC) : Bool := match C.sc.kind with
  | .function => true
  | _ => false
/-- a name of a tuple of targets is no plain local: no stores are swapped -/
def cellN (C : CC) : Expr → Bool
  | .Name x _ => match C.sc.names.lookup x with
    | some .local => false
    | _ => true
  | _ => true
def cellIn (C : CC) : Expr → Bool
  | .Tuple ts _ _ => ts.any (cellN C)
  | _ => false
def isYes : CE → Bool
  | .yes => true
  | _ => false
def chkS : CS → CC → SS → Bool
  | .skip, _, s => match s with
    | .b [] => true
    | .s (.Pass _) => true
    | _ => false
  | .seq a b, C, s => match s with
    | .b (x :: xs) => chkS a C (.s x) && chkS b C (.b xs)
    | _ => false
  | .exp e, C, s => match s with
    | .s (.Expr x _) => isYes e || notComp x && chk e C (.e x)
    | .s _ => isYes e
    | _ => false
  | .asg tg e, C, s => match s with
    | .s (.Assign [t] x _) => match x with
      | .ListComp elt [⟨t', iter, ifs, 0⟩] scope pos => (match tg, t, e with
        | .nam i, .Name y py, .lc _ _ _ _ _ _ => (C.locL i y && isFun C && (py.line == pos.line) && !(scope.names.any fun (n, k) => n == y && (k == .local || k == .cell)) ||
            noSw C (.Name y py) (.ListComp elt [⟨t', iter, ifs, 0⟩] scope pos) && C.loc i y) && chk e C (.e (.ListComp elt [⟨t', iter, ifs, 0⟩] scope pos))
        | _, _, _ => false)
      | x => noSw C t x && (isName t || notTup x || cellIn C t) && notStar t && chkT tg C t && chk e C (.e x)
    | _ => false
  | .par is as, C, s => match s with
    | .s (.Assign [.Tuple ts _ _] (.Tuple es _ _) _) => isFun C && chkPar is C ts es && chk as C (.a es)
    | _ => false
  | .set o i e, C, s => match s with
    | .s (.Assign [.Subscript x y p2] z _) => noSw C (.Subscript x y p2) z && plainIx y && chk o C (.e x) && chk i C (.e y) && chk e C (.e z)
    | _ => false
  | .aug i op e, C, s => match s with
    | .s (.AugAssign (.Name x _) o y _) => decide (op = o) && augOk op && C.loc i x && chk e C (.e y)
    | _ => false
  | .ret e, C, s => match s with
    | .s (.Return (some x) _) => chk e C (.e x)
    | _ => false
  | .retN, C, s => match s with
    | .s (.Return none _) => true
    | _ => false
  | .ite c a b, C, s => match s with
    | .s (.If t x y _) => chk c C (.t t) && chkS a C (.b x) && chkS b C (.b y)
    | _ => false
  | .for src tg b, C, s => match s with
    | .s (.For t it body [] _) => lstSrc src && notSet it && chk src C (.i t it) && chkT tg C t && chkS b C (.b body)
    | _ => false
  | .whl c b, C, s => match s with
    | .s (.While t body [] _) => chk c C (.t t) && chkS b C (.b body)
    | _ => false
  | .brk, _, s => match s with
    | .s (.Break _) => true
    | _ => false
  | .cnt, _, s => match s with
    | .s (.Continue _) => true
    | _ => false
  | _, _, _ => false
def SndS (X : Cx) (cl : Nat → Option Addr) (W : WX) (Φ : Nat → Fn) (c : CS) : SS → Prop
  | .s x => PS X x (tS X.K cl W Φ c)
  | .b x => PSs X x (tS X.K cl W Φ c)
section
variable {cl : Nat → Option Addr} {Φ : Nat → Fn}
theorem isYes_ok {e : CE} (h : isYes e = true) : e = .yes := by
  unfold isYes at h
  split at h
  · rfl
  · cases h
theorem badS_ok {X : Cx} {W : WX} {x : Stmt} : PS X x (tS X.K cl W Φ (.exp .yes)) := ⟨fun pins s σ H Q I ⟨ρ, F, st, env, O, E, q⟩ => by
  have z : exec Φ (.exp .yes) env st = .stuck := by rw [exec, show ev Φ .yes env st = .stuck from by simp only [ev]]; rfl
  rw [z] at q; exact q.elim⟩
theorem isName_ok {t : Expr} {e : Expr} {env : PySem.Env} (h : isName t = true) : swappedStores [t] e env = pure none := by
  cases t <;> first | exact sw_name | exact nomatch h
theorem filterMap_lt {α β : Type} {f : α → Option β} : ∀ {l : List α}, (∃ x ∈ l, f x = none) → (l.filterMap f).length < l.length
  | [], ⟨x, h, _⟩ => nomatch h
  | y :: l, ⟨x, h, e⟩ => by
    rcases List.mem_cons.mp h with rfl | h
    · rw [List.filterMap_cons_none e, List.length_cons]
      exact Nat.lt_succ_of_le (List.length_filterMap_le f l)
    · have ih := filterMap_lt (f := f) ⟨x, h, e⟩
      cases hy : f y with
      | none => rw [List.filterMap_cons_none hy, List.length_cons]; omega
      | some z => rw [List.filterMap_cons_some hy, List.length_cons, List.length_cons]; omega
theorem cellIn_ok {C : CC} {X : Cx} {W : WX} {t e : Expr} (ctx : CtxOk C cl Φ X W) (h : cellIn C t = true) : swappedStores [t] e X.env = pure none := by
  unfold cellIn at h
  split at h
  · rename_i ts k p
    cases e with
    | Tuple vs k2 p2 =>
      obtain ⟨x, hx, hc⟩ := List.any_eq_true.mp h
      unfold swappedStores
      simp only []
      split
      · rfl
      · split
        · rfl
        · have hlt := filterMap_lt (l := ts) (f := fun | .Name id pos => if X.env.kindOf id == some .local && pos.line == (ts.head?.map (·.pos.line)).getD 0 then some id else none | _ => none) ⟨x, hx, by
            unfold cellN at hc
            split at hc
            · split at hc
              · cases hc
              · rename_i y _ _ hn
                have : (X.env.kindOf y == some .local) = false := by
                  rw [kind_eq, ctx.sc]
                  cases hk : (C.sc.names.lookup y == some .local) with
                  | false => rfl
                  | true => rw [beq_iff_eq] at hk; exact absurd hk hn
                simp only [this, Bool.false_and, Bool.false_eq_true, if_false]
            · rfl⟩
          rw [if_pos]
          rw [Bool.or_eq_true]
          left
          rw [bne_iff_ne]
          exact Nat.ne_of_lt hlt
    | _ => rfl
  · cases h
theorem isFun_ok {C : CC} {X : Cx} {W : WX} (ctx : CtxOk C cl Φ X W) (h : isFun C = true) : X.env.scope.kind = .function := by
  unfold isFun at h
  rw [ctx.sc]
  split at h
  · assumption
  · cases h
theorem lc_set {m : Bool} {own : List Nat} {src : CE} {tg : Tg} {t e : CE} {C : CC} {X : Cx} {W : WX} {i : Nat} {y : Str} {py pos spos : Pos} {elt t' iter : Expr} {ifs : List Expr} {scope : Scope} (ctx : CtxOk C cl Φ X W) (hy : C.locL i y = true) (hf : isFun C = true) (hl : (py.line == pos.line) = true)
    (ha : (scope.names.any fun (n, k) => n == y && (k == .local || k == .cell)) = false) (h : chk (.lc m own src tg t e) C (.e (.ListComp elt [⟨t', iter, ifs, 0⟩] scope pos)) = true) :
    PS X (.Assign [.Name y py] (.ListComp elt [⟨t', iter, ifs, 0⟩] scope pos) spos) (tS X.K cl W Φ (.asg (.nam i) (.lc m own src tg t e))) := by
  unfold chk at h
  simp only [Bool.and_eq_true] at h
  obtain ⟨⟨⟨⟨⟨⟨⟨h1, h2⟩, h3⟩, h4⟩, h5⟩, h6⟩, h7⟩, h8⟩ := h
  obtain ⟨g1, g2⟩ := locL_ok ctx hy
  rw [← ownOf_snd C own]
  refine sS_setLc ctx.calm (by rw [ctx.N]; exact ctx.nd) g1 g2 (isFun_ok ctx hf) hl ha h1 h2 (chk_ok src ctx h3) ⟨by rw [ctx.N, ctx.sc]; exact blkOk_by h4, fun i hi => ?_, fun s H Ca cls fp => chkT_ok (ctx.blk _ s H Ca cls fp) h6, fun s H Ca cls fp => ?_⟩ (fun s H Ca cls fp => chk_ok e (ctx.blk _ s H Ca cls fp) h8)
  · rw [ownOf_snd]
    rw [List.all_eq_true] at h5
    exact of_decide_eq_true (h5 i hi)
  · split at h7
    · split at h7
      · exact wkPTs pts_nil fun σ H Q q => by
          obtain ⟨ρ, F, st, env, O, E, q⟩ := q
          rw [tst] at q
          exact q true H ρ F .refl O rfl
      · cases h7
    · exact pts_one (chk_ok t (ctx.blk _ s H Ca cls fp) h7)
    · cases h7
set_option maxHeartbeats 0 in
theorem chkS_ok : ∀ (c : CS) {C : CC} {X : Cx} {W : WX} {s : SS}, CtxOk C cl Φ X W → chkS c C s = true → SndS X cl W Φ c s
  | .skip, C, X, W, s, ctx, h => by
    unfold chkS at h
    split at h
    · exact sSs_nil
    · exact sS_pass
    · cases h
  | .seq a b, C, X, W, s, ctx, h => by
    unfold chkS at h
    split at h
    · rw [Bool.and_eq_true] at h
      exact sSs_cons (chkS_ok a ctx h.1) (chkS_ok b ctx h.2)
    · cases h
  | .exp e, C, X, W, s, ctx, h => by
    unfold chkS at h
    split at h
    · rw [Bool.or_eq_true, Bool.and_eq_true] at h
      rcases h with h | h
      · obtain rfl := isYes_ok h
        exact badS_ok
      · exact sS_exp h.1 (chk_ok e ctx h.2)
    · obtain rfl := isYes_ok h
      exact badS_ok
    · cases h
  | .asg tg e, C, X, W, s, ctx, h => by
    unfold chkS at h
    split at h
    · split at h
      · split at h
        · simp only [Bool.and_eq_true, Bool.or_eq_true, Bool.not_eq_true'] at h
          obtain ⟨h, h5⟩ := h
          rcases h with ⟨⟨⟨h1, h2⟩, h3⟩, h4⟩ | ⟨h1, h2⟩
          · exact lc_set ctx h1 h2 h3 h4 h5
          · exact sS_asg (noSw_ok ctx h1) sw_name rfl (chkT_ok ctx h2) (chk_ok _ ctx h5)
        · cases h
      · simp only [Bool.and_eq_true, Bool.or_eq_true] at h
        obtain ⟨⟨⟨⟨h1, h2⟩, h3⟩, h4⟩, h5⟩ := h
        exact sS_asg (noSw_ok ctx h1) (h2.elim (fun h2 => h2.elim isName_ok sw_none) (cellIn_ok ctx)) h3 (chkT_ok ctx h4) (chk_ok e ctx h5)
    · cases h
  | .par is as, C, X, W, s, ctx, h => by
    unfold chkS at h
    split at h
    · simp only [Bool.and_eq_true] at h
      obtain ⟨⟨h1, h2⟩, h3⟩ := h
      have hN : X.N.Nodup := by rw [ctx.N]; exact ctx.nd
      unfold chkPar at h2
      split at h2
      · simp only [Bool.and_eq_true, decide_eq_true_eq] at h2
        obtain ⟨⟨⟨k1, k2⟩, k3⟩, k4⟩ := h2
        obtain ⟨a1, a2⟩ := locL_ok ctx k1
        obtain ⟨b1, b2⟩ := locL_ok ctx k2
        exact sS_par2 ctx.calm hN a1 b1 k3 (isFun_ok ctx h1) a2 b2 k4 (chk_ok as ctx h3)
      · simp only [Bool.and_eq_true, decide_eq_true_eq] at h2
        obtain ⟨⟨⟨⟨⟨⟨k1, k2⟩, k3⟩, k4⟩, k5⟩, k6⟩, k7⟩ := h2
        obtain ⟨a1, a2⟩ := locL_ok ctx k1
        obtain ⟨b1, b2⟩ := locL_ok ctx k2
        obtain ⟨c1, c2⟩ := locL_ok ctx k3
        exact sS_par3 ctx.calm hN a1 b1 c1 k4 k5 k6 (isFun_ok ctx h1) a2 b2 c2 k7 (chk_ok as ctx h3)
      · cases h2
    · cases h
  | .set o i e, C, X, W, s, ctx, h => by
    unfold chkS at h
    split at h
    · simp only [Bool.and_eq_true] at h
      obtain ⟨⟨⟨⟨h1, h2⟩, h3⟩, h4⟩, h5⟩ := h
      exact sS_set (by have := ctx.hu; omega) (noSw_ok ctx h1) h2 (chk_ok o ctx h3) (chk_ok i ctx h4) (chk_ok e ctx h5)
    · cases h
  | .aug i op e, C, X, W, s, ctx, h => by
    unfold chkS at h
    split at h
    · simp only [Bool.and_eq_true, decide_eq_true_eq] at h
      obtain ⟨⟨⟨rfl, h2⟩, h3⟩, h4⟩ := h
      obtain ⟨g1, g2, g3⟩ := loc_ok ctx h3
      exact sS_aug h2 (by rw [ctx.N]; exact ctx.nd) g1 g2 g3 (chk_ok e ctx h4)
    · cases h
  | .ret e, C, X, W, s, ctx, h => by
    unfold chkS at h
    split at h
    · exact sS_ret (chk_ok e ctx h)
    · cases h
  | .retN, C, X, W, s, ctx, h => by
    unfold chkS at h
    split at h
    · exact sS_retN
    · cases h
  | .ite c a b, C, X, W, s, ctx, h => by
    unfold chkS at h
    split at h
    · simp only [Bool.and_eq_true] at h
      obtain ⟨⟨h1, h2⟩, h3⟩ := h
      exact sS_ite (chk_ok c ctx h1) (chkS_ok a ctx h2) (chkS_ok b ctx h3)
    · cases h
  | .for src tg b, C, X, W, s, ctx, h => by
    unfold chkS at h
    split at h
    · simp only [Bool.and_eq_true] at h
      obtain ⟨⟨⟨⟨h1, h2⟩, h3⟩, h4⟩, h5⟩ := h
      exact sS_for h1 h2 ctx.po ctx.calm (chk_ok src ctx h3) (chkT_ok ctx h4) (chkS_ok b ctx h5)
    · cases h
  | .whl c b, C, X, W, s, ctx, h => by
    unfold chkS at h
    split at h
    · simp only [Bool.and_eq_true] at h
      exact sS_whl ctx.po (chk_ok c ctx h.1) (chkS_ok b ctx h.2)
    · cases h
  | .brk, C, X, W, s, ctx, h => by
    unfold chkS at h
    split at h
    · exact sS_brk
    · cases h
  | .cnt, C, X, W, s, ctx, h => by
    unfold chkS at h
    split at h
    · exact sS_cnt
    · cases h
  | .setf _ _ _, C, X, W, s, ctx, h => by unfold chkS at h; cases h
  | .augs _ _ _ _, C, X, W, s, ctx, h => by unfold chkS at h; cases h
  | .rai _ _ _, C, X, W, s, ctx, h => by unfold chkS at h; cases h
end
end WW

namespace WW
open PySem PySem.Spec L2
/-- the answers of the defs, by their numbers -/
def tab (l : List Fn) : Nat → Fn := fun i => l.getD i fun _ _ => .stuck
section
variable {P : Program} {w : World} {K : PySem.W.Frag} {mg : Str → Option Value} {base : Heap} {cl : Nat → Option Addr} {Φ : Nat → Fn}
/-- a look at the names of a def's scope -/
def scL (N P : List Str) (sc : Scope) : Bool :=
  (match sc.kind with | .function => true | _ => false) && !sc.isCoroutine && !sc.isGenerator && decide N.Nodup && decide (N.take P.length = P) && (P.all fun x => match sc.names.lookup x with | some .local => true | some .cell => true | _ => false) &&
    sc.names.all fun y => match y.2 with | .free => false | _ => true
theorem scL_ok {N P : List Str} {sc : Scope} (h : scL N P sc = true) : FnScope N P sc := by
  unfold scL at h
  simp only [Bool.and_eq_true, Bool.not_eq_true', decide_eq_true_eq, List.all_eq_true] at h
  obtain ⟨⟨⟨⟨⟨⟨h1, h2⟩, h3⟩, h4⟩, h5⟩, h6⟩, h7⟩ := h
  refine ⟨?_, h2, h3, h4, h5, fun x hx => ?_, fun y hy z => ?_⟩
  · split at h1
    · assumption
    · cases h1
  · have := h6 x hx
    split at this
    · exact .inl (by assumption)
    · exact .inr (by assumption)
    · cases this
  · have := h7 y hy
    rw [z] at this
    cases this
theorem fn_chk {x qual : Str} {st : Stmt} {f : Addr} {fd : FuncData} {N ps : List Str} {k : Nat} {cf : CF} {G : List (Str × GE)} (F : L2.Fun K x qual st f fd) (nst : PySem.W.nsIn K cStatics "sys.int_max_str_digits" = some none)
    (hs : scL N ps (defScope st) = true) (hn : cf.ar = ps.length ∧ cf.sl = N.length) (hc : chkS cf.body ⟨N, defScope st, fun _ => true, G⟩ (.b (defBody st)) = true) (hglo : ∀ p ∈ G, GlobK P w K mg base cl Φ k p.1 p.2) :
    FnG P w K mg base (k + 1) f fd ps (spG K cl (run Φ cf) ps.length) := by
  obtain ⟨oc, od, kV, doc, pm, an, cdv, ct, osl, rfl, lk, hcd⟩ := F.ex
  exact fnG_of (C := ⟨N, defScope st, fun _ => true, G⟩) lk hcd (scL_ok hs) rfl rfl hn.1 hn.2 nst (fun x g h => hglo (x, g) h) fun X W hX ctx => chkS_ok cf.body ctx hc
theorem shape_mk {x qual : Str} {st : Stmt} {f : Addr} {fd : FuncData} {ps : List Str} {sh : Shape} (F : L2.Fun K x qual st f fd)
    (h : ∀ (kV doc pm : Value) (an : Option Addr) (cdv ct : Value) (us ws : List Value), us.length = sh.n → ws.length = sh.ks.length →
      ∃ zs, zs.length = ps.length ∧ bindArgs (PySem.W.fnOf x qual (defArgs st) (defBody st) (defScope st) .none kV doc pm an cdv ct) ⟨us, sh.ks.zip ws⟩ = pure (ps.zip zs) ∧ Paired (SelOk K (us ++ ws)) sh.sel zs) : ShapeOk K fd ps sh := by
  obtain ⟨oc, od, kV, doc, pm, an, cdv, ct, osl, rfl, lk, hcd⟩ := F.ex
  intro s us ws _ h1 h2
  obtain ⟨zs, e1, e2, e3⟩ := h kV doc pm an cdv ct us ws h1 h2
  exact ⟨zs, e1, .of_eq e2, e3⟩
/-- keyword-only parameters that lack: ms their names and values -/
theorem shape_mkD {x qual : Str} {st : Stmt} {ps : List Str} {sh : Shape} {D : Addr} {doc pm : Value} {an : Option Addr} {cdv ct : Value} {ms : List (Str × Value)} (hm : ∀ q ∈ ms, PySem.W.nsIn K D q.1 = some (some q.2))
    (h : ∀ (us ws : List Value), us.length = sh.n → ws.length = sh.ks.length →
      ∃ zs, zs.length = ps.length ∧ KwChain D ms (bindArgs (PySem.W.fnOf x qual (defArgs st) (defBody st) (defScope st) .none (.ref D) doc pm an cdv ct) ⟨us, sh.ks.zip ws⟩) (ps.zip zs) ∧ Paired (SelOk K (us ++ ws)) sh.sel zs) :
    ShapeOk K (PySem.W.fnOf x qual (defArgs st) (defBody st) (defScope st) .none (.ref D) doc pm an cdv ct) ps sh := by
  intro s us ws X h1 h2
  obtain ⟨zs, e1, e2, e3⟩ := h us ws h1 h2
  exact ⟨zs, e1, BindsTo.of_looks fun M => KwChain.looks X hm e2, e3⟩
theorem glo_nil {k : Nat} : ∀ p ∈ ([] : List (Str × GE)), GlobK P w K mg base cl Φ k p.1 p.2 := fun _ h => nomatch h
theorem glo_cons {k : Nat} {x : Str} {g : GE} {G : List (Str × GE)} (h : GlobK P w K mg base cl Φ k x g) (hr : ∀ p ∈ G, GlobK P w K mg base cl Φ k p.1 p.2) : ∀ p ∈ (x, g) :: G, GlobK P w K mg base cl Φ k p.1 p.2 := by
  intro p hp
  rcases List.mem_cons.mp hp with rfl | hp
  · exact h
  · exact hr p hp
theorem glo_fn {k j n : Nat} {x : Str} {f : Addr} {fd : FuncData} {ps : List Str} {pl : Bool} {shs : List Shape} (hj : j ≤ k) (hm : mg x = some (.ref f)) (G : FnG P w K mg base j f fd ps (spG K cl (Φ n) ps.length)) (hk : PySem.W.keepIn K (.ref f) = true)
    (hb : pl = true → Binds K fd ps []) (hsh : ∀ sh ∈ shs, ShapeOk K fd ps sh) : GlobK P w K mg base cl Φ k x (.fn n ps pl shs) := ⟨f, fd, j, hj, hm, G, hk, hb, hsh⟩
theorem glo_str {k : Nat} {x y : Str} {u : Value} (hm : mg x = some u) (hu : ∃ t, u = .str y t) : GlobK P w K mg base cl Φ k x (.con (.str y)) := by
  obtain ⟨t, rfl⟩ := hu
  exact ⟨.str y, _, hm, ⟨t, rfl⟩, fun F => .str y⟩
theorem glo_int {k : Nat} {x : Str} {i : Int} {u : Value} (hm : mg x = some u) (hu : ∃ t, u = .int i t) : GlobK P w K mg base cl Φ k x (.con (.int i)) := by
  obtain ⟨t, rfl⟩ := hu
  exact ⟨.int i, _, hm, ⟨t, rfl⟩, fun F => .int i⟩
end
end WW

/-! What is wanted behind an evaluation, in plain words: rules for the proofs of the laws. -/
namespace WW
open PySem
/-- (a structure: nothing is to unfold it unasked) -/
structure Gv {α : Type} (r : R α) (P : α → Store → Prop) : Prop where
  h : match r with
    | .ok a st => P a st
    | _ => False
/-- behind a statement: next, break, continue, return -/
structure GS (r : RS) (N B C : Env → Store → Prop) (T : D → Store → Prop) : Prop where
  h : match r with
    | .nx env st => N env st
    | .bk env st => B env st
    | .ct env st => C env st
    | .rt d st => T d st
    | _ => False
section
variable {α β : Type} {P : α → Store → Prop} {Q : β → Store → Prop} {N B C : Env → Store → Prop} {T : D → Store → Prop}
@[simp] theorem Gv_ok {a : α} {st : Store} : Gv (.ok a st) P = P a st := propext ⟨fun h => h.h, fun h => ⟨h⟩⟩
@[simp] theorem Gv_stuck : Gv (.stuck : R α) P = False := propext ⟨fun h => h.h, fun h => ⟨h⟩⟩
@[simp] theorem Gv_exc {c : Nat} {fs : List (Str × D)} {st : Store} : Gv (.exc c fs st : R α) P = False := propext ⟨fun h => h.h, fun h => ⟨h⟩⟩
theorem Gv_bind {r : R α} {f : α → Store → R β} : Gv (r.bind f) Q = Gv r fun a st => Gv (f a st) Q := by cases r <;> simp
theorem Gv_give {st : Store} {o : Option α} : Gv (giveS st o) P = ∃ a, o = some a ∧ P a st := by
  cases o with
  | none => simp [giveS]
  | some a => simp [giveS]
theorem Gv_nox {r : R α} : Gv r.nox P = Gv r P := by cases r <;> simp [R.nox]
theorem Gv_req {c : Prop} [Decidable c] {a : R α} : Gv (if c then a else .stuck) P = (c ∧ Gv a P) := by split <;> simp_all
theorem Gv.imp {r : R α} {P' : α → Store → Prop} (h : Gv r P) (i : ∀ a st, P a st → P' a st) : Gv r P' := by
  cases r with
  | ok a st => rw [Gv_ok] at h ⊢; exact i _ _ h
  | _ => exact h.h.elim
theorem Gv.eq {r : R α} {a : α} {st : Store} (h : r = .ok a st) (q : P a st) : Gv r P := by rw [h, Gv_ok]; exact q
theorem Gv.out {r : R α} (h : Gv r P) : ∃ a st, r = .ok a st ∧ P a st := by
  cases r with
  | ok a st => exact ⟨a, st, rfl, h.h⟩
  | _ => exact h.h.elim
theorem Gv_ite {c : Prop} [Decidable c] {a b : R α} : Gv (if c then a else b) P = if c then Gv a P else Gv b P := by split <;> rfl
@[simp] theorem GS_nx {env : Env} {st : Store} : GS (.nx env st) N B C T = N env st := propext ⟨fun h => h.h, fun h => ⟨h⟩⟩
@[simp] theorem GS_bk {env : Env} {st : Store} : GS (.bk env st) N B C T = B env st := propext ⟨fun h => h.h, fun h => ⟨h⟩⟩
@[simp] theorem GS_ct {env : Env} {st : Store} : GS (.ct env st) N B C T = C env st := propext ⟨fun h => h.h, fun h => ⟨h⟩⟩
@[simp] theorem GS_rt {d : D} {st : Store} : GS (.rt d st) N B C T = T d st := propext ⟨fun h => h.h, fun h => ⟨h⟩⟩
@[simp] theorem GS_stuck : GS .stuck N B C T = False := propext ⟨fun h => h.h, fun h => ⟨h⟩⟩
@[simp] theorem GS_exc {c : Nat} {fs : List (Str × D)} {env : Env} {st : Store} : GS (.exc c fs env st) N B C T = False := propext ⟨fun h => h.h, fun h => ⟨h⟩⟩
theorem GS_thn {r : R α} {env : Env} {f : α → Store → RS} : GS (R.thn env r f) N B C T = Gv r fun a st => GS (f a st) N B C T := by cases r <;> simp
theorem GS_seq {r : RS} {f : Env → Store → RS} : GS (r.thn f) N B C T = GS r (fun env st => GS (f env st) N B C T) B C T := by cases r <;> simp
theorem GS_turn {r : RS} {f : Env → Store → RS} : GS (r.turn f) N B C T = GS r (fun env st => GS (f env st) N B C T) N (fun env st => GS (f env st) N B C T) T := by cases r <;> simp
theorem GS_ite {c : Prop} [Decidable c] {a b : RS} : GS (if c then a else b) N B C T = if c then GS a N B C T else GS b N B C T := by split <;> rfl
theorem GS_req {c : Prop} [Decidable c] {a : RS} : GS (if c then a else .stuck) N B C T = (c ∧ GS a N B C T) := by split <;> simp_all
theorem GS.imp {r : RS} {N' B' C' : Env → Store → Prop} {T' : D → Store → Prop} (h : GS r N B C T) (hn : ∀ e s, N e s → N' e s) (hb : ∀ e s, B e s → B' e s) (hc : ∀ e s, C e s → C' e s) (ht : ∀ d s, T d s → T' d s) : GS r N' B' C' T' := by
  cases r with
  | nx => exact ⟨hn _ _ h.h⟩
  | bk => exact ⟨hb _ _ h.h⟩
  | ct => exact ⟨hc _ _ h.h⟩
  | rt => exact ⟨ht _ _ h.h⟩
  | _ => exact h.h.elim
end
theorem GS_ost {N B C : Env → Store → Prop} {T : D → Store → Prop} {o : Option Store} {env : Env} : GS (match o with
    | some st => .nx env st
    | none => .stuck) N B C T = ∃ st, o = some st ∧ N env st := by cases o <;> simp
theorem b_add {m : Bool} {st : Store} {i j : Int} : binO .Add m st (io i) (io j) = .ok (io (i + j)) st := rfl
theorem b_sub {m : Bool} {st : Store} {i j : Int} : binO .Sub m st (io i) (io j) = .ok (io (i - j)) st := rfl
theorem b_mul {m : Bool} {st : Store} {i j : Int} : binO .Mult m st (io i) (io j) = if mulOk i j = true then .ok (io (i * j)) st else .stuck := rfl
theorem b_div {m : Bool} {st : Store} {i j : Int} : binO .FloorDiv m st (io i) (io j) = if divOk j = true then .ok (io (i / j)) st else .stuck := rfl
theorem b_mod {m : Bool} {st : Store} {i j : Int} : binO .Mod m st (io i) (io j) = if 0 < j then .ok (io (i % j)) st else .stuck := rfl
theorem b_cat {m : Bool} {st : Store} {x y : Str} : binO .Add m st (so x) (so y) = if x.length + y.length ≤ sizeLine then .ok (so (x ++ y)) st else .stuck := rfl
theorem b_cats {m : Bool} {st : Store} {xs ys : List PyData} : binO .Add m st (.py (.tuple xs)) (.py (.tuple ys)) = if xs.length + ys.length ≤ sizeLine then .ok (.py (.tuple (xs ++ ys))) st else .stuck := rfl
theorem c_lt (st : Store) (i j : Int) : cmpO .Lt st (io i) (io j) = some (decide (i < j)) := rfl
theorem c_le (st : Store) (i j : Int) : cmpO .LtE st (io i) (io j) = some (decide (i ≤ j)) := rfl
theorem c_gt (st : Store) (i j : Int) : cmpO .Gt st (io i) (io j) = some (decide (j < i)) := rfl
theorem c_ge (st : Store) (i j : Int) : cmpO .GtE st (io i) (io j) = some (decide (j ≤ i)) := rfl
theorem t_bool (st : Store) (b : Bool) : truO st (bo b) = some b := rfl
theorem t_int (st : Store) (i : Int) : truO st (io i) = some (i != 0) := rfl
abbrev F3 : Env → Store → Prop := fun _ _ => False
/-- a def by its body -/
theorem run_gv {Φ : Nat → Fn} {cf : CF} {ds : List D} {st : Store} {P : D → Store → Prop} (hl : ds.length = cf.ar) (h : GS (exec Φ cf.body (start cf.sl ds) st) (fun _ st => P (.py .none) st) F3 F3 P) : Gv (run Φ cf ds st) P := by
  unfold run
  rw [if_pos hl]
  cases e : exec Φ cf.body (start cf.sl ds) st <;> rw [e] at h <;> first | exact ⟨h.h⟩ | exact h.h.elim
/-! ### walks -/
@[simp] theorem still_nil (st : Store) : Still [] st := fun _ h => nomatch h
theorem forL_ok {gs : List (Nat × List D)} {tg : Tg} {b : Env → Store → RS} {N B C : Env → Store → Prop} {T : D → Store → Prop} (xs : List D) (I : Nat → Env → Store → Prop) (hg : ∀ i env st, I i env st → Still gs st)
    (hs : ∀ i x env st, xs[i]? = some x → I i env st → ∃ env1, asg tg x env = some env1 ∧ GS (b env1 st) (I (i + 1)) N (I (i + 1)) T) (hd : ∀ env st, I xs.length env st → N env st) :
    ∀ (i : Nat) (env : Env) (st : Store), i ≤ xs.length → I i env st → GS (forL gs tg b (xs.drop i) env st) N B C T := by
  classical
  intro i env st hi h0
  by_cases hlt : i < xs.length
  · have hx : xs[i]? = some xs[i] := List.getElem?_eq_getElem hlt
    rw [List.drop_eq_getElem_cons hlt]
    obtain ⟨env1, e1, hb⟩ := hs i _ env st hx h0
    unfold forL
    rw [if_pos (hg _ _ _ h0), e1]
    simp only [GS_turn]
    refine hb.imp (fun e s q => ?_) (fun _ _ q => q) (fun e s q => ?_) (fun _ _ q => q)
    · exact forL_ok xs I hg hs hd (i + 1) e s hlt q
    · exact forL_ok xs I hg hs hd (i + 1) e s hlt q
  · have e : i = xs.length := by omega
    subst e
    rw [List.drop_length]
    unfold forL
    rw [if_pos (hg _ _ _ h0)]
    first | exact ⟨hd _ _ h0⟩ | exact hd _ _ h0
termination_by i => xs.length - i
theorem for_ok {gs : List (Nat × List D)} {tg : Tg} {b : Env → Store → RS} {N B C : Env → Store → Prop} {T : D → Store → Prop} {xs : List D} {env : Env} {st : Store} (I : Nat → Env → Store → Prop) (h0 : I 0 env st) (hg : ∀ i env st, I i env st → Still gs st)
    (hs : ∀ i x env st, xs[i]? = some x → I i env st → ∃ env1, asg tg x env = some env1 ∧ GS (b env1 st) (I (i + 1)) N (I (i + 1)) T) (hd : ∀ env st, I xs.length env st → N env st) : GS (forL gs tg b xs env st) N B C T := by
  have := forL_ok (B := B) (C := C) xs I hg hs hd 0 env st (Nat.zero_le _) h0
  simpa using this
theorem lcL_ok {α β : Type} {gs : List (Nat × List D)} {tg : Tg} {t : Env → Store → R Bool} {e : Env → Store → R α} {add : β → α → Option β} {env : Env} {P : β → Store → Prop} (xs : List D) (I : Nat → Store → β → Prop) (hg : ∀ i st acc, I i st acc → Still gs st)
    (hs : ∀ i x st acc, xs[i]? = some x → I i st acc → ∃ env1, asg tg x env = some env1 ∧ Gv (t env1 st) fun b st1 => if b = true then Gv (e env1 st1) fun y st2 => ∃ acc', add acc y = some acc' ∧ I (i + 1) st2 acc' else I (i + 1) st1 acc) (hd : ∀ st acc, I xs.length st acc → P acc st) :
    ∀ (i : Nat) (st : Store) (acc : β), i ≤ xs.length → I i st acc → Gv (lcL gs tg t e add env (xs.drop i) st acc) P := by
  classical
  intro i st acc hi h0
  by_cases hlt : i < xs.length
  · have hx : xs[i]? = some xs[i] := List.getElem?_eq_getElem hlt
    rw [List.drop_eq_getElem_cons hlt]
    obtain ⟨env1, e1, hb⟩ := hs i _ st acc hx h0
    unfold lcL
    rw [if_pos (hg _ _ _ h0), e1]
    simp only [Gv_bind]
    refine hb.imp fun b st1 q => ?_
    cases b with
    | true =>
      simp only [if_true] at q ⊢
      simp only [Gv_bind]
      refine q.imp fun y st2 q => ?_
      obtain ⟨acc', e2, q⟩ := q
      rw [e2]
      exact lcL_ok xs I hg hs hd (i + 1) st2 acc' hlt q
    | false =>
      simp only [Bool.false_eq_true, if_false] at q ⊢
      exact lcL_ok xs I hg hs hd (i + 1) st1 acc hlt q
  · have e : i = xs.length := by omega
    subst e
    rw [List.drop_length]
    unfold lcL
    rw [if_pos (hg _ _ _ h0)]
    first | exact ⟨hd _ _ h0⟩ | exact hd _ _ h0
termination_by i => xs.length - i
/-- a list comprehension without a test -/
theorem lc_ok {gs : List (Nat × List D)} {tg : Tg} {e : Env → Store → R D} {env : Env} {P : List D → Store → Prop} {xs : List D} {st : Store} {Φ : Nat → Fn} (I : Nat → Store → List D → Prop) (h0 : I 0 st []) (hz : xs.length ≤ sizeLine) (hl : ∀ i st acc, I i st acc → acc.length ≤ i)
    (hg : ∀ i st acc, I i st acc → Still gs st) (hs : ∀ i x st acc, xs[i]? = some x → I i st acc → ∃ env1, asg tg x env = some env1 ∧ Gv (e env1 st) fun y st2 => I (i + 1) st2 (acc ++ [y])) (hd : ∀ st acc, I xs.length st acc → P acc st) :
    Gv (lcL gs tg (tst Φ .yes) e addL env xs st []) P := by
  have := lcL_ok (gs := gs) (tg := tg) (t := tst Φ .yes) (e := e) (add := addL) (env := env) (P := P) xs I hg (fun i x st acc hx hI => ?_) hd 0 st [] (Nat.zero_le _) h0
  · simpa using this
  · obtain ⟨env1, e1, h1⟩ := hs i x st acc hx hI
    refine ⟨env1, e1, ?_⟩
    rw [tst]
    simp only [Gv_ok, if_true]
    refine h1.imp fun y st2 h2 => ⟨acc ++ [y], ?_, h2⟩
    unfold addL
    rw [if_pos]
    have := hl _ _ _ hI
    have := (List.getElem?_eq_some_iff.mp hx).1
    omega
/-- one that leaves the store as it is -/
theorem lc_pure {gs : List (Nat × List D)} {tg : Tg} {e : Env → Store → R D} {env : Env} {P : List D → Store → Prop} {xs : List D} {st : Store} {Φ : Nat → Fn} (f : D → D) (hz : xs.length ≤ sizeLine) (hg : Still gs st)
    (hs : ∀ x ∈ xs, ∃ env1, asg tg x env = some env1 ∧ e env1 st = .ok (f x) st) (hd : P (xs.map f) st) : Gv (lcL gs tg (tst Φ .yes) e addL env xs st []) P := by
  refine lc_ok (fun i st1 acc => st1 = st ∧ acc = (xs.take i).map f) ⟨rfl, rfl⟩ hz (fun i st1 acc h => ?_) (fun i st1 acc h => ?_) (fun i x st1 acc hx h => ?_) fun st1 acc h => ?_
  · obtain ⟨_, rfl⟩ := h
    rw [List.length_map, List.length_take]; omega
  · obtain ⟨rfl, rfl⟩ := h; exact hg
  · obtain ⟨rfl, rfl⟩ := h
    obtain ⟨env1, e1, e2⟩ := hs x (List.mem_of_getElem? hx)
    refine ⟨env1, e1, ?_⟩
    rw [e2]
    refine ⟨rfl, ?_⟩
    rw [List.take_add_one, hx]
    simp
  · obtain ⟨rfl, rfl⟩ := h
    rw [List.take_length]; exact hd
/-! ### calls -/
theorem sub_gv {md : Nat} {φ : Fn} {ds : List D} {st : Store} {P : D → Store → Prop} {ls : List Nat} {os : List SO} (h1 : locsOf ds = some ls) (h2 : ls.Nodup) (h3 : (pick st ls).bind (frzAll (fun _ => false) []) = some os)
    (h : Gv (φ (renum 0 ds) os) fun d st1 => match md with
      | 0 => ∃ p os1, frzD (from' ls.length) st1 8 d = some p ∧ frzAll (from' ls.length) st1 (st1.take ls.length) = some os1 ∧ P (.py p) (backIn st ls os1)
      | _ => ∃ j o os1, d = .loc j ∧ ls.length ≤ j ∧ (st1[j]?).bind (frzO (butOne ls.length j) st1) = some o ∧ frzAll (butOne ls.length j) st1 (st1.take ls.length) = some os1 ∧ P (.loc st.length) (backIn st ls os1 ++ [o])) : Gv (callSub md φ ds st) P := by
  unfold callSub
  rw [h1]
  simp only
  rw [if_pos h2, h3]
  simp only
  cases e : φ (renum 0 ds) os with
  | stuck => rw [e] at h; exact h.h.elim
  | exc => rw [e] at h; exact h.h.elim
  | ok d st1 =>
    rw [e] at h
    simp only [Gv_ok] at h
    simp only
    cases md with
    | zero =>
      obtain ⟨p, os1, e1, e2, h⟩ := h
      simp only [e1, e2]
      exact ⟨h⟩
    | succ md =>
      obtain ⟨j, o, os1, rfl, hj, e1, e2, h⟩ := h
      simp only [if_pos hj, e1, e2]
      exact ⟨h⟩
theorem locs_data : ∀ ps : List PyData, locsOf (ps.map .py) = some []
  | [] => rfl
  | _ :: ps => locs_data ps
theorem renum_data : ∀ (k : Nat) (ps : List PyData), renum k (ps.map .py) = ps.map .py
  | _, [] => rfl
  | k, p :: ps => by show D.py p :: renum k (ps.map .py) = _; rw [renum_data k ps]; rfl
/-- data alone, and data comes back -/
theorem call_data {φ : Fn} (ps : List PyData) {st : Store} {P : D → Store → Prop} (h : Gv (φ (ps.map .py) []) fun d _ => ∃ p, d = .py p ∧ P (.py p) st) : Gv (callM 0 φ (ps.map .py) st) P := by
  refine sub_gv (md := 0) (ls := []) (os := []) (locs_data ps) List.nodup_nil rfl ?_
  rw [renum_data]
  refine h.imp fun d st1 ⟨p, e, q⟩ => ⟨p, [], by rw [e, frzD_py], rfl, ?_⟩
  have : backIn st [] [] = st := by cases st <;> rfl
  rw [this]; exact q
/-- one list of data, then data -/
theorem call_one {φ : Fn} {n : Nat} {xs : List PyData} (ps : List PyData) {st : Store} {P : D → Store → Prop} (hn : st[n]? = some (.lst (xs.map .py)))
    (h : Gv (φ (.loc 0 :: ps.map .py) [.lst (xs.map .py)]) fun d st1 => ∃ (p : PyData) (ys : List PyData), d = .py p ∧ st1[0]? = some (.lst (ys.map .py)) ∧ P (.py p) (st.set n (.lst (ys.map .py)))) : Gv (callM 0 φ (.loc n :: ps.map .py) st) P := by
  refine sub_gv (md := 0) (ls := [n]) (os := [.lst (xs.map .py)]) ?_ (by simp) ?_ ?_
  · show (locsOf (ps.map .py)).map _ = _
    rw [locs_data]; rfl
  · simp only [pick, hn, Option.bind_some, Option.map_some, frzAll, frzA, frzO, frzL_map]
  · show Gv (φ (.loc 0 :: renum 1 (ps.map .py)) _) _
    rw [renum_data]
    refine h.imp fun d st1 ⟨p, ys, e1, e2, q⟩ => ⟨p, [.lst (ys.map .py)], by rw [e1, frzD_py], ?_, ?_⟩
    · cases st1 with
      | nil => cases e2
      | cons o st1 =>
        cases e2
        simp only [List.length_singleton, List.take_succ_cons, List.take_zero, frzAll, frzA, frzO, frzL_map, Option.bind_some, Option.map_some]
    · exact q
end WW

namespace WW
open PySem
theorem env_z (a : Option D) (l : Env) : (a :: l)[0]? = some a := rfl
theorem env_s (a : Option D) (l : Env) (i : Nat) : (a :: l)[i + 1]? = l[i]? := rfl
theorem set_z (a b : Option D) (l : Env) : List.set (a :: l) 0 b = b :: l := rfl
theorem set_s (a b : Option D) (l : Env) (i : Nat) : List.set (a :: l) (i + 1) b = a :: List.set l i b := rfl
theorem sto_z (a : SO) (l : Store) : (a :: l)[0]? = some a := rfl
theorem sto_s (a : SO) (l : Store) (i : Nat) : (a :: l)[i + 1]? = l[i]? := rfl
theorem dl_z (a : D) (l : List D) : (a :: l)[0]? = some a := rfl
theorem dl_s (a : D) (l : List D) (i : Nat) : (a :: l)[i + 1]? = l[i]? := rfl
theorem sizeBig {n : Nat} (h : n ≤ 16777216) : n ≤ sizeLine := by rw [sizeLine_eq]; exact h
theorem p_int {st : Store} {i : Int} : partO st (io i) = .ok (some i) st := rfl
theorem newL_t {xs : List D} {st : Store} : newL true xs st = .ok (.loc st.length) (st ++ [.lst xs]) := rfl
theorem newL_f {xs : List D} {st : Store} : newL false xs st = give st ((allPy xs).map fun ps => .py (.list ps)) := rfl
theorem mt_app {st : Store} {n : Nat} {xs : List D} {d : D} (h : st[n]? = some (.lst xs)) (hz : xs.length < sizeLine) : mtAppend st (.loc n) d = .ok (.py .none) (st.set n (.lst (xs ++ [d]))) := by
  simp only [mtAppend, h]; rw [if_pos hz]
theorem mt_ext {st : Store} {n : Nat} {xs ys : List D} {d : D} (h : st[n]? = some (.lst xs)) (hd : asM st d = some ys) (hz : xs.length + ys.length ≤ sizeLine) : mtExtend st (.loc n) d = .ok (.py .none) (st.set n (.lst (xs ++ ys))) := by
  simp only [mtExtend, h, hd]; rw [if_pos hz]
theorem slc_str {m : Bool} {st : Store} {x : Str} {lo hi : Option Int} (h : x.length ≤ sizeLine) : slcO m st (so x) lo hi = .ok (so (L2.cutS x lo hi)) st := by
  simp only [slcO]; rw [if_pos h]
theorem slc_tup {m : Bool} {st : Store} {xs : List PyData} {lo hi : Option Int} : slcO m st (.py (.tuple xs)) lo hi = .ok (.py (.tuple (cut xs lo hi))) st := rfl
theorem cat_ok {m : Bool} {st : Store} {x y : Str} (h : x.length + y.length ≤ 16777216) : binO .Add m st (so x) (so y) = .ok (so (x ++ y)) st := by
  rw [b_cat, if_pos (sizeBig h)]
theorem b_addl {m : Bool} {st : Store} {n : Nat} {xs : List D} {ps : List PyData} (h : st[n]? = some (.lst xs)) : binO .Add m st (.loc n) (.py (.list ps)) = if xs.length + (ps.map D.py).length ≤ sizeLine then newL m (xs ++ ps.map .py) st else .stuck := by
  simp only [binO, asM, h]
theorem pre_upper {st : Store} {x : Str} : mtPre .upper st (so x) = true := rfl
theorem pre_join {st : Store} {x : Str} : mtPre .join st (so x) = true := rfl
theorem pre_append {st : Store} {n : Nat} {xs : List D} (h : getS st n = some (.lst xs)) : mtPre .append st (.loc n) = true := by simp [mtPre, asL, h]
theorem pre_extend {st : Store} {n : Nat} {xs : List D} (h : getS st n = some (.lst xs)) : mtPre .extend st (.loc n) = true := by simp [mtPre, asL, h]
theorem sset_z (a b : SO) (l : Store) : List.set (a :: l) 0 b = b :: l := rfl
theorem sset_s (a b : SO) (l : Store) (i : Nat) : List.set (a :: l) (i + 1) b = a :: List.set l i b := rfl
theorem get_some (st : Store) (n : Nat) (o : SO) (h : st[n]? = some o) : getS st n = some (unl o) := by unfold getS; rw [h]; rfl
theorem log2_lt {n k : Nat} (h : n < 2 ^ k) (hk : 0 < k) : n.log2 < k := by
  by_cases hn : n = 0
  · subst hn; simpa using hk
  · exact (Nat.log2_lt hn).mpr h
theorem mulOk_of_lt {i j : Int} {a b : Nat} (hi : i.natAbs < 2 ^ a) (hj : j.natAbs < 2 ^ b) (ha : 0 < a) (hb : 0 < b) (h : a + b ≤ 1000000) : mulOk i j = true := by
  have h1 := log2_lt hi ha
  have h2 := log2_lt hj hb
  unfold mulOk
  exact decide_eq_true (by omega)
def potOk (a b : Int) : Prop := 0 ≤ a ∧ 0 ≤ b ∧ b < 2305843009213693951
def cTake : CF := ⟨2, 3, .seq (.ite (.tof (.cmp .Gt (.idx (.var 0) (.con (.int 0))) (.con (.int 0))))
  (.seq (.asg (.nam 2) (.bin .Mod false (.idx (.var 0) (.con (.int 0))) (.var 1)))
  (.seq (.set (.var 0) (.con (.int 0)) (.bin .FloorDiv false (.idx (.var 0) (.con (.int 0))) (.var 1)))
  (.seq (.ret (.var 2))
  (.skip))))
  (.skip))
  (.seq (.set (.var 0) (.con (.int 1)) (.bin .Mod false (.bin .Add false (.bin .Mult false (.idx (.var 0) (.con (.int 1))) (.con (.int 1181783497276652981))) (.con (.int 12345678910987))) (.con (.int 2305843009213693951))))
  (.seq (.ret (.bin .Mod false (.bin .FloorDiv false (.bin .Mod false (.bin .Mult false (.bin .FloorDiv false (.idx (.var 0) (.con (.int 1))) (.con (.int 65537))) (.bin .Add false (.bin .Mod false (.idx (.var 0) (.con (.int 1))) (.con (.int 65537))) (.con (.int 3)))) (.con (.int 2305843009213693921))) (.con (.int 97))) (.var 1)))
  (.skip)))⟩
theorem idx0 (a b : Int) (st : Store) : idxO (.lst [io a, io b] :: st) (.loc 0) (io 0) = some (io a) := rfl
theorem idx1 (a b : Int) (st : Store) : idxO (.lst [io a, io b] :: st) (.loc 0) (io 1) = some (io b) := rfl
theorem set0 (a b : Int) (d : D) (st : Store) : setO (.lst [io a, io b] :: st) (.loc 0) (io 0) d = some (.lst [d, io b] :: st) := rfl
theorem set1 (a b : Int) (d : D) (st : Store) : setO (.lst [io a, io b] :: st) (.loc 0) (io 1) d = some (.lst [io a, d] :: st) := rfl
theorem take_gv {Φ : Nat → Fn} {a b m : Int} (h : potOk a b) (hm : 0 < m) (hl : m.natAbs.log2 < 9000) {P : D → Store → Prop} (k : ∀ r a' b', 0 ≤ r → r < m → potOk a' b' → P (io r) [.lst [io a', io b']]) : Gv (run Φ cTake [.loc 0, io m] [.lst [io a, io b]]) P := by
  obtain ⟨h1, h2, h3⟩ := h
  refine run_gv rfl ?_
  unfold cTake
  have hd : divOk m = true := by unfold divOk; simp [hm, hl]
  simp only [idx0, idx1, set0, set1, exec, ev, evs, tst, srcs, GS_seq, GS_thn, GS_nx, GS_bk, GS_ct, GS_rt, Gv_bind, Gv_ok, Gv_give, Gv_nox, Gv_req, GS_req, R.bind_ok, R.thn_ok, RS.thn_nx, giveS_some, start, List.map_cons, List.map_nil, List.length_cons, List.length_nil, List.cons_append, List.nil_append, List.append_nil, List.replicate_succ, List.replicate_zero, Nat.reduceAdd, Nat.reduceSub, env_z, env_s, dl_z, dl_s, selO, set_z, set_s, asg, Option.some.injEq, exists_eq_left', bi1, bi0, isAbs, WW.wipe, setAll, if_true, if_false, Bool.false_eq_true, reduceIte, biO, mtO, pre_upper, pre_join, Option.map_some, Option.bind_some, exists_eq_left, and_true, true_and, c_lt, c_le, c_gt, c_ge, t_bool, t_int, b_add, b_sub, b_mul, b_div, b_mod, GS_ost, p_int, newL_t, newL_f, allPy_cons, allPy_nil, allPy_map, slc_tup, sset_z, sset_s, sto_z, sto_s, mkT, sizeBig, Nat.reduceLeDiff, Int.reduceLT, Int.reduceLE, decide_true, decide_false, ↓reduceIte, tyOk, subTy, List.all_cons, List.all_nil, List.any_cons, List.any_nil, beq_self_eq_true, Bool.true_or, Bool.or_false, Bool.false_or, Bool.and_true, Bool.true_and, Bool.or_true, String.reduceBEq, Bool.and_false, Bool.false_and]
  by_cases ha : 0 < a
  · simp only [ha, decide_true]
    simp only [idx0, idx1, set0, set1, hm, hd, exec, ev, evs, tst, srcs, GS_seq, GS_thn, GS_nx, GS_bk, GS_ct, GS_rt, Gv_bind, Gv_ok, Gv_give, Gv_nox, Gv_req, GS_req, R.bind_ok, R.thn_ok, RS.thn_nx, giveS_some, start, List.map_cons, List.map_nil, List.length_cons, List.length_nil, List.cons_append, List.nil_append, List.append_nil, List.replicate_succ, List.replicate_zero, Nat.reduceAdd, Nat.reduceSub, env_z, env_s, dl_z, dl_s, selO, set_z, set_s, asg, Option.some.injEq, exists_eq_left', bi1, bi0, isAbs, WW.wipe, setAll, if_true, if_false, Bool.false_eq_true, reduceIte, biO, mtO, pre_upper, pre_join, Option.map_some, Option.bind_some, exists_eq_left, and_true, true_and, c_lt, c_le, c_gt, c_ge, t_bool, t_int, b_add, b_sub, b_mul, b_div, b_mod, GS_ost, p_int, newL_t, newL_f, allPy_cons, allPy_nil, allPy_map, slc_tup, sset_z, sset_s, sto_z, sto_s, mkT, sizeBig, Nat.reduceLeDiff, Int.reduceLT, Int.reduceLE, decide_true, decide_false, ↓reduceIte, tyOk, subTy, List.all_cons, List.all_nil, List.any_cons, List.any_nil, beq_self_eq_true, Bool.true_or, Bool.or_false, Bool.false_or, Bool.and_true, Bool.true_and, Bool.or_true, String.reduceBEq, Bool.and_false, Bool.false_and]
    exact k _ _ _ (Int.emod_nonneg _ (by omega)) (Int.emod_lt_of_pos _ hm) ⟨Int.ediv_nonneg h1 (by omega), h2, h3⟩
  · simp only [ha, decide_false]
    have e1 : mulOk b 1181783497276652981 = true := mulOk_of_lt (a := 61) (b := 62) (by omega) (by decide) (by decide) (by decide) (by decide)
    generalize ht : (b * 1181783497276652981 + 12345678910987) % 2305843009213693951 = t
    have t1 : 0 ≤ t := by rw [← ht]; exact Int.emod_nonneg _ (by decide)
    have t2 : t < 2305843009213693951 := by rw [← ht]; exact Int.emod_lt_of_pos _ (by decide)
    have e2 : mulOk (t / 65537) (t % 65537 + 3) = true := mulOk_of_lt (a := 61) (b := 62) (by omega) (by omega) (by decide) (by decide) (by decide)
    have e3 : divOk 65537 = true := by decide +kernel
    have e4 : divOk 97 = true := by decide +kernel
    simp only [idx0, idx1, set0, set1, e1, ht, e2, e3, e4, hm, exec, ev, evs, tst, srcs, GS_seq, GS_thn, GS_nx, GS_bk, GS_ct, GS_rt, Gv_bind, Gv_ok, Gv_give, Gv_nox, Gv_req, GS_req, R.bind_ok, R.thn_ok, RS.thn_nx, giveS_some, start, List.map_cons, List.map_nil, List.length_cons, List.length_nil, List.cons_append, List.nil_append, List.append_nil, List.replicate_succ, List.replicate_zero, Nat.reduceAdd, Nat.reduceSub, env_z, env_s, dl_z, dl_s, selO, set_z, set_s, asg, Option.some.injEq, exists_eq_left', bi1, bi0, isAbs, WW.wipe, setAll, if_true, if_false, Bool.false_eq_true, reduceIte, biO, mtO, pre_upper, pre_join, Option.map_some, Option.bind_some, exists_eq_left, and_true, true_and, c_lt, c_le, c_gt, c_ge, t_bool, t_int, b_add, b_sub, b_mul, b_div, b_mod, GS_ost, p_int, newL_t, newL_f, allPy_cons, allPy_nil, allPy_map, slc_tup, sset_z, sset_s, sto_z, sto_s, mkT, sizeBig, Nat.reduceLeDiff, Int.reduceLT, Int.reduceLE, decide_true, decide_false, ↓reduceIte, tyOk, subTy, List.all_cons, List.all_nil, List.any_cons, List.any_nil, beq_self_eq_true, Bool.true_or, Bool.or_false, Bool.false_or, Bool.and_true, Bool.true_and, Bool.or_true, String.reduceBEq, Bool.and_false, Bool.false_and]
    exact k _ _ _ (Int.emod_nonneg _ (by omega)) (Int.emod_lt_of_pos _ hm) ⟨h1, t1, t2⟩
/-! ### subscripts -/
theorem idx_loc {st : Store} {n : Nat} {xs : List D} {i : Int} (h : getS st n = some (.lst xs)) : idxO st (.loc n) (io i) = L2.atI xs i := by
  simp only [idxO, isD, h, asLT, asT, asL, Option.bind_some]
theorem idx_lst {st : Store} {ps : List PyData} {i : Int} : idxO st (.py (.list ps)) (io i) = L2.atI (ps.map .py) i := rfl
theorem idx_tup {st : Store} {ps : List PyData} {i : Int} : idxO st (.py (.tuple ps)) (io i) = L2.atI (ps.map .py) i := rfl
theorem idx_str {st : Store} {x : Str} {i : Int} (h : x.length ≤ sizeLine) : idxO st (so x) (io i) = (L2.atI x.cps.toList i).map fun c => so ⟨#[c]⟩ := by
  simp only [idxO, isD]; rw [if_pos h]
theorem len_loc {st : Store} {n : Nat} {xs : List D} (h : getS st n = some (.lst xs)) : lenO st (.loc n) = some (xs.length : Int) := by simp only [lenO, h]
theorem len_lst {st : Store} {ps : List PyData} : lenO st (.py (.list ps)) = some (ps.length : Int) := by simp [lenO, asLT, asT, asL]
theorem len_tup {st : Store} {ps : List PyData} : lenO st (.py (.tuple ps)) = some (ps.length : Int) := by simp [lenO, asLT, asT]
theorem len_str {st : Store} {x : Str} (h : x.length ≤ sizeLine) : lenO st (so x) = some (x.length : Int) := by simp only [lenO]; rw [if_pos h]
/-! ### the draws of a cell -/
def great : Str := "1" ++ Txt.mul "0" 900
theorem fold_app (c : Nat) : ∀ (n : Nat) (acc : Array Nat), ((List.replicate n #[c]).foldl (· ++ ·) acc).toList = acc.toList ++ List.replicate n c
  | 0, acc => by simp
  | n + 1, acc => by
    rw [List.replicate_succ, List.foldl_cons, fold_app c n, Array.toList_append, List.replicate_succ, List.append_assoc]; rfl
theorem mul_cps {c : Nat} {x : Str} (hx : x = ⟨#[c]⟩) {n : Nat} (hn : 2 ≤ n) : (Txt.mul x (n : Int)).cps.toList = List.replicate n c := by
  subst hx
  unfold Txt.mul
  rw [if_neg (by omega), if_neg (by
    rw [Bool.or_eq_true, beq_iff_eq, beq_iff_eq]
    rintro (h | h)
    · omega
    · exact absurd (show 1 = 0 from h) (by decide))]
  show ((List.replicate (n : Int).toNat #[c]).foldl (· ++ ·) #[]).toList = _
  rw [fold_app, Int.toNat_natCast]; rfl
theorem great_cps : great.cps.toList = 49 :: List.replicate 900 48 := by
  show (("1" : Str).cps ++ (Txt.mul "0" ((900 : Nat) : Int)).cps).toList = _
  rw [Array.toList_append, mul_cps (c := 48) (by decide +kernel) (by decide)]
  have : ("1" : Str).cps.toList = [49] := by decide +kernel
  rw [this]; rfl
theorem fold_dig : ∀ (n acc : Nat), (List.replicate n 48).foldl (fun acc c => acc * 10 + (c - 48)) acc = acc * 10 ^ n
  | 0, acc => by simp
  | n + 1, acc => by
    rw [List.replicate_succ, List.foldl_cons, fold_dig n]
    rw [Nat.pow_succ, Nat.add_zero, Nat.mul_assoc, Nat.mul_comm 10]
theorem great_len : great.length = 901 := by
  show great.cps.size = 901
  rw [← Array.length_toList, great_cps, List.length_cons, List.length_replicate]
def tenB : Int := (((10 : Nat) ^ 900 : Nat) : Int)
theorem great_int : intText? great = some tenB := by
  rw [intText_digits]
  · rw [great_cps]
    unfold NumText.digitsVal
    rw [List.foldl_cons, fold_dig]
    have e : (0 * 10 + (49 - 48)) * 10 ^ 900 = 10 ^ 900 := by rw [show 0 * 10 + (49 - 48) = 1 from rfl, Nat.one_mul]
    rw [e]; rfl
  · rw [great_cps]
    intro c hc
    rcases List.mem_cons.mp hc with rfl | hc
    · decide
    · rw [(List.mem_replicate.mp hc).2]; decide
  · rw [great_cps]; exact List.cons_ne_nil _ _
  · rw [great_len]; decide
theorem tenB_pos : 0 < tenB := by decide +kernel
def cGreat : CE := .bi .int false (.cons (.bin .Add false (.con (.str "1")) (.bin .Mult false (.con (.str "0")) (.con (.int 900)))) (.nil))
def cTen : CE := .bin .Pow false (.con (.int 10)) (.con (.int 18))
def cPotT : CS := .seq (.asg (.nam 3) (.bin .Mult false (.bin .Mod false (.bi .abs false (.cons (.var 2) (.nil))) cGreat) (.bi .int false (.cons (.cmp .GtE (.bi .abs false (.cons (.var 2) (.nil))) cTen) (.nil)))))
  (.seq (.ret (.lst true (.cons (.var 3) (.cons (.bin .Mod false (.bin .Mult false (.bin .Add false (.bin .Add false (.bin .Mod false (.var 2) (.con (.int 2305843009213693951))) (.bin .Mult false (.bin .Mult false (.con (.int 7919)) (.var 1)) (.var 1))) (.con (.int 11))) (.con (.int 48271))) (.con (.int 2305843009213693951))) (.nil)))))
  (.skip))
def cPot : CF := ⟨2, 4, .seq (.asg (.nam 2) (.bin .Add false (.bin .Mult false (.con (.int 3)) (.var 1)) (.bi .len false (.cons (.var 0) (.nil)))))
  (.seq (.ite (.tof (.cmp .Lt (.var 1) (.bi .len false (.cons (.var 0) (.nil)))))
  (.seq (.asg (.nam 2) (.idx (.var 0) (.var 1)))
  (.skip))
  (.skip))
  cPotT)⟩
theorem getS_lck (o : SO) (st : Store) : getS (.lck o :: st) 0 = some o := rfl
theorem zero_mul_b (st : Store) : binO .Mult false st (so "0") (io 900) = .ok (so (Txt.mul "0" 900)) st := by
  simp only [binO]; rw [if_pos (by decide +kernel)]
theorem one_add_b (st : Store) : binO .Add false st (so "1") (so (Txt.mul "0" 900)) = .ok (so great) st := by
  have h : ("1" : Str).length + (Txt.mul "0" 900).length ≤ sizeLine := by
    have e1 : ("1" : Str).length = 1 := by decide +kernel
    have e2 : (Txt.mul "0" ((900 : Nat) : Int)).length = 900 := by
      show (Txt.mul "0" ((900 : Nat) : Int)).cps.size = 900
      rw [← Array.length_toList, mul_cps (c := 48) (by decide +kernel) (by decide), List.length_replicate]
    have e3 : (Txt.mul "0" 900).length = 900 := e2
    rw [e1, e3, sizeLine_eq]; decide
  simp only [binO]; rw [if_pos h]; rfl
theorem great_bi (st : Store) : biInt st (so great) = .ok (io tenB) st := by
  simp only [biInt]
  rw [if_pos (by rw [great_len, sizeLine_eq]; decide), great_int]; rfl
structure GreatOk (n : Int) : Prop where
  val : ∀ Φ env st, ev Φ cGreat env st = .ok (io n) st
  pos : 0 < n
  log : n.natAbs.log2 < 3000
theorem tenB_log : tenB.natAbs.log2 < 3000 := by decide +kernel
theorem gen_ev {x y z g : Str} {j n : Int} (h1 : ∀ st, binO .Mult false st (so x) (io j) = .ok (so z) st) (h2 : ∀ st, binO .Add false st (so y) (so z) = .ok (so g) st) (h3 : ∀ st, biInt st (so g) = .ok (io n) st) (Φ : Nat → Fn) (env : Env) (st : Store) :
    ev Φ (.bi .int false (.cons (.bin .Add false (.con (.str y)) (.bin .Mult false (.con (.str x)) (.con (.int j)))) (.nil))) env st = .ok (io n) st := by
  simp only [ev, evs, R.bind_ok, h1, h2, biO, bi1, h3]
theorem great_ev (Φ : Nat → Fn) (env : Env) (st : Store) : ev Φ cGreat env st = .ok (io tenB) st := gen_ev zero_mul_b one_add_b great_bi Φ env st
theorem great_ex : ∃ n : Int, GreatOk n := ⟨tenB, great_ev, tenB_pos, tenB_log⟩
theorem ltO_int (st : Store) (i j : Int) : ltO st (io i) (io j) = some (decide (i < j)) := rfl
theorem ten18 (st : Store) : binO .Pow false st (io 10) (io 18) = .ok (io 1000000000000000000) st := by
  simp only [binO]; rw [if_pos (by decide +kernel), show (10 : Int) ^ (18 : Int).toNat = 1000000000000000000 by decide +kernel]
theorem ten_ev (Φ : Nat → Fn) (env : Env) (st : Store) : ev Φ cTen env st = .ok (io 1000000000000000000) st := by
  unfold cTen
  simp only [ev, R.bind_ok, ten18]
theorem pot_tail {Φ : Nat → Fn} {ns : List Int} {k c : Int} (h0 : 0 ≤ k) (hk : k < 1000000) (e3 : Option D) {P : D → Store → Prop} (q : ∀ a b, potOk a b → P (.loc 1) [.lck (.lst (ioS ns)), .lst [io a, io b]]) :
    GS (exec Φ cPotT [some (.loc 0), some (io k), some (io c), e3] [.lck (.lst (ioS ns))]) (fun _ st => P (.py .none) st) F3 F3 P := by
  obtain ⟨n, hg⟩ := great_ex
  have g1 := hg.val; have g3 := hg.pos; have g4 := hg.log
  unfold cPotT
  simp only [biAbs, g1, ten_ev, biInt, g3, exec, ev, evs, tst, srcs, GS_seq, GS_thn, GS_nx, GS_bk, GS_ct, GS_rt, Gv_bind, Gv_ok, Gv_give, Gv_nox, Gv_req, GS_req, R.bind_ok, R.thn_ok, RS.thn_nx, giveS_some, start, List.map_cons, List.map_nil, List.length_cons, List.length_nil, List.cons_append, List.nil_append, List.append_nil, List.replicate_succ, List.replicate_zero, Nat.reduceAdd, Nat.reduceSub, env_z, env_s, dl_z, dl_s, selO, set_z, set_s, asg, Option.some.injEq, exists_eq_left', bi1, bi0, isAbs, WW.wipe, setAll, if_true, if_false, Bool.false_eq_true, reduceIte, biO, mtO, pre_upper, pre_join, Option.map_some, Option.bind_some, exists_eq_left, and_true, true_and, c_lt, c_le, c_gt, c_ge, t_bool, t_int, b_add, b_sub, b_mul, b_div, b_mod, GS_ost, p_int, newL_t, newL_f, allPy_cons, allPy_nil, allPy_map, slc_tup, sset_z, sset_s, sto_z, sto_s, mkT, sizeBig, Nat.reduceLeDiff, Int.reduceLT, Int.reduceLE, decide_true, decide_false, ↓reduceIte, tyOk, subTy, List.all_cons, List.all_nil, List.any_cons, List.any_nil, beq_self_eq_true, Bool.true_or, Bool.or_false, Bool.false_or, Bool.and_true, Bool.true_and, Bool.or_true, String.reduceBEq, Bool.and_false, Bool.false_and]
  generalize hA : (if c < 0 then -c else c) = A
  have hA0 : 0 ≤ A := by rw [← hA]; split <;> omega
  have m1 : mulOk 7919 k = true := mulOk_of_lt (a := 13) (b := 20) (by decide) (by omega) (by decide) (by decide) (by decide)
  have m2 : mulOk (7919 * k) k = true := mulOk_of_lt (a := 33) (b := 20) (by omega) (by omega) (by decide) (by decide) (by decide)
  have m3 : mulOk (c % 2305843009213693951 + 7919 * k * k + 11) 48271 = true := by
    have h1 : 0 ≤ c % 2305843009213693951 := Int.emod_nonneg _ (by decide)
    have h2 : c % 2305843009213693951 < 2305843009213693951 := Int.emod_lt_of_pos _ (by decide)
    have h3 : 0 ≤ 7919 * k * k := Int.mul_nonneg (by omega) h0
    have h4 : 7919 * k * k ≤ 7919 * 1000000 * 1000000 := Int.mul_le_mul (by omega) (by omega) h0 (by decide)
    exact mulOk_of_lt (a := 62) (b := 17) (by omega) (by decide) (by decide) (by decide) (by decide)
  have hsz : 2 ≤ sizeLine := by rw [sizeLine_eq]; decide
  have m4 : ∀ t : Bool, mulOk (A % n) (if t = true then 1 else 0) = true := by
    intro t
    have h1 : 0 ≤ A % n := Int.emod_nonneg _ (by omega)
    have h2 : A % n < n := Int.emod_lt_of_pos _ g3
    have h3 : (A % n).natAbs.log2 ≤ n.natAbs.log2 := by
      by_cases z : (A % n).natAbs = 0
      · rw [z]; exact Nat.zero_le _
      · have h4 : (A % n).natAbs < 2 ^ (n.natAbs.log2 + 1) := Nat.lt_of_lt_of_le (by omega) (Nat.le_of_lt (Nat.lt_log2_self))
        have := (Nat.log2_lt z).mpr h4
        omega
    have h5 : ((if t = true then (1 : Int) else 0)).natAbs.log2 < 1 := by cases t <;> decide
    unfold mulOk
    exact decide_eq_true (by omega)
  simp only [m1, m2, m3, m4, hsz, newL, exec, ev, evs, tst, srcs, GS_seq, GS_thn, GS_nx, GS_bk, GS_ct, GS_rt, Gv_bind, Gv_ok, Gv_give, Gv_nox, Gv_req, GS_req, R.bind_ok, R.thn_ok, RS.thn_nx, giveS_some, start, List.map_cons, List.map_nil, List.length_cons, List.length_nil, List.cons_append, List.nil_append, List.append_nil, List.replicate_succ, List.replicate_zero, Nat.reduceAdd, Nat.reduceSub, env_z, env_s, dl_z, dl_s, selO, set_z, set_s, asg, Option.some.injEq, exists_eq_left', bi1, bi0, isAbs, WW.wipe, setAll, if_true, if_false, Bool.false_eq_true, reduceIte, biO, mtO, pre_upper, pre_join, Option.map_some, Option.bind_some, exists_eq_left, and_true, true_and, c_lt, c_le, c_gt, c_ge, t_bool, t_int, b_add, b_sub, b_mul, b_div, b_mod, GS_ost, p_int, newL_t, newL_f, allPy_cons, allPy_nil, allPy_map, slc_tup, sset_z, sset_s, sto_z, sto_s, mkT, sizeBig, Nat.reduceLeDiff, Int.reduceLT, Int.reduceLE, decide_true, decide_false, ↓reduceIte, tyOk, subTy, List.all_cons, List.all_nil, List.any_cons, List.any_nil, beq_self_eq_true, Bool.true_or, Bool.or_false, Bool.false_or, Bool.and_true, Bool.true_and, Bool.or_true, String.reduceBEq, Bool.and_false, Bool.false_and]
  refine q _ _ ⟨Int.mul_nonneg (Int.emod_nonneg _ (by omega)) (by split <;> decide), Int.emod_nonneg _ (by decide), Int.emod_lt_of_pos _ (by decide)⟩
theorem pot_gv {Φ : Nat → Fn} {ns : List Int} {k : Int} (h0 : 0 ≤ k) (hk : k < 1000000) {P : D → Store → Prop} (q : ∀ a b, potOk a b → P (.loc 1) [.lck (.lst (ioS ns)), .lst [io a, io b]]) : Gv (run Φ cPot [.loc 0, io k] [.lck (.lst (ioS ns))]) P := by
  refine run_gv rfl ?_
  unfold cPot
  have e1 : ∀ st : Store, lenO (.lck (.lst (ioS ns)) :: st) (.loc 0) = some (ns.length : Int) := fun st => by rw [len_loc (getS_lck _ st)]; simp [ioS]
  have m1 : mulOk 3 k = true := mulOk_of_lt (a := 2) (b := 20) (by decide) (by omega) (by decide) (by decide) (by decide)
  simp only [e1, m1, exec, ev, evs, tst, srcs, GS_seq, GS_thn, GS_nx, GS_bk, GS_ct, GS_rt, Gv_bind, Gv_ok, Gv_give, Gv_nox, Gv_req, GS_req, R.bind_ok, R.thn_ok, RS.thn_nx, giveS_some, start, List.map_cons, List.map_nil, List.length_cons, List.length_nil, List.cons_append, List.nil_append, List.append_nil, List.replicate_succ, List.replicate_zero, Nat.reduceAdd, Nat.reduceSub, env_z, env_s, dl_z, dl_s, selO, set_z, set_s, asg, Option.some.injEq, exists_eq_left', bi1, bi0, isAbs, WW.wipe, setAll, if_true, if_false, Bool.false_eq_true, reduceIte, biO, mtO, pre_upper, pre_join, Option.map_some, Option.bind_some, exists_eq_left, and_true, true_and, c_lt, c_le, c_gt, c_ge, t_bool, t_int, b_add, b_sub, b_mul, b_div, b_mod, GS_ost, p_int, newL_t, newL_f, allPy_cons, allPy_nil, allPy_map, slc_tup, sset_z, sset_s, sto_z, sto_s, mkT, sizeBig, Nat.reduceLeDiff, Int.reduceLT, Int.reduceLE, decide_true, decide_false, ↓reduceIte, tyOk, subTy, List.all_cons, List.all_nil, List.any_cons, List.any_nil, beq_self_eq_true, Bool.true_or, Bool.or_false, Bool.false_or, Bool.and_true, Bool.true_and, Bool.or_true, String.reduceBEq, Bool.and_false, Bool.false_and]
  by_cases hlt : k < (ns.length : Int)
  · obtain ⟨j, rfl⟩ : ∃ j : Nat, k = (j : Int) := ⟨k.toNat, by omega⟩
    have hn : j < ns.length := by omega
    have e2 : ∀ st : Store, idxO (.lck (.lst (ioS ns)) :: st) (.loc 0) (io j) = some (io ns[j]) := fun st => by
      rw [idx_loc (getS_lck _ st), L2.atI_nat (j := j) (v := io ns[j])]
      unfold ioS; rw [List.getElem?_map, List.getElem?_eq_getElem hn]; rfl
    simp only [hlt, decide_true]
    simp only [e1, m1, e2, exec, ev, evs, tst, srcs, GS_seq, GS_thn, GS_nx, GS_bk, GS_ct, GS_rt, Gv_bind, Gv_ok, Gv_give, Gv_nox, Gv_req, GS_req, R.bind_ok, R.thn_ok, RS.thn_nx, giveS_some, start, List.map_cons, List.map_nil, List.length_cons, List.length_nil, List.cons_append, List.nil_append, List.append_nil, List.replicate_succ, List.replicate_zero, Nat.reduceAdd, Nat.reduceSub, env_z, env_s, dl_z, dl_s, selO, set_z, set_s, asg, Option.some.injEq, exists_eq_left', bi1, bi0, isAbs, WW.wipe, setAll, if_true, if_false, Bool.false_eq_true, reduceIte, biO, mtO, pre_upper, pre_join, Option.map_some, Option.bind_some, exists_eq_left, and_true, true_and, c_lt, c_le, c_gt, c_ge, t_bool, t_int, b_add, b_sub, b_mul, b_div, b_mod, GS_ost, p_int, newL_t, newL_f, allPy_cons, allPy_nil, allPy_map, slc_tup, sset_z, sset_s, sto_z, sto_s, mkT, sizeBig, Nat.reduceLeDiff, Int.reduceLT, Int.reduceLE, decide_true, decide_false, ↓reduceIte, tyOk, subTy, List.all_cons, List.all_nil, List.any_cons, List.any_nil, beq_self_eq_true, Bool.true_or, Bool.or_false, Bool.false_or, Bool.and_true, Bool.true_and, Bool.or_true, String.reduceBEq, Bool.and_false, Bool.false_and]
    exact pot_tail h0 hk _ q
  · simp only [hlt, decide_false]
    simp only [exec, ev, evs, tst, srcs, GS_seq, GS_thn, GS_nx, GS_bk, GS_ct, GS_rt, Gv_bind, Gv_ok, Gv_give, Gv_nox, Gv_req, GS_req, R.bind_ok, R.thn_ok, RS.thn_nx, giveS_some, start, List.map_cons, List.map_nil, List.length_cons, List.length_nil, List.cons_append, List.nil_append, List.append_nil, List.replicate_succ, List.replicate_zero, Nat.reduceAdd, Nat.reduceSub, env_z, env_s, dl_z, dl_s, selO, set_z, set_s, asg, Option.some.injEq, exists_eq_left', bi1, bi0, isAbs, WW.wipe, setAll, if_true, if_false, Bool.false_eq_true, reduceIte, biO, mtO, pre_upper, pre_join, Option.map_some, Option.bind_some, exists_eq_left, and_true, true_and, c_lt, c_le, c_gt, c_ge, t_bool, t_int, b_add, b_sub, b_mul, b_div, b_mod, GS_ost, p_int, newL_t, newL_f, allPy_cons, allPy_nil, allPy_map, slc_tup, sset_z, sset_s, sto_z, sto_s, mkT, sizeBig, Nat.reduceLeDiff, Int.reduceLT, Int.reduceLE, decide_true, decide_false, ↓reduceIte, tyOk, subTy, List.all_cons, List.all_nil, List.any_cons, List.any_nil, beq_self_eq_true, Bool.true_or, Bool.or_false, Bool.false_or, Bool.and_true, Bool.true_and, Bool.or_true, String.reduceBEq, Bool.and_false, Bool.false_and]
    exact pot_tail h0 hk _ q
end WW

namespace WW
open PySem
theorem take_call {Φ : Nat → Fn} {n : Nat} {a b m : Int} {st : Store} {P : D → Store → Prop} (hn : st[n]? = some (.lst [io a, io b])) (h : potOk a b) (hm : 0 < m) (hl : m.natAbs.log2 < 9000)
    (k : ∀ r a' b', 0 ≤ r → r < m → potOk a' b' → P (io r) (st.set n (.lst [io a', io b']))) : Gv (callM 0 (run Φ cTake) [.loc n, io m] st) P := by
  refine call_one (xs := [.int a, .int b]) [.int m] hn ?_
  exact take_gv h hm hl fun r a' b' h1 h2 h3 => ⟨_, [.int a', .int b'], rfl, rfl, k r a' b' h1 h2 h3⟩
def cOf (t : Nat) : CF := ⟨2, 2, .seq (.ret (.idx (.var 1) (.call 0 t (.cons (.var 0) (.cons (.bi .len false (.cons (.var 1) (.nil))) (.nil))))))
  (.skip)⟩
/-- what may be drawn of -/
structure Drawn (d : D) (Q : PyData → Prop) (st0 : Store → Prop) where
  L : Int
  pos : 0 < L
  log : L.natAbs.log2 < 9000
  len : ∀ st, st0 st → lenO st d = some L
  at' : ∀ r, 0 ≤ r → r < L → ∃ x, Q x ∧ ∀ st, st0 st → idxO st d (io r) = some (.py x)
theorem of_gv {Φ Φ' : Nat → Fn} {t : Nat} {a b : Int} {d : D} {rest : Store} {P : D → Store → Prop} {Q : PyData → Prop} (ht : Φ t = run Φ' cTake) (h : potOk a b) (W : Drawn d Q fun st => ∃ o, st = o :: rest)
    (k : ∀ x a' b', Q x → potOk a' b' → P (.py x) (.lst [io a', io b'] :: rest)) : Gv (run Φ (cOf t) [.loc 0, d] (.lst [io a, io b] :: rest)) P := by
  refine run_gv rfl ?_
  unfold cOf
  simp only [W.len _ ⟨_, rfl⟩, ht, exec, ev, evs, tst, srcs, GS_seq, GS_thn, GS_nx, GS_bk, GS_ct, GS_rt, Gv_bind, Gv_ok, Gv_give, Gv_nox, Gv_req, GS_req, R.bind_ok, R.thn_ok, RS.thn_nx, giveS_some, start, List.map_cons, List.map_nil, List.length_cons, List.length_nil, List.cons_append, List.nil_append, List.append_nil, List.replicate_succ, List.replicate_zero, Nat.reduceAdd, Nat.reduceSub, env_z, env_s, dl_z, dl_s, selO, set_z, set_s, asg, Option.some.injEq, exists_eq_left', bi1, bi0, isAbs, WW.wipe, setAll, if_true, if_false, Bool.false_eq_true, reduceIte, biO, mtO, pre_upper, pre_join, Option.map_some, Option.bind_some, exists_eq_left, and_true, true_and, c_lt, c_le, c_gt, c_ge, t_bool, t_int, b_add, b_sub, b_mul, b_div, b_mod, GS_ost, p_int, newL_t, newL_f, allPy_cons, allPy_nil, allPy_map, slc_tup, sset_z, sset_s, sto_z, sto_s, mkT, sizeBig, Nat.reduceLeDiff, Int.reduceLT, Int.reduceLE, decide_true, decide_false, ↓reduceIte, tyOk, subTy, List.all_cons, List.all_nil, List.any_cons, List.any_nil, beq_self_eq_true, Bool.true_or, Bool.or_false, Bool.false_or, Bool.and_true, Bool.true_and, Bool.or_true, String.reduceBEq, Bool.and_false, Bool.false_and]
  refine take_call rfl h W.pos W.log fun r a' b' h1 h2 h3 => ?_
  obtain ⟨x, hx, e⟩ := W.at' r h1 h2
  show ∃ a_1, _ ∧ _
  exact ⟨.py x, e _ ⟨_, rfl⟩, k x a' b' hx h3⟩
theorem of_call {Φ Φ' : Nat → Fn} {t n : Nat} {a b : Int} {d : PyData} {st : Store} {P : D → Store → Prop} {Q : PyData → Prop} (ht : Φ t = run Φ' cTake) (hn : st[n]? = some (.lst [io a, io b])) (h : potOk a b) (W : Drawn (.py d) Q fun st => ∃ o, st = [o])
    (k : ∀ x a' b', Q x → potOk a' b' → P (.py x) (st.set n (.lst [io a', io b']))) : Gv (callM 0 (run Φ (cOf t)) [.loc n, .py d] st) P := by
  refine call_one (xs := [.int a, .int b]) [d] hn ?_
  exact of_gv ht h W fun x a' b' h1 h2 => ⟨_, [.int a', .int b'], rfl, rfl, k x a' b' h1 h2⟩
theorem set_same {st : Store} {m : Nat} {o : SO} (h : st[m]? = some o) : st.set m o = st := by
  apply List.ext_getElem?
  intro i
  by_cases hi : m = i
  · subst hi
    rw [List.getElem?_set_self (List.getElem?_eq_some_iff.mp h).1, h]
  · rw [List.getElem?_set_ne hi]
theorem of_call2 {Φ Φ' : Nat → Fn} {t n m : Nat} {a b : Int} {xs : List PyData} {st : Store} {P : D → Store → Prop} {Q : PyData → Prop} (ht : Φ t = run Φ' cTake) (hn : st[n]? = some (.lst [io a, io b])) (hm : st[m]? = some (.lst (xs.map .py))) (hne : n ≠ m) (h : potOk a b)
    (W : Drawn (.loc 1) Q fun st => ∃ o, st = [o, .lst (xs.map .py)])
    (k : ∀ x a' b', Q x → potOk a' b' → P (.py x) (st.set n (.lst [io a', io b']))) : Gv (callM 0 (run Φ (cOf t)) [.loc n, .loc m] st) P := by
  refine sub_gv (md := 0) (ds := [.loc n, .loc m]) (ls := [n, m]) (os := [.lst [io a, io b], .lst (xs.map .py)]) rfl (by simp [hne]) ?_ ?_
  · have e : toPyL (frzD (fun _ => false) [] 7) [io a, io b] = some [.int a, .int b] := rfl
    simp only [pick, hn, hm, Option.bind_some, Option.map_some, frzAll, frzA, frzO, frzL_map, e]; rfl
  · refine of_gv (rest := [.lst (xs.map .py)]) ht h W fun x a' b' h1 h2 => ?_
    refine ⟨x, [.lst [io a', io b'], .lst (xs.map .py)], frzD_py _ _ _ _, ?_, ?_⟩
    · have e : ∀ st, toPyL (frzD (from' [n, m].length) st 7) [io a', io b'] = some [.int a', .int b'] := fun _ => rfl
      simp only [List.length_cons, List.length_nil, Nat.reduceAdd, List.take_succ_cons, List.take_zero, frzAll, frzA, frzO, frzL_map, Option.bind_some, Option.map_some] at e ⊢
      rw [e]; rfl
    · have : backIn st [n, m] [.lst [io a', io b'], .lst (xs.map .py)] = st.set n (.lst [io a', io b']) := by
        show (st.set n _).set m _ = _
        exact set_same (by rw [List.getElem?_set_ne hne]; exact hm)
      rw [this]; exact k x a' b' h1 h2
theorem atI_of {xs : List D} {r : Int} (h0 : 0 ≤ r) (h1 : r < xs.length) : ∃ x ∈ xs, L2.atI xs r = some x := by
  obtain ⟨j, rfl⟩ : ∃ j : Nat, r = (j : Int) := ⟨r.toNat, by omega⟩
  have hj : j < xs.length := by omega
  exact ⟨xs[j], List.getElem_mem hj, L2.atI_nat (List.getElem?_eq_getElem hj)⟩
theorem small_log {n : Nat} (h : n ≤ sizeLine) : ((n : Int)).natAbs.log2 < 9000 := by
  rw [Int.natAbs_natCast]
  have h2 : n.log2 < 25 := log2_lt (Nat.lt_of_le_of_lt h (by rw [sizeLine_eq]; decide)) (by decide)
  omega
/-- a list of data -/
def drawnL {ps : List PyData} {Q : PyData → Prop} {s : Store → Prop} (h : 0 < ps.length) (hz : ps.length ≤ sizeLine) (hQ : ∀ p ∈ ps, Q p) : Drawn (.py (.list ps)) Q s where
  L := ps.length
  pos := by omega
  log := small_log hz
  len := fun st _ => len_lst
  at' := fun r h0 h1 => by
    obtain ⟨x, hx, e⟩ := atI_of (xs := ps.map .py) h0 (by rw [List.length_map]; exact h1)
    obtain ⟨p, hp, rfl⟩ := List.mem_map.mp hx
    exact ⟨p, hQ p hp, fun st _ => by rw [idx_lst]; exact e⟩
def drawnM {ps : List PyData} {Q : PyData → Prop} (h : 0 < ps.length) (hz : ps.length ≤ sizeLine) (hQ : ∀ p ∈ ps, Q p) : Drawn (.loc 1) Q (fun st => ∃ o, st = [o, .lst (ps.map .py)]) where
  L := ps.length
  pos := by omega
  log := small_log hz
  len := fun st ⟨o, e⟩ => by subst e; rw [len_loc (n := 1) (xs := ps.map .py) rfl, List.length_map]
  at' := fun r h0 h1 => by
    obtain ⟨x, hx, e⟩ := atI_of (xs := ps.map .py) h0 (by rw [List.length_map]; exact h1)
    obtain ⟨p, hp, rfl⟩ := List.mem_map.mp hx
    exact ⟨p, hQ p hp, fun st ⟨o, z⟩ => by subst z; rw [idx_loc (n := 1) (xs := ps.map .py) rfl]; exact e⟩
/-- a text's signs -/
def drawnS {x : Str} {Q : PyData → Prop} {s : Store → Prop} (h : 0 < x.length) (hz : x.length ≤ sizeLine) (hQ : ∀ c ∈ x.cps.toList, Q (.str ⟨#[c]⟩)) : Drawn (so x) Q s where
  L := x.length
  pos := by omega
  log := small_log hz
  len := fun st _ => len_str hz
  at' := fun r h0 h1 => by
    obtain ⟨j, rfl⟩ : ∃ j : Nat, r = (j : Int) := ⟨r.toNat, by omega⟩
    have hj : j < x.cps.toList.length := by rw [Array.length_toList]; have : x.length = x.cps.size := rfl; omega
    exact ⟨_, hQ _ (List.getElem_mem hj), fun st _ => by rw [idx_str hz, L2.atI_nat (List.getElem?_eq_getElem hj)]; rfl⟩
/-- a tuple of data -/
def drawnT {ps : List PyData} {Q : PyData → Prop} {s : Store → Prop} (h : 0 < ps.length) (hz : ps.length ≤ sizeLine) (hQ : ∀ p ∈ ps, Q p) : Drawn (.py (.tuple ps)) Q s where
  L := ps.length
  pos := by omega
  log := small_log hz
  len := fun st _ => len_tup
  at' := fun r h0 h1 => by
    obtain ⟨x, hx, e⟩ := atI_of (xs := ps.map .py) h0 (by rw [List.length_map]; exact h1)
    obtain ⟨p, hp, rfl⟩ := List.mem_map.mp hx
    exact ⟨p, hQ p hp, fun st _ => by rw [idx_tup]; exact e⟩
/-- the pot of a cell, new -/
theorem pot_call {Φ : Nat → Fn} {ns : List Int} {n : Nat} {k : Int} {st : Store} (hn : st[n]? = some (.lck (.lst (ioS ns)))) (h0 : 0 ≤ k) (hk : k < 1000000) {P : D → Store → Prop} (q : ∀ a b, potOk a b → P (.loc st.length) (st ++ [.lst [io a, io b]])) : Gv (callM 2 (run Φ cPot) [.loc n, io k] st) P := by
  have e0 : ∀ p s, toPyL (frzD p s 7) (ioS ns) = some (ns.map .int) := fun p s => by
    have : ioS ns = (ns.map PyData.int).map .py := by unfold ioS; rw [List.map_map]; rfl
    rw [this, frzL_map]
  have e1 : (ns.map PyData.int).map D.py = ioS ns := by unfold ioS; rw [List.map_map]; rfl
  refine sub_gv (md := 2) (ds := [.loc n, io k]) (ls := [n]) (os := [.lck (.lst (ioS ns))]) rfl (by simp) ?_ ?_
  · simp only [pick, hn, Option.bind_some, Option.map_some, frzAll, frzA, frzO, e0, e1]
  · refine pot_gv h0 hk fun a b h => ?_
    refine ⟨1, .lst [io a, io b], [.lck (.lst (ioS ns))], rfl, by simp, ?_, ?_, ?_⟩
    · simp only [List.length_singleton, sto_s, sto_z, Option.bind_some]; rfl
    · simp only [List.length_singleton, List.take_succ_cons, List.take_zero, frzAll, frzA, frzO, e0, e1, Option.bind_some, Option.map_some]
    · have : backIn st [n] [.lck (.lst (ioS ns))] = st := set_same hn
      rw [this]; exact q a b h
end WW

namespace WW
open PySem
/-! ### how long a thing's text is -/
def Asc (x : Str) : Prop := ∀ c ∈ x.cps.toList, c < 128
theorem Asc.app {x y : Str} (h : Asc x) (k : Asc y) : Asc (x ++ y) := by
  intro c hc
  have e : (x ++ y).cps.toList = x.cps.toList ++ y.cps.toList := Array.toList_append
  rw [e] at hc
  exact (List.mem_append.mp hc).elim (h c) (k c)
theorem Asc.cut {x : Str} (h : Asc x) (lo hi : Option Int) : Asc (L2.cutS x lo hi) := fun c hc => h c (List.mem_of_mem_drop (List.mem_of_mem_take hc))
theorem cutS_len (x : Str) (lo hi : Option Int) : (L2.cutS x lo hi).length ≤ x.length := by
  show (L2.cutS x lo hi).cps.size ≤ x.cps.size
  unfold L2.cutS
  rw [List.size_toArray, List.length_take, List.length_drop, Array.length_toList]; omega
theorem strLen (x y : Str) : (x ++ y).length = x.length + y.length := Array.size_append
theorem Asc.repr {x : Str} (h : Asc x) : (reprText x).length ≤ 10 * x.length + 2 := StrLaws.reprText_len x fun c hc => Nat.lt_trans (h c hc) (by decide)
def SL (p : PyData) : Nat := p.shown.length
def strOk : PyData → Prop
  | .str x => x.length ≤ sizeLine
  | _ => True
structure Part (K : Nat) (q : PyData) : Prop where
  show' : q.showable = true
  dep : q.depth ≤ 5
  len : SL q ≤ K
  str : strOk q
theorem Part.mono {K L : Nat} {q : PyData} (h : Part K q) (k : K ≤ L) : Part L q := ⟨h.show', h.dep, Nat.le_trans h.len k, h.str⟩
theorem part_str {x : Str} {n : Nat} (h : Asc x) (hl : x.length ≤ n) (hn : 10 * n + 2 ≤ sizeLine) : Part (10 * n + 2) (.str x) :=
  ⟨by simp [PyData.showable], by simp [PyData.depth], by
    unfold SL; simp only [PyData.shown]; have := h.repr; omega, by show x.length ≤ sizeLine; omega⟩
theorem all_show {K : Nat} : ∀ {ps : List PyData}, (∀ q ∈ ps, Part K q) → PyData.showableAll ps = true ∧ PyData.depthAll ps ≤ 5 ∧ piled (PyData.shownAll ps) ≤ ps.length * (K + 2) ∧ (PyData.shownAll ps).length = ps.length
  | [], _ => ⟨rfl, by simp [PyData.depthAll], by simp [PyData.shownAll, piled], rfl⟩
  | q :: ps, h => by
    obtain ⟨h1, h2, h3, h4⟩ := all_show (ps := ps) fun r hr => h r (List.mem_cons_of_mem _ hr)
    have hq := h q (List.mem_cons_self ..)
    refine ⟨by rw [PyData.showableAll, hq.show', h1]; rfl, by rw [PyData.depthAll]; exact Nat.max_le.mpr ⟨hq.dep, h2⟩, ?_, by rw [PyData.shownAll, List.length_cons, List.length_cons, h4]⟩
    rw [PyData.shownAll, piled_cons, List.length_cons, Nat.add_mul, Nat.one_mul]
    have := hq.len
    unfold SL at this
    omega
theorem tupleText_len (ts : List Str) : (tupleText ts).length ≤ 3 + piled ts := by
  unfold tupleText
  rw [strLen, strLen]
  have e1 : ("(" : Str).length = 1 := rfl
  have e2 : (((if ts.length == 1 then ",)" else ")" : String)) : Str).length ≤ 2 := by split <;> decide
  have e3 : (Str.join ", " ts).length ≤ piled ts := by
    by_cases h : ts = []
    · subst h; decide
    · have := join_length_add ts h; omega
  omega
theorem textFrom_le : ∀ (ts : List Str) (k : Nat) (acc : Str), (textFrom k acc ts).length ≤ acc.length + piled ts
  | [], _, _ => by simp [textFrom, piled]
  | t :: ts, k, acc => by
    rw [textFrom, piled_cons]
    have h := textFrom_le ts (k + 1) (acc ++ (if k > 0 then ", " else "" : String) ++ t)
    rw [strLen, strLen] at h
    have e2 : (((if k > 0 then ", " else "" : String)) : Str).length ≤ 2 := by split <;> decide
    omega
theorem listText_len (ts : List Str) : (listText ts).length ≤ 2 + piled ts := by
  unfold listText
  rw [strLen]
  have e1 : ("[" : Str).length = 1 := rfl
  have e2 : ("]" : Str).length = 1 := rfl
  have := textFrom_le ts 0 "["
  omega
structure Good (p : PyData) : Prop where
  sh : showOk p = true
  str : strOk p
  parts : ∀ ps, p = .tuple ps → ∀ q ∈ ps, strOk q
theorem showOk_of {p : PyData} (h1 : p.hasDict = false ∨ noL p = true) (h2 : p.showable = true) (h3 : p.depth ≤ 60) (h4 : SL p ≤ sizeLine) : showOk p = true := by
  unfold showOk
  rw [h2, decide_eq_true h3, decide_eq_true (show p.shown.length ≤ sizeLine from h4)]
  rcases h1 with h | h <;> simp [h]
theorem hasDictAll_no : ∀ {ps : List PyData}, (∀ q ∈ ps, q.hasDict = false) → PyData.hasDictAll ps = false
  | [], _ => rfl
  | q :: ps, h => by rw [PyData.hasDictAll, h q (List.mem_cons_self ..), hasDictAll_no fun r hr => h r (List.mem_cons_of_mem _ hr)]; rfl
theorem noLs_all : ∀ {ps : List PyData}, (∀ q ∈ ps, noL q = true) → noLs ps = true
  | [], _ => rfl
  | q :: ps, h => by rw [noLs, h q (List.mem_cons_self ..), noLs_all fun r hr => h r (List.mem_cons_of_mem _ hr)]; rfl
theorem good_tuple {K : Nat} {ps : List PyData} (h : ∀ q ∈ ps, Part K q) (hz : 3 + ps.length * (K + 2) ≤ sizeLine) (hd : (∀ q ∈ ps, q.hasDict = false) ∨ (∀ q ∈ ps, noL q = true)) : Good (.tuple ps) := by
  obtain ⟨h1, h2, h3, h4⟩ := all_show h
  refine ⟨showOk_of ?_ (by simpa [PyData.showable] using h1) (by simp only [PyData.depth]; omega) ?_, trivial, ?_⟩
  · rcases hd with hd | hd
    · exact .inl (by simp only [PyData.hasDict]; exact hasDictAll_no hd)
    · exact .inr (by simp only [noL]; exact noLs_all hd)
  · unfold SL; simp only [PyData.shown]
    have := tupleText_len (PyData.shownAll ps); omega
  · intro qs e q hq
    cases e
    exact (h q hq).str
theorem good_list {K : Nat} {ps : List PyData} (h : ∀ q ∈ ps, Part K q) (hz : 2 + ps.length * (K + 2) ≤ sizeLine) (hd : ∀ q ∈ ps, q.hasDict = false) : Good (.list ps) := by
  obtain ⟨h1, h2, h3, h4⟩ := all_show h
  refine ⟨showOk_of (.inl ?_) (by simpa [PyData.showable] using h1) (by simp only [PyData.depth]; omega) ?_, trivial, nofun⟩
  · simp only [PyData.hasDict]; exact hasDictAll_no hd
  · unfold SL; simp only [PyData.shown]
    have := listText_len (PyData.shownAll ps); omega
theorem part_tuple {K L : Nat} {ps : List PyData} (h : ∀ q ∈ ps, Part K q) (hdep : PyData.depthAll ps ≤ 4) (hz : 3 + ps.length * (K + 2) ≤ L) : Part L (.tuple ps) := by
  obtain ⟨h1, h2, h3, h4⟩ := all_show h
  refine ⟨by simpa [PyData.showable] using h1, by simp only [PyData.depth]; omega, ?_, trivial⟩
  unfold SL; simp only [PyData.shown]
  have := tupleText_len (PyData.shownAll ps); omega
theorem part_list {K L : Nat} {ps : List PyData} (h : ∀ q ∈ ps, Part K q) (hdep : PyData.depthAll ps ≤ 4) (hz : 2 + ps.length * (K + 2) ≤ L) : Part L (.list ps) := by
  obtain ⟨h1, h2, h3, h4⟩ := all_show h
  refine ⟨by simpa [PyData.showable] using h1, by simp only [PyData.depth]; omega, ?_, trivial⟩
  unfold SL; simp only [PyData.shown]
  have := listText_len (PyData.shownAll ps); omega
theorem Gv.val {α : Type} {r : R α} {a : α} {st : Store} (h : Gv r fun b s => b = a ∧ s = st) : r = .ok a st := by
  obtain ⟨b, s, e, rfl, rfl⟩ := h.out
  exact e
/-- a comprehension that leaves the store as it is, its answers data -/
theorem lc_val {Φ : Nat → Fn} {own : List Nat} {src : CE} {tg : Tg} {e : CE} {env : Env} {st : Store} {s : Src} (hs : srcs Φ src env st = .ok s st) (hk : s.lk = none) (hg : Still s.gs st) (f : D → PyData) (hz : s.its.length ≤ sizeLine)
    (hf : ∀ x ∈ s.its, ∃ env1, asg tg x (WW.wipe env own) = some env1 ∧ ev Φ e env1 st = .ok (.py (f x)) st) : ev Φ (.lc false own src tg .yes e) env st = .ok (.py (.list (s.its.map f))) st := by
  refine Gv.val ?_
  rw [ev, hs, R.bind_ok, Gv_bind, Gv_nox, hk]
  show Gv (lcL s.gs tg (tst Φ .yes) (ev Φ e) addL (WW.wipe env own) s.its st []) _
  refine lc_pure (fun d => .py (f d)) hz hg hf ?_
  have e1 : s.its.map (fun d => D.py (f d)) = (s.its.map f).map .py := by rw [List.map_map]; rfl
  rw [e1]
  simp only [newL, allPy_map, Option.map_some, giveS_some, Gv_ok]
  trivial
theorem lstB_map {α : Type} {st : Store} {f : α → Bool} {xs : List α} : lstB st (.py (.list (xs.map fun x => .bool (f x)))) = some (xs.map f) := by
  simp only [lstB, asL, Option.bind_some, allPy_map, asBools_map]
abbrev abc : Str := "abcdefghijklmnopqrstuvwxyz"
/-! ### drawn things -/
/-- the store with some pot at its place -/
def PotAt (n : Nat) (st0 st : Store) : Prop := ∃ a b, potOk a b ∧ st = st0.set n (.lst [io a, io b])
theorem PotAt.get {n : Nat} {st0 st : Store} (hn : n < st0.length) (h : PotAt n st0 st) : ∃ a b, potOk a b ∧ st[n]? = some (.lst [io a, io b]) := by
  obtain ⟨a, b, h1, rfl⟩ := h
  exact ⟨a, b, h1, List.getElem?_set_self hn⟩
theorem PotAt.put {n : Nat} {st0 st : Store} {a b : Int} (h : PotAt n st0 st) (k : potOk a b) : PotAt n st0 (st.set n (.lst [io a, io b])) := by
  obtain ⟨a', b', _, rfl⟩ := h
  exact ⟨a, b, k, by rw [List.set_set]⟩
theorem PotAt.refl {n : Nat} {st : Store} {a b : Int} (h : st[n]? = some (.lst [io a, io b])) (k : potOk a b) : PotAt n st st := ⟨a, b, k, (set_same h).symm⟩
theorem PotAt.other {n m : Nat} {st0 st : Store} (h : PotAt n st0 st) (hm : n ≠ m) : st[m]? = st0[m]? := by
  obtain ⟨a, b, _, rfl⟩ := h
  rw [List.getElem?_set_ne hm]
theorem PotAt.len {n : Nat} {st0 st : Store} (h : PotAt n st0 st) : st.length = st0.length := by
  obtain ⟨a, b, _, rfl⟩ := h
  rw [List.length_set]
/-- a comprehension whose items are drawn -/
theorem lc_draw {Φ : Nat → Fn} {own : List Nat} {src : CE} {tg : Tg} {e : CE} {env : Env} {st st0 : Store} {n : Nat} {Q : PyData → Prop} {R : Nat → Prop} {P : D → Store → Prop}
    (hs : Gv (srcs Φ src env st) fun s st1 => s.lk = none ∧ s.gs = [] ∧ s.its.length ≤ sizeLine ∧ R s.its.length ∧ PotAt n st0 st1 ∧ ∀ x ∈ s.its, ∃ env1, asg tg x (WW.wipe env own) = some env1 ∧ ∀ st2, PotAt n st0 st2 → Gv (ev Φ e env1 st2) fun d st3 => ∃ q, d = .py q ∧ Q q ∧ PotAt n st0 st3)
    (k : ∀ qs st1, (∀ q ∈ qs, Q q) → R qs.length → PotAt n st0 st1 → P (.py (.list qs)) st1) : Gv (ev Φ (.lc false own src tg .yes e) env st) P := by
  rw [ev, Gv_bind]
  refine hs.imp fun s st1 ⟨h1, h2, h3, h4, h5, h6⟩ => ?_
  rw [Gv_bind, Gv_nox, h1, h2]
  show Gv (lcL [] tg (tst Φ .yes) (ev Φ e) addL (WW.wipe env own) s.its st1 []) _
  refine lc_ok (fun i st2 acc => PotAt n st0 st2 ∧ ∃ qs : List PyData, acc = qs.map .py ∧ qs.length = i ∧ ∀ q ∈ qs, Q q) ⟨h5, [], rfl, rfl, fun _ h => nomatch h⟩ h3 (fun i st2 acc ⟨_, qs, e1, e2, _⟩ => ?_) (fun i st2 acc _ => still_nil _) (fun i x st2 acc hx ⟨g1, qs, e1, e2, g2⟩ => ?_) fun st2 acc ⟨g1, qs, e1, e2, g2⟩ => ?_
  · rw [e1, List.length_map]; omega
  · obtain ⟨env1, a1, a2⟩ := h6 x (List.mem_of_getElem? hx)
    refine ⟨env1, a1, (a2 st2 g1).imp fun d st3 ⟨q, b1, b2, b3⟩ => ⟨b3, qs ++ [q], ?_, ?_, fun r hr => ?_⟩⟩
    · rw [e1, b1, List.map_append]; rfl
    · rw [List.length_append, e2]; rfl
    · rcases List.mem_append.mp hr with z | z
      · exact g2 r z
      · rw [List.mem_singleton.mp z]; exact b2
  · rw [e1]
    simp only [newL, allPy_map, Option.map_some, giveS_some, Gv_ok]
    exact k qs st2 g2 (by rw [e2]; exact h4) g1
theorem sjoin_nil : ∀ ys : List Str, (Str.join "" ys).cps.toList = (ys.map fun y => y.cps.toList).flatten
  | [] => rfl
  | [x] => by simp [Str.join]
  | x :: y :: ys => by
    have ih := sjoin_nil (y :: ys)
    show ((x.cps ++ ("" : Str).cps) ++ (Str.join "" (y :: ys)).cps).toList = _
    have e : ("" : Str).cps = #[] := by decide +kernel
    rw [Array.toList_append, Array.toList_append, ih, e]
    simp
theorem glue_nil (ys : List Str) : (Txt.join "" ys).cps.toList = (ys.map fun y => y.cps.toList).flatten := by
  have h : Txt.join "" ys = Str.join "" ys := eq_of_beq (PyProof.Rows.join_plain_closes "" ys)
  rw [h]; exact sjoin_nil ys
theorem join_asc {ys : List Str} (h : ∀ y ∈ ys, Asc y) : Asc (Txt.join "" ys) := by
  intro c hc
  rw [glue_nil, List.mem_flatten] at hc
  obtain ⟨l, hl, hc⟩ := hc
  obtain ⟨y, hy, rfl⟩ := List.mem_map.mp hl
  exact h y hy c hc
theorem join_len (ys : List Str) : (Txt.join "" ys).length = (ys.map (·.length)).sum := by
  show (Txt.join "" ys).cps.size = _
  rw [← Array.length_toList, glue_nil, List.length_flatten, List.map_map]
  congr 1
theorem sum_le {ys : List Str} {k : Nat} (h : ∀ y ∈ ys, y.length ≤ k) : (ys.map (·.length)).sum ≤ ys.length * k := by
  induction ys with
  | nil => simp
  | cons y ys ih =>
    rw [List.map_cons, List.sum_cons, List.length_cons, Nat.add_mul, Nat.one_mul]
    have h1 := h y (List.mem_cons_self ..)
    have h2 := ih fun z hz => h z (List.mem_cons_of_mem _ hz)
    omega
theorem asStrs_of : ∀ {qs : List PyData}, (∀ q ∈ qs, ∃ y, q = .str y) → ∃ ys, asStrs qs = some ys ∧ qs = ys.map .str
  | [], _ => ⟨[], rfl, rfl⟩
  | q :: qs, h => by
    obtain ⟨y, rfl⟩ := h q (List.mem_cons_self ..)
    obtain ⟨ys, e1, e2⟩ := asStrs_of fun r hr => h r (List.mem_cons_of_mem _ hr)
    exact ⟨y :: ys, by simp [asStrs, e1], by rw [e2]; rfl⟩
/-- "".join of a list of texts -/
theorem join_b {st : Store} {qs : List PyData} {k : Nat} {d : D} (hd : asLT st d = some (qs.map .py)) (h : ∀ q ∈ qs, ∃ y, q = .str y ∧ Asc y ∧ y.length ≤ k) (hz : qs.length * k ≤ 16777216) :
    ∃ x, mtJoin st (so "") d = .ok (so x) st ∧ Asc x ∧ x.length ≤ qs.length * k ∧ (∀ m, (∀ q ∈ qs, ∃ y, q = .str y ∧ m ≤ y.length) → qs.length * m ≤ x.length) := by
  obtain ⟨ys, e1, e2⟩ := asStrs_of fun q hq => let ⟨y, e, _⟩ := h q hq; ⟨y, e⟩
  subst e2
  have h' : ∀ y ∈ ys, Asc y ∧ y.length ≤ k := fun y hy => by
    obtain ⟨z, e, a, b⟩ := h (.str y) (List.mem_map_of_mem hy)
    cases e; exact ⟨a, b⟩
  have hs : lstS st d = some ys := by simp only [lstS, hd, Option.bind_some, allPy_map, e1]
  have hl := sum_le fun y hy => (h' y hy).2
  rw [List.length_map] at hz ⊢
  refine ⟨Txt.join "" ys, ?_, join_asc fun y hy => (h' y hy).1, by rw [join_len]; exact hl, fun m hm => ?_⟩
  · have e0 : ("" : Str).length = 0 := by decide +kernel
    simp only [mtJoin, hs, e0, Nat.mul_zero, Nat.add_zero]
    rw [if_pos (by omega)]
  · rw [join_len]
    have h2 : ∀ y ∈ ys, m ≤ y.length := fun y hy => by
      obtain ⟨z, e, a⟩ := hm (.str y) (List.mem_map_of_mem hy)
      cases e; exact a
    clear hz hl hs e1 h h' hd hm
    induction ys with
    | nil => simp
    | cons y ys ih =>
      rw [List.map_cons, List.sum_cons, List.length_cons, Nat.add_mul, Nat.one_mul]
      have h3 := h2 y (List.mem_cons_self ..)
      have h4 := ih fun z hz => h2 z (List.mem_cons_of_mem _ hz)
      omega
theorem abc_len : abc.length = 26 := by decide +kernel
theorem abc_asc : ∀ c ∈ abc.cps.toList, c < 128 := by decide +kernel
/-- one sign -/
def Sg (q : PyData) : Prop := ∃ c, c < 128 ∧ q = .str ⟨#[c]⟩
theorem Sg.str {q : PyData} (h : Sg q) : ∃ y, q = .str y ∧ Asc y ∧ y.length = 1 := by
  obtain ⟨c, hc, rfl⟩ := h
  exact ⟨_, rfl, fun d hd => by rw [List.mem_singleton.mp (show d ∈ [c] from hd)]; exact hc, rfl⟩
theorem rng_its {n : Int} (h0 : 0 ≤ n) (h1 : n < 4611686018427387904) : rngO [io n] = some { its := rngI 0 n.toNat } := by
  have h : inR n = true := by
    unfold inR
    rw [Bool.and_eq_true, decide_eq_true_eq, decide_eq_true_eq]
    exact ⟨by omega, by omega⟩
  show (if inR n = true then some ({ its := rngI 0 n.toNat } : Src) else none) = _
  rw [if_pos h]
theorem rngI_len (lo : Int) (n : Nat) : (rngI lo n).length = n := by unfold rngI; rw [List.length_map, List.length_range]
/-! ### calls of draws, whatever the numbers -/
structure Dr (Φ : Nat → Fn) (t o : Nat) : Prop where
  take : ∃ Φ', Φ t = run Φ' cTake
  of : ∃ Φ2 Φ' t', Φ o = run Φ2 (cOf t') ∧ Φ2 t' = run Φ' cTake
structure Dt (Φ : Nat → Fn) (t : Nat) : Prop where
  take : ∃ Φ', Φ t = run Φ' cTake
structure Df (Φ : Nat → Fn) (o : Nat) : Prop where
  of : ∃ Φ2 Φ' t', Φ o = run Φ2 (cOf t') ∧ Φ2 t' = run Φ' cTake
theorem Dr.t {Φ : Nat → Fn} {t o : Nat} (h : Dr Φ t o) : Dt Φ t := ⟨h.take⟩
theorem Dr.o {Φ : Nat → Fn} {t o : Nat} (h : Dr Φ t o) : Df Φ o := ⟨h.of⟩
theorem g_take {Φ : Nat → Fn} {t n : Nat} {a b m : Int} {st : Store} {P : D → Store → Prop} (d : Dt Φ t) (hn : st[n]? = some (.lst [io a, io b])) (hp : potOk a b) (hm : 0 < m) (hl : m ≤ 16777216)
    (k : ∀ r a' b', 0 ≤ r → r < m → potOk a' b' → P (io r) (st.set n (.lst [io a', io b']))) : Gv (callM 0 (Φ t) [.loc n, io m] st) P := by
  obtain ⟨Φ', e⟩ := d.take
  rw [e]
  refine take_call hn hp hm ?_ k
  have h2 : m.natAbs.log2 < 25 := log2_lt (by omega) (by decide)
  omega
theorem g_of {Φ : Nat → Fn} {o n : Nat} {a b : Int} {d : PyData} {st : Store} {P : D → Store → Prop} {Q : PyData → Prop} (h : Df Φ o) (hn : st[n]? = some (.lst [io a, io b])) (hp : potOk a b) (W : Drawn (.py d) Q fun st => ∃ o, st = [o])
    (k : ∀ x a' b', Q x → potOk a' b' → P (.py x) (st.set n (.lst [io a', io b']))) : Gv (callM 0 (Φ o) [.loc n, .py d] st) P := by
  obtain ⟨Φ2, Φ', t', e1, e2⟩ := h.of
  rw [e1]
  exact of_call e2 hn hp W k
theorem g_of2 {Φ : Nat → Fn} {o n m : Nat} {a b : Int} {xs : List PyData} {st : Store} {P : D → Store → Prop} {Q : PyData → Prop} (h : Df Φ o) (hn : st[n]? = some (.lst [io a, io b])) (hm : st[m]? = some (.lst (xs.map .py))) (hne : n ≠ m) (hp : potOk a b)
    (W : Drawn (.loc 1) Q fun st => ∃ o, st = [o, .lst (xs.map .py)])
    (k : ∀ x a' b', Q x → potOk a' b' → P (.py x) (st.set n (.lst [io a', io b']))) : Gv (callM 0 (Φ o) [.loc n, .loc m] st) P := by
  obtain ⟨Φ2, Φ', t', e1, e2⟩ := h.of
  rw [e1]
  exact of_call2 e2 hn hm hne hp W k
theorem p_take {Φ : Nat → Fn} {t n : Nat} {st0 s : Store} {m : Int} (d : Dt Φ t) (hn : n < st0.length) (hp : PotAt n st0 s) (hm : 0 < m) (hl : m ≤ 16777216) {P : D → Store → Prop} (k : ∀ r s', 0 ≤ r → r < m → PotAt n st0 s' → P (io r) s') : Gv (callM 0 (Φ t) [.loc n, io m] s) P := by
  obtain ⟨a, b, h1, h2⟩ := hp.get hn
  exact g_take d h2 h1 hm hl fun r a' b' r0 r1 p => k r _ r0 r1 (hp.put p)
theorem p_of {Φ : Nat → Fn} {o n : Nat} {st0 s : Store} {d : PyData} {Q : PyData → Prop} (h : Df Φ o) (hn : n < st0.length) (hp : PotAt n st0 s) (W : Drawn (.py d) Q fun st => ∃ o, st = [o]) {P : D → Store → Prop} (k : ∀ x s', Q x → PotAt n st0 s' → P (.py x) s') : Gv (callM 0 (Φ o) [.loc n, .py d] s) P := by
  obtain ⟨a, b, h1, h2⟩ := hp.get hn
  exact g_of h h2 h1 W fun x a' b' q p => k x _ q (hp.put p)
/-- a def that draws: what it answers, of which arguments behind the pot -/
structure DrawF (φ : Fn) (ps : List PyData) (Q : PyData → Prop) : Prop where
  h : ∀ a b, potOk a b → Gv (φ (.loc 0 :: ps.map .py) [.lst [io a, io b]]) fun d st1 => ∃ p, d = .py p ∧ Q p ∧ ∃ a' b', potOk a' b' ∧ st1[0]? = some (.lst [io a', io b'])
theorem DrawF.at {φ : Fn} {ps : List PyData} {Q : PyData → Prop} (f : DrawF φ ps Q) {n : Nat} {a b : Int} {st : Store} {P : D → Store → Prop} (hn : st[n]? = some (.lst [io a, io b])) (hp : potOk a b) (k : ∀ p a' b', Q p → potOk a' b' → P (.py p) (st.set n (.lst [io a', io b']))) :
    Gv (callM 0 φ (.loc n :: ps.map .py) st) P := by
  refine call_one (xs := [.int a, .int b]) ps hn ?_
  exact (f.h a b hp).imp fun d st1 ⟨p, e, q, a', b', h1, h2⟩ => ⟨p, [.int a', .int b'], e, h2, k p a' b' q h1⟩
theorem DrawF.call {φ : Fn} {ps : List PyData} {Q : PyData → Prop} (f : DrawF φ ps Q) {n : Nat} {st0 s : Store} {P : D → Store → Prop} (hn : n < st0.length) (hp : PotAt n st0 s) (k : ∀ p s', Q p → PotAt n st0 s' → P (.py p) s') :
    Gv (callM 0 φ (.loc n :: ps.map .py) s) P := by
  obtain ⟨a, b, h1, h2⟩ := hp.get hn
  exact f.at h2 h1 fun p a' b' q h => k p _ q (hp.put h)
theorem app_at (l : Store) (x : SO) : (l ++ [x])[l.length]? = some x := by rw [List.getElem?_append_right (Nat.le_refl _), Nat.sub_self]; rfl
theorem app_set (l : Store) (x y : SO) : (l ++ [x]).set l.length y = l ++ [y] := by rw [List.set_append_right _ _ (Nat.le_refl _), Nat.sub_self]; rfl
end WW

namespace WW
open PySem PySem.Spec
/-! ### the defs that many laws share, their callees' numbers left open -/
def gl1_law_names (i_law_take i_law_of : Nat) : CE := .lc false [8] (.seq (.var 3)) (.nam 8) (.yes) (.bin .Add false (.bin .Add false (.slc false (.var 2) (.abs) (.var 4)) (.var 8)) (.slc false (.var 2) (.var 4) (.abs)))
def gl2_law_names (i_law_take i_law_of : Nat) : CE := .lc false [7] (.rng (.cons (.var 1) (.nil))) (.nam 7) (.yes) (.idx (.con (.str "abcdefghijklmnopqrstuvwxyz")) (.bin .Mod false (.bin .Add false (.var 5) (.bin .Mult false (.var 6) (.var 7))) (.con (.int 26))))
def gl3_law_names (i_law_take i_law_of : Nat) : CE := .lc false [7] (.rng (.cons (.call 0 i_law_take (.cons (.var 0) (.cons (.con (.int 6)) (.nil)))) (.nil))) (.nam 7) (.yes) (.call 0 i_law_of (.cons (.var 0) (.cons (.bi .list false (.cons (.con (.str "abcxyz")) (.nil))) (.nil))))
def gc_law_names (i_law_take i_law_of : Nat) : CF := ⟨2, 9, .seq (.asg (.nam 2) (.mt .join (.con (.str "")) (.cons ((gl3_law_names i_law_take i_law_of)) (.nil))))
  (.seq (.asg (.cons (.nam 4) (.cons (.nam 5) (.cons (.nam 6) (.nil)))) (.tup (.cons (.call 0 i_law_take (.cons (.var 0) (.cons (.bin .Add false (.bi .len false (.cons (.var 2) (.nil))) (.con (.int 1))) (.nil)))) (.cons (.call 0 i_law_take (.cons (.var 0) (.cons (.con (.int 26)) (.nil)))) (.cons (.call 0 i_law_of (.cons (.var 0) (.cons (.lst false (.cons (.con (.int 1)) (.cons (.con (.int 3)) (.cons (.con (.int 5)) (.cons (.con (.int 7)) (.cons (.con (.int 9)) (.cons (.con (.int 11)) (.nil)))))))) (.nil)))) (.nil))))))
  (.seq (.asg (.nam 3) ((gl2_law_names i_law_take i_law_of)))
  (.seq (.ret (.bi .sorted false (.cons ((gl1_law_names i_law_take i_law_of)) (.nil))))
  (.skip))))⟩
def gb1_law_web (i_law_take : Nat) : CS := .seq (.set (.var 7) (.call 0 i_law_take (.cons (.var 0) (.cons (.var 1) (.nil)))) (.con (.bool true)))
  (.skip)
def gb2_law_web (i_law_take : Nat) : CS := .seq (.asg (.nam 7) (.dct 1 .nil))
  (.seq (.for (.rng (.cons (.call 0 i_law_take (.cons (.var 0) (.cons (.bin .Add false (.var 3) (.con (.int 1))) (.nil)))) (.nil))) (.nam 8) (gb1_law_web i_law_take))
  (.seq (.ite (.tof (.cmp .NotEq (.var 7) (.dct 0 .nil)))
  (.seq (.exp (.mt .append (.var 4) (.cons (.tup (.cons (.var 5) (.cons (.var 6) (.cons (.bi .tuple false (.cons (.bi .sorted false (.cons (.var 7) (.nil))) (.nil))) (.nil))))) (.nil))))
  (.skip))
  (.skip))
  (.skip)))
def gb3_law_web (i_law_take : Nat) : CS := .seq (.for (.seq (.var 2)) (.nam 6) (gb2_law_web i_law_take))
  (.skip)
def gc_law_web (i_law_take : Nat) : CF := ⟨4, 9, .seq (.asg (.nam 4) (.lst true (.nil)))
  (.seq (.for (.rng (.cons (.var 1) (.nil))) (.nam 5) (gb3_law_web i_law_take))
  (.seq (.ret (.tup (.cons (.var 1) (.cons (.bi .tuple false (.cons (.var 4) (.nil))) (.nil)))))
  (.skip)))⟩
def gl1_law_world (i_law_of : Nat) : CE := .lc false [2] (.seq (.idx (.var 1) (.con (.int 1)))) (.nam 2) (.yes) (.call 0 i_law_of (.cons (.var 0) (.cons (.bi .list false (.cons (.idx (.var 2) (.con (.int 2))) (.nil))) (.nil))))
def gc_law_world (i_law_of : Nat) : CF := ⟨2, 3, .seq (.ret (.bi .tuple false (.cons ((gl1_law_world i_law_of)) (.nil))))
  (.skip)⟩
def gl1_law_goals (i_law_take : Nat) : CE := .lc false [2] (.rng (.cons (.var 1) (.nil))) (.nam 2) (.tof (.cmp .Gt (.call 0 i_law_take (.cons (.var 0) (.cons (.con (.int 3)) (.nil)))) (.con (.int 0)))) (.var 2)
def gc_law_goals (i_law_take : Nat) : CF := ⟨2, 3, .seq (.ite (.tof (.cmp .Eq (.call 0 i_law_take (.cons (.var 0) (.cons (.con (.int 2)) (.nil)))) (.con (.int 0))))
  (.seq (.ret (.con .none))
  (.skip))
  (.skip))
  (.seq (.ret (.bi .tuple false (.cons ((gl1_law_goals i_law_take)) (.nil))))
  (.skip))⟩
/-! ### names -/
def Low (x : Str) : Prop := ∀ c ∈ x.cps.toList, 97 ≤ c ∧ c ≤ 122
theorem Low.asc {x : Str} (h : Low x) : Asc x := fun c hc => Nat.lt_of_le_of_lt (h c hc).2 (by decide)
theorem Low.app {x y : Str} (h : Low x) (k : Low y) : Low (x ++ y) := by
  intro c hc
  have e : (x ++ y).cps.toList = x.cps.toList ++ y.cps.toList := Array.toList_append
  rw [e] at hc
  rcases List.mem_append.mp hc with z | z
  · exact h c z
  · exact k c z
theorem Low.cut {x : Str} (h : Low x) (lo hi : Option Int) : Low (L2.cutS x lo hi) := fun c hc => h c (List.mem_of_mem_drop (List.mem_of_mem_take hc))
/-- a name of a road -/
structure Nme (x : Str) : Prop where
  low : Low x
  lo : 1 ≤ x.length
  hi : x.length ≤ 6
def ltr (j : Nat) : Str := ⟨#[97 + j]⟩
theorem ltr_len (j : Nat) : (ltr j).length = 1 := rfl
theorem ltr_low {j : Nat} (h : j < 26) : Low (ltr j) := fun c hc => by
  rw [List.mem_singleton.mp (show c ∈ [97 + j] from hc)]; omega
theorem abc_at : ∀ j < 26, L2.atI abc.cps.toList ((j : Nat) : Int) = some (97 + j) := by decide +kernel
theorem abc_size : abc.length ≤ sizeLine := by rw [abc_len]; exact sizeBig (by decide)
theorem abc_idx {st : Store} {i : Int} (h0 : 0 ≤ i) (h1 : i < 26) : idxO st (so abc) (io i) = some (so (ltr i.toNat)) := by
  rw [idx_str abc_size]
  obtain ⟨j, rfl⟩ : ∃ j : Nat, i = (j : Int) := ⟨i.toNat, by omega⟩
  rw [abc_at j (by omega)]; rfl
def ltS (x y : Str) : Bool := ltCps x.cps.toList y.cps.toList
theorem ltS_of {x y : Str} (h : leS x y = true) (hne : x ≠ y) : ltS x y = true := by
  unfold leS at h
  unfold ltS
  cases e : ltCps x.cps.toList y.cps.toList with
  | true => rfl
  | false =>
    simp only [Bool.not_eq_true'] at h
    have := lt_anti e h
    exact absurd (by cases x with | mk a => cases y with | mk b => exact congrArg Str.mk (Array.toList_inj.mp this)) hne
theorem ssort_strict {xs : List Str} (h : xs.Nodup) : (ssort xs).Pairwise fun a b => ltS a b = true := by
  have h1 : (ssort xs).Pairwise fun a b => leS a b = true := List.pairwise_mergeSort leS_trans leS_total xs
  have h2 : (ssort xs).Nodup := (List.mergeSort_perm xs leS).nodup_iff.mpr h
  exact h1.imp₂ (fun a b x y => ltS_of x y) h2
theorem ssort_len (xs : List Str) : (ssort xs).length = xs.length := List.length_mergeSort xs
theorem mem_ssort {xs : List Str} {x : Str} : x ∈ ssort xs ↔ x ∈ xs := (List.mergeSort_perm xs leS).mem_iff
theorem isort_len (xs : List Int) : (isort xs).length = xs.length := List.length_mergeSort xs
theorem mem_isort {xs : List Int} {x : Int} : x ∈ isort xs ↔ x ∈ xs := (List.mergeSort_perm xs _).mem_iff
theorem isort_strict {xs : List Int} (h : xs.Nodup) : (isort xs).Pairwise fun a b => a < b := by
  have h1 : (isort xs).Pairwise fun a b => a ≤ b := by
    have := List.pairwise_mergeSort (le := fun a b : Int => decide (a ≤ b)) (fun a b c h1 h2 => by simp only [decide_eq_true_eq] at *; omega) (fun a b => by simp only [Bool.or_eq_true, decide_eq_true_eq]; omega) xs
    exact this.imp fun h => of_decide_eq_true h
  have h2 : (isort xs).Nodup := (List.mergeSort_perm xs _).nodup_iff.mpr h
  exact h1.imp₂ (fun a b x y => by have : a ≠ b := y; omega) h2
theorem asInts_strs {xs : List Str} (h : xs ≠ []) : asInts (xs.map .str) = none := by
  cases xs with
  | nil => exact absurd rfl h
  | cons x xs => rfl
theorem sorted_strs {st : Store} {xs : List Str} (h : xs ≠ []) (hl : xs.length < 64) : biSorted false st (.py (.list (xs.map .str))) = .ok (.py (.list ((ssort xs).map .str))) st := by
  have e : (ssort xs).map so = ((ssort xs).map PyData.str).map D.py := by rw [List.map_map]; rfl
  have e1 : asStrs (xs.map .str) = some xs := by
    have := asStrs_map id xs; simpa using this
  simp only [biSorted, asL, allPy_map, Option.bind_some, asInts_strs h, e1, if_pos hl, newL, e, Option.map_some, giveS_some]
/-- the names of a draw -/
def namesL (stem : Str) (at_ : Int) (js : List Nat) : List Str := js.map fun j => L2.cutS stem none (some at_) ++ ltr j ++ L2.cutS stem (some at_) none
theorem app_inj {a b x y : Str} (h : a ++ x ++ b = a ++ y ++ b) : x = y := by
  have e : ∀ u v : Str, (u ++ v).cps = u.cps ++ v.cps := fun _ _ => rfl
  have h1 := congrArg Str.cps h
  rw [e, e, e, e] at h1
  have h2 := congrArg Array.toList h1
  simp only [Array.toList_append, List.append_cancel_left_eq, List.append_cancel_right_eq] at h2
  cases x with | mk x => cases y with | mk y => exact congrArg Str.mk (Array.toList_inj.mp h2)
theorem ltr_inj {i j : Nat} (h : ltr i = ltr j) : i = j := by
  have h1 := congrArg (fun x : Str => x.cps.toList) h
  have h2 : [97 + i] = [97 + j] := h1
  simp at h2; exact h2
theorem namesL_nodup {stem : Str} {at_ : Int} {js : List Nat} (h : js.Nodup) : (namesL stem at_ js).Nodup :=
  List.Pairwise.map _ (fun a b hne e => hne (ltr_inj (app_inj e))) h
theorem cut2_len (x : Str) {at_ : Int} (h0 : 0 ≤ at_) (h1 : at_ ≤ x.length) : (L2.cutS x none (some at_)).length + (L2.cutS x (some at_) none).length = x.length := by
  obtain ⟨k, rfl⟩ : ∃ k : Nat, at_ = (k : Int) := ⟨at_.toNat, by omega⟩
  have hk : k ≤ x.length := by omega
  have e1 : x.length = x.cps.toList.length := (Array.length_toList).symm
  have h2 : (L2.cutS x none (some (k : Int))).length = k := by
    show ((x.cps.toList.drop _).take _).toArray.size = k
    rw [List.size_toArray, HT.sIx_none, HT.sIx_nat, Nat.min_eq_left hk, List.drop_zero, List.length_take, Nat.sub_zero, Nat.min_eq_left (by omega)]
  have h3 : (L2.cutS x (some (k : Int)) none).length = x.length - k := by
    show ((x.cps.toList.drop _).take _).toArray.size = x.length - k
    rw [List.size_toArray, HT.sIx_none, HT.sIx_nat, Nat.min_eq_left hk, List.length_take, List.length_drop, ← e1, Nat.min_self]
  omega
theorem namesL_ok {stem : Str} {at_ : Int} {js : List Nat} (hs : Low stem) (hl : stem.length ≤ 5) (h0 : 0 ≤ at_) (h1 : at_ ≤ stem.length) (hj : ∀ j ∈ js, j < 26) : ∀ x ∈ namesL stem at_ js, Nme x := by
  intro x hx
  obtain ⟨j, hj', rfl⟩ := List.mem_map.mp hx
  have e := cut2_len stem h0 h1
  have e2 : (L2.cutS stem none (some at_) ++ ltr j ++ L2.cutS stem (some at_) none).length = stem.length + 1 := by
    rw [strLen, strLen, ltr_len]; omega
  exact ⟨((hs.cut _ _).app (ltr_low (hj j hj'))).app (hs.cut _ _), by omega, by omega⟩
/-- a list of names as it is drawn: unlike, rising -/
structure NamesOk (m : Nat) (xs : List Str) : Prop where
  len : xs.length = m
  nme : ∀ x ∈ xs, Nme x
  ris : xs.Pairwise fun a b => ltS a b = true
theorem leap_nodup {first leap : Int} (hl : leap = 1 ∨ leap = 3 ∨ leap = 5 ∨ leap = 7 ∨ leap = 9 ∨ leap = 11) {m : Nat} (hm : m ≤ 26) : ((List.range m).map fun (k : Nat) => ((first + leap * (k : Int)) % 26).toNat).Nodup := by
  refine List.Pairwise.map _ (S := fun a b => a ≠ b) ?_ (List.Pairwise.imp_of_mem ?_ (List.nodup_range (n := m)) (S := fun a b : Nat => a < 26 ∧ b < 26 ∧ a ≠ b))
  · rintro a b ⟨ha, hb, hne⟩ e
    have e2 : (first + leap * (a : Int)) % 26 = (first + leap * (b : Int)) % 26 := by
      have h1 := Int.emod_nonneg (first + leap * (a : Int)) (by decide : (26 : Int) ≠ 0)
      have h2 := Int.emod_nonneg (first + leap * (b : Int)) (by decide : (26 : Int) ≠ 0)
      omega
    rcases hl with rfl | rfl | rfl | rfl | rfl | rfl <;> omega
  · intro a b ha hb hne
    rw [List.mem_range] at ha hb
    exact ⟨by omega, by omega, hne⟩
theorem list_chars {st : Store} {x : Str} (h : x.length ≤ sizeLine) : biList false st (so x) = .ok (.py (.list (x.cps.toList.map fun c => .str ⟨#[c]⟩))) st := by
  have e : (x.cps.toList.map fun c => so ⟨#[c]⟩) = (x.cps.toList.map fun c => PyData.str ⟨#[c]⟩).map D.py := by rw [List.map_map]; rfl
  simp only [biList]
  rw [if_pos h, e]
  simp only [newL, allPy_map, Option.map_some, giveS_some]
def LowC (q : PyData) : Prop := ∃ c, 97 ≤ c ∧ c ≤ 122 ∧ q = .str ⟨#[c]⟩
theorem join_low {st : Store} {qs : List PyData} (h : ∀ q ∈ qs, LowC q) (hz : qs.length ≤ 1000) : ∃ x, mtJoin st (so "") (.py (.list qs)) = .ok (so x) st ∧ Low x ∧ x.length = qs.length := by
  obtain ⟨ys, e1, rfl⟩ := asStrs_of fun q hq => let ⟨c, _, _, e⟩ := h q hq; ⟨_, e⟩
  have h' : ∀ y ∈ ys, Low y ∧ y.length = 1 := fun y hy => by
    obtain ⟨c, c1, c2, e⟩ := h (.str y) (List.mem_map_of_mem hy)
    cases e
    exact ⟨fun d hd => by rw [List.mem_singleton.mp (show d ∈ [c] from hd)]; exact ⟨c1, c2⟩, rfl⟩
  have hl : (ys.map (·.length)).sum = ys.length := by
    clear e1 h hz
    induction ys with
    | nil => rfl
    | cons y ys ih => rw [List.map_cons, List.sum_cons, List.length_cons, (h' y (List.mem_cons_self ..)).2, ih fun z hz => h' z (List.mem_cons_of_mem _ hz)]; omega
  rw [List.length_map] at hz ⊢
  have hs : lstS st (.py (.list (ys.map .str))) = some ys := by simp only [lstS, asLT, asT, asL, Option.bind_some, allPy_map, e1]
  refine ⟨Txt.join "" ys, ?_, fun c hc => ?_, by rw [join_len, hl]⟩
  · have e0 : ("" : Str).length = 0 := by decide +kernel
    simp only [mtJoin, hs, e0, Nat.mul_zero, Nat.add_zero, hl]
    rw [if_pos (by omega)]
  · rw [glue_nil, List.mem_flatten] at hc
    obtain ⟨l, hl, hc⟩ := hc
    obtain ⟨y, hy, rfl⟩ := List.mem_map.mp hl
    exact (h' y hy).1 c hc
theorem letters_ev {Φ : Nat → Fn} {t o : Nat} {m first leap : Int} {e0 e2 e3 e4 e7 e8 : Option D} {st : Store} (h1 : 1 ≤ m) (h2 : m ≤ 26) (h3 : 1 ≤ leap) (h4 : leap ≤ 11) : ev Φ (gl2_law_names t o) [e0, some (io m), e2, e3, e4, some (io first), some (io leap), e7, e8] st =
    .ok (.py (.list ((List.range m.toNat).map fun (k : Nat) => .str (ltr ((first + leap * (k : Int)) % 26).toNat)))) st := by
  unfold gl2_law_names
  have hs : srcs Φ (.rng (.cons (.var 1) (.nil))) [e0, some (io m), e2, e3, e4, some (io first), some (io leap), e7, e8] st = .ok { its := rngI 0 m.toNat } st := by
    refine Gv.val ?_
    simp only [exec, ev, evs, tst, srcs, GS_seq, GS_thn, GS_nx, GS_bk, GS_ct, GS_rt, Gv_bind, Gv_ok, Gv_give, Gv_nox, Gv_req, GS_req, R.bind_ok, R.thn_ok, RS.thn_nx, giveS_some, start, List.map_cons, List.map_nil, List.length_cons, List.length_nil, List.cons_append, List.nil_append, List.append_nil, List.replicate_succ, List.replicate_zero, Nat.reduceAdd, Nat.reduceSub, env_z, env_s, dl_z, dl_s, selO, set_z, set_s, asg, Option.some.injEq, exists_eq_left', bi1, bi0, isAbs, WW.wipe, setAll, if_true, if_false, Bool.false_eq_true, reduceIte, biO, mtO, pre_upper, pre_join, Option.map_some, Option.bind_some, exists_eq_left, and_true, true_and, c_lt, c_le, c_gt, c_ge, t_bool, t_int, b_add, b_sub, b_mul, b_div, b_mod, GS_ost, p_int, newL_t, newL_f, allPy_cons, allPy_nil, allPy_map, slc_tup, sset_z, sset_s, sto_z, sto_s, mkT, sizeBig, Nat.reduceLeDiff, Int.reduceLT, Int.reduceLE, decide_true, decide_false, ↓reduceIte, tyOk, subTy, List.all_cons, List.all_nil, List.any_cons, List.any_nil, beq_self_eq_true, Bool.true_or, Bool.or_false, Bool.false_or, Bool.and_true, Bool.true_and, Bool.or_true, String.reduceBEq, Bool.and_false, Bool.false_and]
    exact ⟨_, rng_its (by omega) (by omega), rfl⟩
  rw [lc_val hs rfl (still_nil _) (fun d => match d with | .py (.int i) => .str (ltr ((first + leap * i) % 26).toNat) | _ => .none) (by rw [rngI_len]; exact sizeBig (by omega)) fun x hx => ?_]
  · show R.ok (D.py (PyData.list ((rngI 0 m.toNat).map _))) st = _
    unfold rngI
    rw [List.map_map]
    congr 4
    funext k
    simp only [Function.comp, Int.zero_add]
  · obtain ⟨i, hi, rfl⟩ := List.mem_map.mp (show x ∈ (List.range m.toNat).map fun (i : Nat) => io (0 + (i : Int)) from hx)
    rw [List.mem_range] at hi
    refine ⟨_, rfl, ?_⟩
    refine Gv.val ?_
    have hm : mulOk leap (0 + (i : Int)) = true := by
      exact mulOk_of_lt (a := 4) (b := 5) (by omega) (by omega) (by decide) (by decide) (by decide)
    simp only [hm, exec, ev, evs, tst, srcs, GS_seq, GS_thn, GS_nx, GS_bk, GS_ct, GS_rt, Gv_bind, Gv_ok, Gv_give, Gv_nox, Gv_req, GS_req, R.bind_ok, R.thn_ok, RS.thn_nx, giveS_some, start, List.map_cons, List.map_nil, List.length_cons, List.length_nil, List.cons_append, List.nil_append, List.append_nil, List.replicate_succ, List.replicate_zero, Nat.reduceAdd, Nat.reduceSub, env_z, env_s, dl_z, dl_s, selO, set_z, set_s, asg, Option.some.injEq, exists_eq_left', bi1, bi0, isAbs, WW.wipe, setAll, if_true, if_false, Bool.false_eq_true, reduceIte, biO, mtO, pre_upper, pre_join, Option.map_some, Option.bind_some, exists_eq_left, and_true, true_and, c_lt, c_le, c_gt, c_ge, t_bool, t_int, b_add, b_sub, b_mul, b_div, b_mod, GS_ost, p_int, newL_t, newL_f, allPy_cons, allPy_nil, allPy_map, slc_tup, sset_z, sset_s, sto_z, sto_s, mkT, sizeBig, Nat.reduceLeDiff, Int.reduceLT, Int.reduceLE, decide_true, decide_false, ↓reduceIte, tyOk, subTy, List.all_cons, List.all_nil, List.any_cons, List.any_nil, beq_self_eq_true, Bool.true_or, Bool.or_false, Bool.false_or, Bool.and_true, Bool.true_and, Bool.or_true, String.reduceBEq, Bool.and_false, Bool.false_and]
    refine ⟨_, abc_idx (Int.emod_nonneg _ (by decide)) (Int.emod_lt_of_pos _ (by decide)), rfl⟩
theorem stems_ev {Φ : Nat → Fn} {t o : Nat} {x : Str} {at_ : Int} {js : List Nat} {e0 e1 e5 e6 e7 e8 : Option D} {st : Store} (hx : x.length ≤ 5) (h0 : 0 ≤ at_) (h1 : at_ ≤ x.length) (hj : js.length ≤ 26) :
    ev Φ (gl1_law_names t o) [e0, e1, some (so x), some (.py (.list (js.map fun j => .str (ltr j)))), some (io at_), e5, e6, e7, e8] st = .ok (.py (.list ((namesL x at_ js).map .str))) st := by
  unfold gl1_law_names
  have hs : srcs Φ (.seq (.var 3)) [e0, e1, some (so x), some (.py (.list (js.map fun j => .str (ltr j)))), some (io at_), e5, e6, e7, e8] st = .ok { its := (js.map fun j => PyData.str (ltr j)).map .py } st := by
    refine Gv.val ?_
    simp only [exec, ev, evs, tst, srcs, GS_seq, GS_thn, GS_nx, GS_bk, GS_ct, GS_rt, Gv_bind, Gv_ok, Gv_give, Gv_nox, Gv_req, GS_req, R.bind_ok, R.thn_ok, RS.thn_nx, giveS_some, start, List.map_cons, List.map_nil, List.length_cons, List.length_nil, List.cons_append, List.nil_append, List.append_nil, List.replicate_succ, List.replicate_zero, Nat.reduceAdd, Nat.reduceSub, env_z, env_s, dl_z, dl_s, selO, set_z, set_s, asg, Option.some.injEq, exists_eq_left', bi1, bi0, isAbs, WW.wipe, setAll, if_true, if_false, Bool.false_eq_true, reduceIte, biO, mtO, pre_upper, pre_join, Option.map_some, Option.bind_some, exists_eq_left, and_true, true_and, c_lt, c_le, c_gt, c_ge, t_bool, t_int, b_add, b_sub, b_mul, b_div, b_mod, GS_ost, p_int, newL_t, newL_f, allPy_cons, allPy_nil, allPy_map, slc_tup, sset_z, sset_s, sto_z, sto_s, mkT, sizeBig, Nat.reduceLeDiff, Int.reduceLT, Int.reduceLE, decide_true, decide_false, ↓reduceIte, tyOk, subTy, List.all_cons, List.all_nil, List.any_cons, List.any_nil, beq_self_eq_true, Bool.true_or, Bool.or_false, Bool.false_or, Bool.and_true, Bool.true_and, Bool.or_true, String.reduceBEq, Bool.and_false, Bool.false_and]
    exact ⟨_, rfl, rfl⟩
  rw [lc_val hs rfl (still_nil _) (fun d => match d with | .py (.str z) => .str (L2.cutS x none (some at_) ++ z ++ L2.cutS x (some at_) none) | _ => .none) (by rw [List.length_map, List.length_map]; exact sizeBig (by omega)) fun y hy => ?_]
  · simp only [namesL, List.map_map]
    rfl
  · rw [List.map_map] at hy
    obtain ⟨j, hj, hyj⟩ := List.mem_map.mp hy
    obtain rfl : so (ltr j) = y := hyj
    refine ⟨_, rfl, ?_⟩
    refine Gv.val ?_
    have e := cut2_len x h0 h1
    have hx' : x.length ≤ sizeLine := sizeBig (by omega)
    have hc := @cat_ok
    simp only [slc_str hx', exec, ev, evs, tst, srcs, GS_seq, GS_thn, GS_nx, GS_bk, GS_ct, GS_rt, Gv_bind, Gv_ok, Gv_give, Gv_nox, Gv_req, GS_req, R.bind_ok, R.thn_ok, RS.thn_nx, giveS_some, start, List.map_cons, List.map_nil, List.length_cons, List.length_nil, List.cons_append, List.nil_append, List.append_nil, List.replicate_succ, List.replicate_zero, Nat.reduceAdd, Nat.reduceSub, env_z, env_s, dl_z, dl_s, selO, set_z, set_s, asg, Option.some.injEq, exists_eq_left', bi1, bi0, isAbs, WW.wipe, setAll, if_true, if_false, Bool.false_eq_true, reduceIte, biO, mtO, pre_upper, pre_join, Option.map_some, Option.bind_some, exists_eq_left, and_true, true_and, c_lt, c_le, c_gt, c_ge, t_bool, t_int, b_add, b_sub, b_mul, b_div, b_mod, GS_ost, p_int, newL_t, newL_f, allPy_cons, allPy_nil, allPy_map, slc_tup, sset_z, sset_s, sto_z, sto_s, mkT, sizeBig, Nat.reduceLeDiff, Int.reduceLT, Int.reduceLE, decide_true, decide_false, ↓reduceIte, tyOk, subTy, List.all_cons, List.all_nil, List.any_cons, List.any_nil, beq_self_eq_true, Bool.true_or, Bool.or_false, Bool.false_or, Bool.and_true, Bool.true_and, Bool.or_true, String.reduceBEq, Bool.and_false, Bool.false_and]
    rw [cat_ok (by rw [ltr_len]; omega)]
    simp only [exec, ev, evs, tst, srcs, GS_seq, GS_thn, GS_nx, GS_bk, GS_ct, GS_rt, Gv_bind, Gv_ok, Gv_give, Gv_nox, Gv_req, GS_req, R.bind_ok, R.thn_ok, RS.thn_nx, giveS_some, start, List.map_cons, List.map_nil, List.length_cons, List.length_nil, List.cons_append, List.nil_append, List.append_nil, List.replicate_succ, List.replicate_zero, Nat.reduceAdd, Nat.reduceSub, env_z, env_s, dl_z, dl_s, selO, set_z, set_s, asg, Option.some.injEq, exists_eq_left', bi1, bi0, isAbs, WW.wipe, setAll, if_true, if_false, Bool.false_eq_true, reduceIte, biO, mtO, pre_upper, pre_join, Option.map_some, Option.bind_some, exists_eq_left, and_true, true_and, c_lt, c_le, c_gt, c_ge, t_bool, t_int, b_add, b_sub, b_mul, b_div, b_mod, GS_ost, p_int, newL_t, newL_f, allPy_cons, allPy_nil, allPy_map, slc_tup, sset_z, sset_s, sto_z, sto_s, mkT, sizeBig, Nat.reduceLeDiff, Int.reduceLT, Int.reduceLE, decide_true, decide_false, ↓reduceIte, tyOk, subTy, List.all_cons, List.all_nil, List.any_cons, List.any_nil, beq_self_eq_true, Bool.true_or, Bool.or_false, Bool.false_or, Bool.and_true, Bool.true_and, Bool.or_true, String.reduceBEq, Bool.and_false, Bool.false_and]
    rw [cat_ok (by rw [strLen, ltr_len]; omega)]
    simp only [exec, ev, evs, tst, srcs, GS_seq, GS_thn, GS_nx, GS_bk, GS_ct, GS_rt, Gv_bind, Gv_ok, Gv_give, Gv_nox, Gv_req, GS_req, R.bind_ok, R.thn_ok, RS.thn_nx, giveS_some, start, List.map_cons, List.map_nil, List.length_cons, List.length_nil, List.cons_append, List.nil_append, List.append_nil, List.replicate_succ, List.replicate_zero, Nat.reduceAdd, Nat.reduceSub, env_z, env_s, dl_z, dl_s, selO, set_z, set_s, asg, Option.some.injEq, exists_eq_left', bi1, bi0, isAbs, WW.wipe, setAll, if_true, if_false, Bool.false_eq_true, reduceIte, biO, mtO, pre_upper, pre_join, Option.map_some, Option.bind_some, exists_eq_left, and_true, true_and, c_lt, c_le, c_gt, c_ge, t_bool, t_int, b_add, b_sub, b_mul, b_div, b_mod, GS_ost, p_int, newL_t, newL_f, allPy_cons, allPy_nil, allPy_map, slc_tup, sset_z, sset_s, sto_z, sto_s, mkT, sizeBig, Nat.reduceLeDiff, Int.reduceLT, Int.reduceLE, decide_true, decide_false, ↓reduceIte, tyOk, subTy, List.all_cons, List.all_nil, List.any_cons, List.any_nil, beq_self_eq_true, Bool.true_or, Bool.or_false, Bool.false_or, Bool.and_true, Bool.true_and, Bool.or_true, String.reduceBEq, Bool.and_false, Bool.false_and]
theorem asT_py {ds : List PyData} : asT (.py (.tuple ds)) = some (ds.map .py) := rfl
theorem names_draw {Φ : Nat → Fn} {t o : Nat} (d : Dr Φ t o) {m : Int} (h1 : 1 ≤ m) (h2 : m ≤ 26) : DrawF (run Φ (gc_law_names t o)) [.int m] fun p => ∃ xs, p = .list (xs.map .str) ∧ NamesOk m.toNat xs := ⟨fun a b hp => by
  refine run_gv rfl ?_
  unfold gc_law_names
  simp only [exec, ev, evs, tst, srcs, GS_seq, GS_thn, GS_nx, GS_bk, GS_ct, GS_rt, Gv_bind, Gv_ok, Gv_give, Gv_nox, Gv_req, GS_req, R.bind_ok, R.thn_ok, RS.thn_nx, giveS_some, start, List.map_cons, List.map_nil, List.length_cons, List.length_nil, List.cons_append, List.nil_append, List.append_nil, List.replicate_succ, List.replicate_zero, Nat.reduceAdd, Nat.reduceSub, env_z, env_s, dl_z, dl_s, selO, set_z, set_s, asg, Option.some.injEq, exists_eq_left', bi1, bi0, isAbs, WW.wipe, setAll, if_true, if_false, Bool.false_eq_true, reduceIte, biO, mtO, pre_upper, pre_join, Option.map_some, Option.bind_some, exists_eq_left, and_true, true_and, c_lt, c_le, c_gt, c_ge, t_bool, t_int, b_add, b_sub, b_mul, b_div, b_mod, GS_ost, p_int, newL_t, newL_f, allPy_cons, allPy_nil, allPy_map, slc_tup, sset_z, sset_s, sto_z, sto_s, mkT, sizeBig, Nat.reduceLeDiff, Int.reduceLT, Int.reduceLE, decide_true, decide_false, ↓reduceIte, tyOk, subTy, List.all_cons, List.all_nil, List.any_cons, List.any_nil, beq_self_eq_true, Bool.true_or, Bool.or_false, Bool.false_or, Bool.and_true, Bool.true_and, Bool.or_true, String.reduceBEq, Bool.and_false, Bool.false_and]
  unfold gl3_law_names
  refine lc_draw (n := 0) (st0 := [.lst [io a, io b]]) (Q := LowC) (R := fun l => l ≤ 5) ?_ fun qs st1 k1 k2 k3 => ?_
  · simp only [exec, ev, evs, tst, srcs, GS_seq, GS_thn, GS_nx, GS_bk, GS_ct, GS_rt, Gv_bind, Gv_ok, Gv_give, Gv_nox, Gv_req, GS_req, R.bind_ok, R.thn_ok, RS.thn_nx, giveS_some, start, List.map_cons, List.map_nil, List.length_cons, List.length_nil, List.cons_append, List.nil_append, List.append_nil, List.replicate_succ, List.replicate_zero, Nat.reduceAdd, Nat.reduceSub, env_z, env_s, dl_z, dl_s, selO, set_z, set_s, asg, Option.some.injEq, exists_eq_left', bi1, bi0, isAbs, WW.wipe, setAll, if_true, if_false, Bool.false_eq_true, reduceIte, biO, mtO, pre_upper, pre_join, Option.map_some, Option.bind_some, exists_eq_left, and_true, true_and, c_lt, c_le, c_gt, c_ge, t_bool, t_int, b_add, b_sub, b_mul, b_div, b_mod, GS_ost, p_int, newL_t, newL_f, allPy_cons, allPy_nil, allPy_map, slc_tup, sset_z, sset_s, sto_z, sto_s, mkT, sizeBig, Nat.reduceLeDiff, Int.reduceLT, Int.reduceLE, decide_true, decide_false, ↓reduceIte, tyOk, subTy, List.all_cons, List.all_nil, List.any_cons, List.any_nil, beq_self_eq_true, Bool.true_or, Bool.or_false, Bool.false_or, Bool.and_true, Bool.true_and, Bool.or_true, String.reduceBEq, Bool.and_false, Bool.false_and]
    refine g_take d.t rfl hp (by decide) (by decide) fun r a' b' r0 r1 hp2 => ?_
    refine ⟨_, rng_its r0 (by omega), rfl, rfl, ?_, ?_, ⟨a', b', hp2, rfl⟩, fun x hx st2 h => ?_⟩
    · rw [rngI_len]; exact sizeBig (by omega)
    · show (rngI 0 r.toNat).length ≤ 5
      rw [rngI_len]; omega
    · obtain ⟨a2, b2, g1, g2⟩ := h.get (by simp)
      have hz : ("abcxyz" : Str).length ≤ sizeLine := sizeBig (by decide +kernel)
      simp only [list_chars hz, exec, ev, evs, tst, srcs, GS_seq, GS_thn, GS_nx, GS_bk, GS_ct, GS_rt, Gv_bind, Gv_ok, Gv_give, Gv_nox, Gv_req, GS_req, R.bind_ok, R.thn_ok, RS.thn_nx, giveS_some, start, List.map_cons, List.map_nil, List.length_cons, List.length_nil, List.cons_append, List.nil_append, List.append_nil, List.replicate_succ, List.replicate_zero, Nat.reduceAdd, Nat.reduceSub, env_z, env_s, dl_z, dl_s, selO, set_z, set_s, asg, Option.some.injEq, exists_eq_left', bi1, bi0, isAbs, WW.wipe, setAll, if_true, if_false, Bool.false_eq_true, reduceIte, biO, mtO, pre_upper, pre_join, Option.map_some, Option.bind_some, exists_eq_left, and_true, true_and, c_lt, c_le, c_gt, c_ge, t_bool, t_int, b_add, b_sub, b_mul, b_div, b_mod, GS_ost, p_int, newL_t, newL_f, allPy_cons, allPy_nil, allPy_map, slc_tup, sset_z, sset_s, sto_z, sto_s, mkT, sizeBig, Nat.reduceLeDiff, Int.reduceLT, Int.reduceLE, decide_true, decide_false, ↓reduceIte, tyOk, subTy, List.all_cons, List.all_nil, List.any_cons, List.any_nil, beq_self_eq_true, Bool.true_or, Bool.or_false, Bool.false_or, Bool.and_true, Bool.true_and, Bool.or_true, String.reduceBEq, Bool.and_false, Bool.false_and]
      refine g_of d.o g2 g1 (drawnL (Q := LowC) (by rw [List.length_map]; decide +kernel) (by rw [List.length_map, Array.length_toList]; exact hz) fun q hq => ?_) fun x a3 b3 hx hp3 => ⟨x, rfl, hx, h.put hp3⟩
      obtain ⟨c, hc, rfl⟩ := List.mem_map.mp hq
      have : ∀ c ∈ ("abcxyz" : Str).cps.toList, 97 ≤ c ∧ c ≤ 122 := by decide +kernel
      exact ⟨c, (this c hc).1, (this c hc).2, rfl⟩
  · obtain ⟨x, e, x1, x2⟩ := join_low (st := st1) k1 (by omega)
    obtain ⟨a', b', g1, rfl⟩ := k3
    have hxz : x.length ≤ sizeLine := sizeBig (by omega)
    have hl := len_str (st := [.lst [io a', io b']]) hxz
    have e' : mtJoin [.lst [io a', io b']] (so "") (.py (.list qs)) = .ok (so x) [.lst [io a', io b']] := e
    simp only [e', hl, exec, ev, evs, tst, srcs, GS_seq, GS_thn, GS_nx, GS_bk, GS_ct, GS_rt, Gv_bind, Gv_ok, Gv_give, Gv_nox, Gv_req, GS_req, R.bind_ok, R.thn_ok, RS.thn_nx, giveS_some, start, List.map_cons, List.map_nil, List.length_cons, List.length_nil, List.cons_append, List.nil_append, List.append_nil, List.replicate_succ, List.replicate_zero, Nat.reduceAdd, Nat.reduceSub, env_z, env_s, dl_z, dl_s, selO, set_z, set_s, asg, Option.some.injEq, exists_eq_left', bi1, bi0, isAbs, WW.wipe, setAll, if_true, if_false, Bool.false_eq_true, reduceIte, biO, mtO, pre_upper, pre_join, Option.map_some, Option.bind_some, exists_eq_left, and_true, true_and, c_lt, c_le, c_gt, c_ge, t_bool, t_int, b_add, b_sub, b_mul, b_div, b_mod, GS_ost, p_int, newL_t, newL_f, allPy_cons, allPy_nil, allPy_map, slc_tup, sset_z, sset_s, sto_z, sto_s, mkT, sizeBig, Nat.reduceLeDiff, Int.reduceLT, Int.reduceLE, decide_true, decide_false, ↓reduceIte, tyOk, subTy, List.all_cons, List.all_nil, List.any_cons, List.any_nil, beq_self_eq_true, Bool.true_or, Bool.or_false, Bool.false_or, Bool.and_true, Bool.true_and, Bool.or_true, String.reduceBEq, Bool.and_false, Bool.false_and]
    refine g_take d.t rfl g1 (by omega) (by omega) fun at_ a2 b2 t0 t1 g2 => ?_
    refine g_take d.t rfl g2 (by decide) (by decide) fun first a3 b3 f0 f1 g3 => ?_
    refine g_of d.o rfl g3 (drawnL (Q := fun q => ∃ r : Int, q = .int r ∧ (r = 1 ∨ r = 3 ∨ r = 5 ∨ r = 7 ∨ r = 9 ∨ r = 11)) (by simp) (sizeBig (by simp)) ?_) fun y a4 b4 ⟨leap, ey, hleap⟩ g4 => ?_
    · intro q hq
      simp only [List.mem_cons, List.not_mem_nil, or_false] at hq
      rcases hq with rfl | rfl | rfl | rfl | rfl | rfl <;> exact ⟨_, rfl, by simp⟩
    subst ey
    simp only [asT_py, asgs, exec, ev, evs, tst, srcs, GS_seq, GS_thn, GS_nx, GS_bk, GS_ct, GS_rt, Gv_bind, Gv_ok, Gv_give, Gv_nox, Gv_req, GS_req, R.bind_ok, R.thn_ok, RS.thn_nx, giveS_some, start, List.map_cons, List.map_nil, List.length_cons, List.length_nil, List.cons_append, List.nil_append, List.append_nil, List.replicate_succ, List.replicate_zero, Nat.reduceAdd, Nat.reduceSub, env_z, env_s, dl_z, dl_s, selO, set_z, set_s, asg, Option.some.injEq, exists_eq_left', bi1, bi0, isAbs, WW.wipe, setAll, if_true, if_false, Bool.false_eq_true, reduceIte, biO, mtO, pre_upper, pre_join, Option.map_some, Option.bind_some, exists_eq_left, and_true, true_and, c_lt, c_le, c_gt, c_ge, t_bool, t_int, b_add, b_sub, b_mul, b_div, b_mod, GS_ost, p_int, newL_t, newL_f, allPy_cons, allPy_nil, allPy_map, slc_tup, sset_z, sset_s, sto_z, sto_s, mkT, sizeBig, Nat.reduceLeDiff, Int.reduceLT, Int.reduceLE, decide_true, decide_false, ↓reduceIte, tyOk, subTy, List.all_cons, List.all_nil, List.any_cons, List.any_nil, beq_self_eq_true, Bool.true_or, Bool.or_false, Bool.false_or, Bool.and_true, Bool.true_and, Bool.or_true, String.reduceBEq, Bool.and_false, Bool.false_and]
    rw [letters_ev h1 h2 (by omega) (by omega)]
    simp only [exec, ev, evs, tst, srcs, GS_seq, GS_thn, GS_nx, GS_bk, GS_ct, GS_rt, Gv_bind, Gv_ok, Gv_give, Gv_nox, Gv_req, GS_req, R.bind_ok, R.thn_ok, RS.thn_nx, giveS_some, start, List.map_cons, List.map_nil, List.length_cons, List.length_nil, List.cons_append, List.nil_append, List.append_nil, List.replicate_succ, List.replicate_zero, Nat.reduceAdd, Nat.reduceSub, env_z, env_s, dl_z, dl_s, selO, set_z, set_s, asg, Option.some.injEq, exists_eq_left', bi1, bi0, isAbs, WW.wipe, setAll, if_true, if_false, Bool.false_eq_true, reduceIte, biO, mtO, pre_upper, pre_join, Option.map_some, Option.bind_some, exists_eq_left, and_true, true_and, c_lt, c_le, c_gt, c_ge, t_bool, t_int, b_add, b_sub, b_mul, b_div, b_mod, GS_ost, p_int, newL_t, newL_f, allPy_cons, allPy_nil, allPy_map, slc_tup, sset_z, sset_s, sto_z, sto_s, mkT, sizeBig, Nat.reduceLeDiff, Int.reduceLT, Int.reduceLE, decide_true, decide_false, ↓reduceIte, tyOk, subTy, List.all_cons, List.all_nil, List.any_cons, List.any_nil, beq_self_eq_true, Bool.true_or, Bool.or_false, Bool.false_or, Bool.and_true, Bool.true_and, Bool.or_true, String.reduceBEq, Bool.and_false, Bool.false_and]
    have hj : ((List.range m.toNat).map fun (k : Nat) => ((first + leap * (k : Int)) % 26).toNat).length ≤ 26 := by rw [List.length_map, List.length_range]; omega
    have e2 : ((List.range m.toNat).map fun (k : Nat) => PyData.str (ltr ((first + leap * (k : Int)) % 26).toNat)) = ((List.range m.toNat).map fun (k : Nat) => ((first + leap * (k : Int)) % 26).toNat).map fun j => .str (ltr j) := by rw [List.map_map]; rfl
    rw [e2, stems_ev (by omega) t0 (by omega) hj]
    simp only [exec, ev, evs, tst, srcs, GS_seq, GS_thn, GS_nx, GS_bk, GS_ct, GS_rt, Gv_bind, Gv_ok, Gv_give, Gv_nox, Gv_req, GS_req, R.bind_ok, R.thn_ok, RS.thn_nx, giveS_some, start, List.map_cons, List.map_nil, List.length_cons, List.length_nil, List.cons_append, List.nil_append, List.append_nil, List.replicate_succ, List.replicate_zero, Nat.reduceAdd, Nat.reduceSub, env_z, env_s, dl_z, dl_s, selO, set_z, set_s, asg, Option.some.injEq, exists_eq_left', bi1, bi0, isAbs, WW.wipe, setAll, if_true, if_false, Bool.false_eq_true, reduceIte, biO, mtO, pre_upper, pre_join, Option.map_some, Option.bind_some, exists_eq_left, and_true, true_and, c_lt, c_le, c_gt, c_ge, t_bool, t_int, b_add, b_sub, b_mul, b_div, b_mod, GS_ost, p_int, newL_t, newL_f, allPy_cons, allPy_nil, allPy_map, slc_tup, sset_z, sset_s, sto_z, sto_s, mkT, sizeBig, Nat.reduceLeDiff, Int.reduceLT, Int.reduceLE, decide_true, decide_false, ↓reduceIte, tyOk, subTy, List.all_cons, List.all_nil, List.any_cons, List.any_nil, beq_self_eq_true, Bool.true_or, Bool.or_false, Bool.false_or, Bool.and_true, Bool.true_and, Bool.or_true, String.reduceBEq, Bool.and_false, Bool.false_and]
    generalize hjs : ((List.range m.toNat).map fun (k : Nat) => ((first + leap * (k : Int)) % 26).toNat) = js at *
    have hl : js.length = m.toNat := by rw [← hjs, List.length_map, List.length_range]
    have hlt : ∀ j ∈ js, j < 26 := fun j hj => by
      rw [← hjs] at hj
      obtain ⟨k, _, rfl⟩ := List.mem_map.mp hj
      have h1 := Int.emod_lt_of_pos (first + leap * (k : Int)) (by decide : (0 : Int) < 26)
      have h2 := Int.emod_nonneg (first + leap * (k : Int)) (by decide : (26 : Int) ≠ 0)
      omega
    have hN : (namesL x at_ js).length = m.toNat := by unfold namesL; rw [List.length_map, hl]
    rw [sorted_strs (fun e => by rw [e] at hN; simp at hN; omega) (by omega)]
    simp only [exec, ev, evs, tst, srcs, GS_seq, GS_thn, GS_nx, GS_bk, GS_ct, GS_rt, Gv_bind, Gv_ok, Gv_give, Gv_nox, Gv_req, GS_req, R.bind_ok, R.thn_ok, RS.thn_nx, giveS_some, start, List.map_cons, List.map_nil, List.length_cons, List.length_nil, List.cons_append, List.nil_append, List.append_nil, List.replicate_succ, List.replicate_zero, Nat.reduceAdd, Nat.reduceSub, env_z, env_s, dl_z, dl_s, selO, set_z, set_s, asg, Option.some.injEq, exists_eq_left', bi1, bi0, isAbs, WW.wipe, setAll, if_true, if_false, Bool.false_eq_true, reduceIte, biO, mtO, pre_upper, pre_join, Option.map_some, Option.bind_some, exists_eq_left, and_true, true_and, c_lt, c_le, c_gt, c_ge, t_bool, t_int, b_add, b_sub, b_mul, b_div, b_mod, GS_ost, p_int, newL_t, newL_f, allPy_cons, allPy_nil, allPy_map, slc_tup, sset_z, sset_s, sto_z, sto_s, mkT, sizeBig, Nat.reduceLeDiff, Int.reduceLT, Int.reduceLE, decide_true, decide_false, ↓reduceIte, tyOk, subTy, List.all_cons, List.all_nil, List.any_cons, List.any_nil, beq_self_eq_true, Bool.true_or, Bool.or_false, Bool.false_or, Bool.and_true, Bool.true_and, Bool.or_true, String.reduceBEq, Bool.and_false, Bool.false_and]
    refine ⟨_, rfl, ⟨_, rfl, ⟨by rw [ssort_len, hN], fun y hy => namesL_ok x1 (by omega) t0 (by omega) hlt y (mem_ssort.mp hy), ssort_strict (namesL_nodup ?_)⟩⟩, a4, b4, g4, rfl⟩
    rw [← hjs]
    exact leap_nodup hleap (by omega)⟩
end WW

namespace WW
open PySem PySem.Spec
/-! ### webs as they are drawn -/
structure Po where
  c : Int
  nm : Str
  arms : List Int
def Po.py (p : Po) : PyData := .tuple [.int p.c, .str p.nm, .tuple (p.arms.map .int)]
def webP (n : Int) (ps : List Po) : PyData := .tuple [.int n, .tuple (ps.map Po.py)]
def poLt (a b : Po) : Prop := a.c < b.c ∨ (a.c = b.c ∧ ltS a.nm b.nm = true)
structure PoOk (n : Int) (names : List Str) (most : Nat) (p : Po) : Prop where
  c0 : 0 ≤ p.c
  c1 : p.c < n
  nm : p.nm ∈ names
  ne : p.arms ≠ []
  len : p.arms.length ≤ most
  ris : p.arms.Pairwise (· < ·)
  rng : ∀ a ∈ p.arms, 0 ≤ a ∧ a < n
structure WebOk (n : Int) (names : List Str) (most : Nat) (ps : List Po) : Prop where
  all : ∀ p ∈ ps, PoOk n names most p
  ris : ps.Pairwise poLt
  len : ps.length ≤ n.toNat * names.length
/-! a dict whose keys are ints, all True -/
def trues (ks : List Int) : List (Key × D) := ks.map fun k => (.inl k, bo true)
theorem put_trues (ks : List Int) (k : Int) : put (trues ks) (.inl k) (bo true) = trues (if k ∈ ks then ks else ks ++ [k]) := by
  unfold put
  have e : ((trues ks).any fun kv => decide (kv.1 = .inl k)) = decide (k ∈ ks) := by
    unfold trues
    rw [List.any_map]
    induction ks with
    | nil => rfl
    | cons x ks ih =>
      rw [List.any_cons, ih, Function.comp]
      by_cases h : x = k
      · subst h; simp
      · have h2 : ¬ (Sum.inl x : Key) = .inl k := fun z => h (by injection z)
        have h3 : ¬ k = x := fun z => h z.symm
        simp [h2, h3]
  rw [e]
  by_cases h : k ∈ ks
  · rw [if_pos (decide_eq_true h), if_pos h]
    unfold trues
    rw [List.map_map]
    apply List.map_congr_left
    intro x _
    simp only [Function.comp]
    split <;> rfl
  · rw [if_neg (by rw [decide_eq_false h]; simp), if_neg h]
    simp [trues]
theorem keys_trues (ks : List Int) : (trues ks).map (·.1) = ks.map Sum.inl := by unfold trues; rw [List.map_map]; rfl
theorem keysI_inl (ks : List Int) : keysI (ks.map Sum.inl) = some ks := by
  induction ks with
  | nil => rfl
  | cons k ks ih => rw [List.map_cons, keysI, ih]; rfl
theorem set_trues {st : Store} {n : Nat} {ks : List Int} {k : Int} (h : st[n]? = some (.dK (trues ks))) (hl : ks.length < sizeLine) : setO st (.loc n) (io k) (bo true) = some (st.set n (.dK (trues (if k ∈ ks then ks else ks ++ [k])))) := by
  simp only [setO, h]
  show (if (trues ks).length < sizeLine then some (st.set n (.dK (put (trues ks) (.inl k) (bo true)))) else none) = _
  rw [if_pos (by unfold trues; rw [List.length_map]; exact hl), put_trues]
theorem ne_trues {st : Store} {n : Nat} {ks : List Int} (h : getS st n = some (.dK (trues ks))) : cmpO .NotEq st (.loc n) (.py (.dict [])) = some (!ks.isEmpty) := by
  simp only [cmpO, eqO, isE, keysK, h, keys_trues, Option.map_some, List.isEmpty_map]
theorem sorted_trues {st : Store} {n : Nat} {ks : List Int} (h : getS st n = some (.dK (trues ks))) (hl : ks.length < 64) : biSorted false st (.loc n) = .ok (.py (.list ((isort ks).map .int))) st := by
  have e : (isort ks).map io = ((isort ks).map PyData.int).map D.py := by rw [List.map_map]; rfl
  simp only [biSorted, asL, h, keysK, keys_trues, List.length_map, if_pos hl, keysI_inl, newL, e, allPy_map, Option.map_some, giveS_some]
theorem bi_tup_lst {st : Store} {ps : List PyData} : biTuple st (.py (.list ps)) = .ok (.py (.tuple ps)) st := by
  simp only [biTuple, asT, asL, Option.map_some, mkT, allPy_map, giveS_some]
theorem bi_tup_loc {st : Store} {n : Nat} {ps : List PyData} (h : getS st n = some (.lst (ps.map .py))) : biTuple st (.loc n) = .ok (.py (.tuple ps)) st := by
  simp only [biTuple, asT, asL, h, Option.map_some, mkT, allPy_map, giveS_some]
theorem getS_of {st : Store} {n : Nat} {o : SO} (h : st[n]? = some o) (hl : unl o = o) : getS st n = some o := by unfold getS; rw [h, Option.map_some, hl]
/-- one name's arms, drawn -/
theorem arms_gs {Φ : Nat → Fn} {t : Nat} (d : Dt Φ t) {n most : Int} {e2 e4 e5 e6 e8 : Option D} {a b : Int} {posts : SO} {rest : Store} (hp : potOk a b) (hn : 0 < n) (hn2 : n ≤ 1000) {cnt : Nat} (hc : cnt ≤ 50)
    {N B C : Env → Store → Prop} {T : D → Store → Prop}
    (k : ∀ ks a' b' e8', potOk a' b' → ks.length ≤ cnt → ks.Nodup → (∀ x ∈ ks, 0 ≤ x ∧ x < n) → N [some (.loc 0), some (io n), e2, some (io most), e4, e5, e6, some (.loc (rest.length + 1 + 1)), e8'] (.lst [io a', io b'] :: posts :: (rest ++ [.dK (trues ks)]))) :
    GS (forL [] (.nam 8) (exec Φ (gb1_law_web t)) (rngI 0 cnt) [some (.loc 0), some (io n), e2, some (io most), e4, e5, e6, some (.loc (rest.length + 1 + 1)), e8] (.lst [io a, io b] :: posts :: (rest ++ [.dK []]))) N B C T := by
  refine for_ok (fun i env st => ∃ ks a' b' e8', potOk a' b' ∧ ks.length ≤ i ∧ ks.Nodup ∧ (∀ x ∈ ks, 0 ≤ x ∧ x < n) ∧ env = [some (.loc 0), some (io n), e2, some (io most), e4, e5, e6, some (.loc (rest.length + 1 + 1)), e8'] ∧ st = .lst [io a', io b'] :: posts :: (rest ++ [.dK (trues ks)]))
    ⟨[], a, b, e8, hp, Nat.le_refl _, List.nodup_nil, (fun _ h => nomatch h), rfl, rfl⟩ (fun i env st _ => still_nil _) (fun i x env st hx h => ?_) fun env st h => ?_
  · obtain ⟨ks, a', b', e8', g1, g2, g3, g4, rfl, rfl⟩ := h
    refine ⟨_, rfl, ?_⟩
    have hi : i < cnt := by have := (List.getElem?_eq_some_iff.mp hx).1; rw [rngI_len] at this; exact this
    unfold gb1_law_web
    simp only [exec, ev, evs, tst, srcs, GS_seq, GS_thn, GS_nx, GS_bk, GS_ct, GS_rt, Gv_bind, Gv_ok, Gv_give, Gv_nox, Gv_req, GS_req, R.bind_ok, R.thn_ok, RS.thn_nx, giveS_some, start, List.map_cons, List.map_nil, List.length_cons, List.length_nil, List.cons_append, List.nil_append, List.append_nil, List.replicate_succ, List.replicate_zero, Nat.reduceAdd, Nat.reduceSub, env_z, env_s, dl_z, dl_s, selO, set_z, set_s, asg, Option.some.injEq, exists_eq_left', bi1, bi0, isAbs, WW.wipe, setAll, if_true, if_false, Bool.false_eq_true, reduceIte, biO, mtO, pre_upper, pre_join, Option.map_some, Option.bind_some, exists_eq_left, and_true, true_and, c_lt, c_le, c_gt, c_ge, t_bool, t_int, b_add, b_sub, b_mul, b_div, b_mod, GS_ost, p_int, newL_t, newL_f, allPy_cons, allPy_nil, allPy_map, slc_tup, sset_z, sset_s, sto_z, sto_s, mkT, sizeBig, Nat.reduceLeDiff, Int.reduceLT, Int.reduceLE, decide_true, decide_false, ↓reduceIte, tyOk, subTy, List.all_cons, List.all_nil, List.any_cons, List.any_nil, beq_self_eq_true, Bool.true_or, Bool.or_false, Bool.false_or, Bool.and_true, Bool.true_and, Bool.or_true, String.reduceBEq, Bool.and_false, Bool.false_and]
    refine g_take d rfl g1 hn (by omega) fun r a2 b2 r0 r1 g5 => ?_
    have e := set_trues (st := .lst [io a2, io b2] :: posts :: (rest ++ [.dK (trues ks)])) (n := rest.length + 1 + 1) (ks := ks) (k := r) (by rw [sto_s, sto_s, app_at]) (by rw [sizeLine_eq]; omega)
    simp only [e, exec, ev, evs, tst, srcs, GS_seq, GS_thn, GS_nx, GS_bk, GS_ct, GS_rt, Gv_bind, Gv_ok, Gv_give, Gv_nox, Gv_req, GS_req, R.bind_ok, R.thn_ok, RS.thn_nx, giveS_some, start, List.map_cons, List.map_nil, List.length_cons, List.length_nil, List.cons_append, List.nil_append, List.append_nil, List.replicate_succ, List.replicate_zero, Nat.reduceAdd, Nat.reduceSub, env_z, env_s, dl_z, dl_s, selO, set_z, set_s, asg, Option.some.injEq, exists_eq_left', bi1, bi0, isAbs, WW.wipe, setAll, if_true, if_false, Bool.false_eq_true, reduceIte, biO, mtO, pre_upper, pre_join, Option.map_some, Option.bind_some, exists_eq_left, and_true, true_and, c_lt, c_le, c_gt, c_ge, t_bool, t_int, b_add, b_sub, b_mul, b_div, b_mod, GS_ost, p_int, newL_t, newL_f, allPy_cons, allPy_nil, allPy_map, slc_tup, sset_z, sset_s, sto_z, sto_s, mkT, sizeBig, Nat.reduceLeDiff, Int.reduceLT, Int.reduceLE, decide_true, decide_false, ↓reduceIte, tyOk, subTy, List.all_cons, List.all_nil, List.any_cons, List.any_nil, beq_self_eq_true, Bool.true_or, Bool.or_false, Bool.false_or, Bool.and_true, Bool.true_and, Bool.or_true, String.reduceBEq, Bool.and_false, Bool.false_and]
    refine ⟨if r ∈ ks then ks else ks ++ [r], a2, b2, _, g5, ?_, ?_, ?_, rfl, ?_⟩
    · split
      · omega
      · rw [List.length_append, List.length_singleton]; omega
    · split
      · exact g3
      · rename_i h
        exact List.nodup_append.mpr ⟨g3, by simp, fun x hx y hy => by rw [List.mem_singleton.mp hy]; rintro rfl; exact h hx⟩
    · split
      · exact g4
      · intro x hx
        rcases List.mem_append.mp hx with hx | hx
        · exact g4 x hx
        · rw [List.mem_singleton.mp hx]; exact ⟨r0, r1⟩
    · rw [app_set]
  · obtain ⟨ks, a', b', e8', g1, g2, g3, g4, rfl, rfl⟩ := h
    rw [rngI_len] at g2
    exact k ks a' b' e8' g1 g2 g3 g4
theorem new0 {st : Store} : newD 0 (.dK []) st = .ok (.py (.dict [])) st := rfl
theorem new1 {st : Store} {o : SO} : newD 1 o st = .ok (.loc st.length) (st ++ [o]) := rfl
theorem new2 {st : Store} {o : SO} : newD 2 o st = .ok (.loc st.length) (st ++ [o]) := rfl
theorem lock_no {st : Store} {f : Store → RS} : lockS none st f = f st := rfl
abbrev polst (ps : List Po) : SO := .lst ((ps.map Po.py).map .py)
theorem name_gs {Φ : Nat → Fn} {t : Nat} (d : Dt Φ t) {n most c : Int} {nm : Str} {e2 e7 e8 : Option D} {a b : Int} {ps : List Po} {rest : Store} (hp : potOk a b) (hn : 0 < n) (hn2 : n ≤ 1000) (hm0 : 0 ≤ most) (hm : most ≤ 40) (hl : ps.length ≤ 100000)
    {N B C : Env → Store → Prop} {T : D → Store → Prop}
    (k1 : ∀ a' b' e7' e8' rest', potOk a' b' → N [some (.loc 0), some (io n), e2, some (io most), some (.loc 1), some (io c), some (so nm), e7', e8'] (.lst [io a', io b'] :: polst ps :: rest'))
    (k2 : ∀ arms a' b' e7' e8' rest', potOk a' b' → arms ≠ [] → arms.length ≤ most.toNat → arms.Pairwise (· < ·) → (∀ x ∈ arms, 0 ≤ x ∧ x < n) → N [some (.loc 0), some (io n), e2, some (io most), some (.loc 1), some (io c), some (so nm), e7', e8'] (.lst [io a', io b'] :: polst (ps ++ [⟨c, nm, arms⟩]) :: rest')) :
    GS (exec Φ (gb2_law_web t) [some (.loc 0), some (io n), e2, some (io most), some (.loc 1), some (io c), some (so nm), e7, e8] (.lst [io a, io b] :: polst ps :: rest)) N B C T := by
  unfold gb2_law_web
  simp only [pairsO, new0, new1, mergeD, List.foldl_nil, exec, ev, evs, tst, srcs, GS_seq, GS_thn, GS_nx, GS_bk, GS_ct, GS_rt, Gv_bind, Gv_ok, Gv_give, Gv_nox, Gv_req, GS_req, R.bind_ok, R.thn_ok, RS.thn_nx, giveS_some, start, List.map_cons, List.map_nil, List.length_cons, List.length_nil, List.cons_append, List.nil_append, List.append_nil, List.replicate_succ, List.replicate_zero, Nat.reduceAdd, Nat.reduceSub, env_z, env_s, dl_z, dl_s, selO, set_z, set_s, asg, Option.some.injEq, exists_eq_left', bi1, bi0, isAbs, WW.wipe, setAll, if_true, if_false, Bool.false_eq_true, reduceIte, biO, mtO, pre_upper, pre_join, Option.map_some, Option.bind_some, exists_eq_left, and_true, true_and, c_lt, c_le, c_gt, c_ge, t_bool, t_int, b_add, b_sub, b_mul, b_div, b_mod, GS_ost, p_int, newL_t, newL_f, allPy_cons, allPy_nil, allPy_map, slc_tup, sset_z, sset_s, sto_z, sto_s, mkT, sizeBig, Nat.reduceLeDiff, Int.reduceLT, Int.reduceLE, decide_true, decide_false, ↓reduceIte, tyOk, subTy, List.all_cons, List.all_nil, List.any_cons, List.any_nil, beq_self_eq_true, Bool.true_or, Bool.or_false, Bool.false_or, Bool.and_true, Bool.true_and, Bool.or_true, String.reduceBEq, Bool.and_false, Bool.false_and]
  refine g_take d rfl hp (by omega) (by omega) fun r a2 b2 r0 r1 h2 => ?_
  refine ⟨_, rng_its r0 (by omega), ?_⟩
  simp only [lock_no, exec, ev, evs, tst, srcs, GS_seq, GS_thn, GS_nx, GS_bk, GS_ct, GS_rt, Gv_bind, Gv_ok, Gv_give, Gv_nox, Gv_req, GS_req, R.bind_ok, R.thn_ok, RS.thn_nx, giveS_some, start, List.map_cons, List.map_nil, List.length_cons, List.length_nil, List.cons_append, List.nil_append, List.append_nil, List.replicate_succ, List.replicate_zero, Nat.reduceAdd, Nat.reduceSub, env_z, env_s, dl_z, dl_s, selO, set_z, set_s, asg, Option.some.injEq, exists_eq_left', bi1, bi0, isAbs, WW.wipe, setAll, if_true, if_false, Bool.false_eq_true, reduceIte, biO, mtO, pre_upper, pre_join, Option.map_some, Option.bind_some, exists_eq_left, and_true, true_and, c_lt, c_le, c_gt, c_ge, t_bool, t_int, b_add, b_sub, b_mul, b_div, b_mod, GS_ost, p_int, newL_t, newL_f, allPy_cons, allPy_nil, allPy_map, slc_tup, sset_z, sset_s, sto_z, sto_s, mkT, sizeBig, Nat.reduceLeDiff, Int.reduceLT, Int.reduceLE, decide_true, decide_false, ↓reduceIte, tyOk, subTy, List.all_cons, List.all_nil, List.any_cons, List.any_nil, beq_self_eq_true, Bool.true_or, Bool.or_false, Bool.false_or, Bool.and_true, Bool.true_and, Bool.or_true, String.reduceBEq, Bool.and_false, Bool.false_and]
  refine arms_gs (posts := polst ps) d h2 hn hn2 (by omega) fun ks a3 b3 e8' h3 n1 n2 n3 => ?_
  have hg : getS (.lst [io a3, io b3] :: polst ps :: (rest ++ [.dK (trues ks)])) (rest.length + 1 + 1) = some (.dK (trues ks)) := getS_of (by rw [sto_s, sto_s, app_at]) rfl
  simp only [ne_trues hg, exec, ev, evs, tst, srcs, GS_seq, GS_thn, GS_nx, GS_bk, GS_ct, GS_rt, Gv_bind, Gv_ok, Gv_give, Gv_nox, Gv_req, GS_req, R.bind_ok, R.thn_ok, RS.thn_nx, giveS_some, start, List.map_cons, List.map_nil, List.length_cons, List.length_nil, List.cons_append, List.nil_append, List.append_nil, List.replicate_succ, List.replicate_zero, Nat.reduceAdd, Nat.reduceSub, env_z, env_s, dl_z, dl_s, selO, set_z, set_s, asg, Option.some.injEq, exists_eq_left', bi1, bi0, isAbs, WW.wipe, setAll, if_true, if_false, Bool.false_eq_true, reduceIte, biO, mtO, pre_upper, pre_join, Option.map_some, Option.bind_some, exists_eq_left, and_true, true_and, c_lt, c_le, c_gt, c_ge, t_bool, t_int, b_add, b_sub, b_mul, b_div, b_mod, GS_ost, p_int, newL_t, newL_f, allPy_cons, allPy_nil, allPy_map, slc_tup, sset_z, sset_s, sto_z, sto_s, mkT, sizeBig, Nat.reduceLeDiff, Int.reduceLT, Int.reduceLE, decide_true, decide_false, ↓reduceIte, tyOk, subTy, List.all_cons, List.all_nil, List.any_cons, List.any_nil, beq_self_eq_true, Bool.true_or, Bool.or_false, Bool.false_or, Bool.and_true, Bool.true_and, Bool.or_true, String.reduceBEq, Bool.and_false, Bool.false_and]
  cases hk : ks with
  | nil =>
    simp only [List.isEmpty_nil, Bool.not_true, exec, ev, evs, tst, srcs, GS_seq, GS_thn, GS_nx, GS_bk, GS_ct, GS_rt, Gv_bind, Gv_ok, Gv_give, Gv_nox, Gv_req, GS_req, R.bind_ok, R.thn_ok, RS.thn_nx, giveS_some, start, List.map_cons, List.map_nil, List.length_cons, List.length_nil, List.cons_append, List.nil_append, List.append_nil, List.replicate_succ, List.replicate_zero, Nat.reduceAdd, Nat.reduceSub, env_z, env_s, dl_z, dl_s, selO, set_z, set_s, asg, Option.some.injEq, exists_eq_left', bi1, bi0, isAbs, WW.wipe, setAll, if_true, if_false, Bool.false_eq_true, reduceIte, biO, mtO, pre_upper, pre_join, Option.map_some, Option.bind_some, exists_eq_left, and_true, true_and, c_lt, c_le, c_gt, c_ge, t_bool, t_int, b_add, b_sub, b_mul, b_div, b_mod, GS_ost, p_int, newL_t, newL_f, allPy_cons, allPy_nil, allPy_map, slc_tup, sset_z, sset_s, sto_z, sto_s, mkT, sizeBig, Nat.reduceLeDiff, Int.reduceLT, Int.reduceLE, decide_true, decide_false, ↓reduceIte, tyOk, subTy, List.all_cons, List.all_nil, List.any_cons, List.any_nil, beq_self_eq_true, Bool.true_or, Bool.or_false, Bool.false_or, Bool.and_true, Bool.true_and, Bool.or_true, String.reduceBEq, Bool.and_false, Bool.false_and]
    subst hk
    exact k1 _ _ _ _ _ h3
  | cons k0 ks0 =>
    simp only [List.isEmpty_cons, Bool.not_false, exec, ev, evs, tst, srcs, GS_seq, GS_thn, GS_nx, GS_bk, GS_ct, GS_rt, Gv_bind, Gv_ok, Gv_give, Gv_nox, Gv_req, GS_req, R.bind_ok, R.thn_ok, RS.thn_nx, giveS_some, start, List.map_cons, List.map_nil, List.length_cons, List.length_nil, List.cons_append, List.nil_append, List.append_nil, List.replicate_succ, List.replicate_zero, Nat.reduceAdd, Nat.reduceSub, env_z, env_s, dl_z, dl_s, selO, set_z, set_s, asg, Option.some.injEq, exists_eq_left', bi1, bi0, isAbs, WW.wipe, setAll, if_true, if_false, Bool.false_eq_true, reduceIte, biO, mtO, pre_upper, pre_join, Option.map_some, Option.bind_some, exists_eq_left, and_true, true_and, c_lt, c_le, c_gt, c_ge, t_bool, t_int, b_add, b_sub, b_mul, b_div, b_mod, GS_ost, p_int, newL_t, newL_f, allPy_cons, allPy_nil, allPy_map, slc_tup, sset_z, sset_s, sto_z, sto_s, mkT, sizeBig, Nat.reduceLeDiff, Int.reduceLT, Int.reduceLE, decide_true, decide_false, ↓reduceIte, tyOk, subTy, List.all_cons, List.all_nil, List.any_cons, List.any_nil, beq_self_eq_true, Bool.true_or, Bool.or_false, Bool.false_or, Bool.and_true, Bool.true_and, Bool.or_true, String.reduceBEq, Bool.and_false, Bool.false_and]
    rw [← hk]
    simp only [sorted_trues hg (by omega), bi_tup_lst, exec, ev, evs, tst, srcs, GS_seq, GS_thn, GS_nx, GS_bk, GS_ct, GS_rt, Gv_bind, Gv_ok, Gv_give, Gv_nox, Gv_req, GS_req, R.bind_ok, R.thn_ok, RS.thn_nx, giveS_some, start, List.map_cons, List.map_nil, List.length_cons, List.length_nil, List.cons_append, List.nil_append, List.append_nil, List.replicate_succ, List.replicate_zero, Nat.reduceAdd, Nat.reduceSub, env_z, env_s, dl_z, dl_s, selO, set_z, set_s, asg, Option.some.injEq, exists_eq_left', bi1, bi0, isAbs, WW.wipe, setAll, if_true, if_false, Bool.false_eq_true, reduceIte, biO, mtO, pre_upper, pre_join, Option.map_some, Option.bind_some, exists_eq_left, and_true, true_and, c_lt, c_le, c_gt, c_ge, t_bool, t_int, b_add, b_sub, b_mul, b_div, b_mod, GS_ost, p_int, newL_t, newL_f, allPy_cons, allPy_nil, allPy_map, slc_tup, sset_z, sset_s, sto_z, sto_s, mkT, sizeBig, Nat.reduceLeDiff, Int.reduceLT, Int.reduceLE, decide_true, decide_false, ↓reduceIte, tyOk, subTy, List.all_cons, List.all_nil, List.any_cons, List.any_nil, beq_self_eq_true, Bool.true_or, Bool.or_false, Bool.false_or, Bool.and_true, Bool.true_and, Bool.or_true, String.reduceBEq, Bool.and_false, Bool.false_and]
    refine ⟨pre_append (xs := (ps.map Po.py).map .py) (getS_of rfl rfl), ?_⟩
    rw [mt_app (xs := (ps.map Po.py).map .py) rfl (by rw [List.length_map, List.length_map, sizeLine_eq]; omega)]
    simp only [exec, ev, evs, tst, srcs, GS_seq, GS_thn, GS_nx, GS_bk, GS_ct, GS_rt, Gv_bind, Gv_ok, Gv_give, Gv_nox, Gv_req, GS_req, R.bind_ok, R.thn_ok, RS.thn_nx, giveS_some, start, List.map_cons, List.map_nil, List.length_cons, List.length_nil, List.cons_append, List.nil_append, List.append_nil, List.replicate_succ, List.replicate_zero, Nat.reduceAdd, Nat.reduceSub, env_z, env_s, dl_z, dl_s, selO, set_z, set_s, asg, Option.some.injEq, exists_eq_left', bi1, bi0, isAbs, WW.wipe, setAll, if_true, if_false, Bool.false_eq_true, reduceIte, biO, mtO, pre_upper, pre_join, Option.map_some, Option.bind_some, exists_eq_left, and_true, true_and, c_lt, c_le, c_gt, c_ge, t_bool, t_int, b_add, b_sub, b_mul, b_div, b_mod, GS_ost, p_int, newL_t, newL_f, allPy_cons, allPy_nil, allPy_map, slc_tup, sset_z, sset_s, sto_z, sto_s, mkT, sizeBig, Nat.reduceLeDiff, Int.reduceLT, Int.reduceLE, decide_true, decide_false, ↓reduceIte, tyOk, subTy, List.all_cons, List.all_nil, List.any_cons, List.any_nil, beq_self_eq_true, Bool.true_or, Bool.or_false, Bool.false_or, Bool.and_true, Bool.true_and, Bool.or_true, String.reduceBEq, Bool.and_false, Bool.false_and]
    have e : (.lst ((ps.map Po.py).map .py ++ [.py (.tuple [.int c, .str nm, .tuple ((isort ks).map .int)])]) : SO) = polst (ps ++ [⟨c, nm, isort ks⟩]) := by
      unfold polst
      rw [List.map_append, List.map_append]; rfl
    show N _ (.lst [io a3, io b3] :: .lst ((ps.map Po.py).map .py ++ [.py (.tuple [.int c, .str nm, .tuple ((isort ks).map .int)])]) :: (rest ++ [.dK (trues ks)]))
    rw [e]
    refine k2 (isort ks) _ _ _ _ _ h3 (fun z => ?_) (by rw [isort_len]; omega) (isort_strict n2) fun x hx => n3 x (mem_isort.mp hx)
    have := isort_len ks
    rw [z, hk] at this
    cases this
structure WebAt (n : Int) (names : List Str) (most : Nat) (c : Int) (done : List Str) (ps : List Po) : Prop where
  all : ∀ p ∈ ps, PoOk n names most p
  ris : ps.Pairwise poLt
  at' : ∀ p ∈ ps, p.c < c ∨ (p.c = c ∧ p.nm ∈ done)
theorem lst_strs (names : List Str) : itemsO st (.py (.list (names.map .str))) = some { its := (names.map PyData.str).map .py } := rfl
theorem web_draw {Φ : Nat → Fn} {t : Nat} (d : Dt Φ t) {n most : Int} {names : List Str} (hn : 0 < n) (hn2 : n ≤ 1000) (hm0 : 0 ≤ most) (hm : most ≤ 40) (hz : names.length ≤ 90) (hris : names.Pairwise fun a b => ltS a b = true) :
    DrawF (run Φ (gc_law_web t)) [.int n, .list (names.map .str), .int most] fun p => ∃ ps, p = webP n ps ∧ WebOk n names most.toNat ps := ⟨fun a b hp => by
  refine run_gv rfl ?_
  unfold gc_law_web
  simp only [exec, ev, evs, tst, srcs, GS_seq, GS_thn, GS_nx, GS_bk, GS_ct, GS_rt, Gv_bind, Gv_ok, Gv_give, Gv_nox, Gv_req, GS_req, R.bind_ok, R.thn_ok, RS.thn_nx, giveS_some, start, List.map_cons, List.map_nil, List.length_cons, List.length_nil, List.cons_append, List.nil_append, List.append_nil, List.replicate_succ, List.replicate_zero, Nat.reduceAdd, Nat.reduceSub, env_z, env_s, dl_z, dl_s, selO, set_z, set_s, asg, Option.some.injEq, exists_eq_left', bi1, bi0, isAbs, WW.wipe, setAll, if_true, if_false, Bool.false_eq_true, reduceIte, biO, mtO, pre_upper, pre_join, Option.map_some, Option.bind_some, exists_eq_left, and_true, true_and, c_lt, c_le, c_gt, c_ge, t_bool, t_int, b_add, b_sub, b_mul, b_div, b_mod, GS_ost, p_int, newL_t, newL_f, allPy_cons, allPy_nil, allPy_map, slc_tup, sset_z, sset_s, sto_z, sto_s, mkT, sizeBig, Nat.reduceLeDiff, Int.reduceLT, Int.reduceLE, decide_true, decide_false, ↓reduceIte, tyOk, subTy, List.all_cons, List.all_nil, List.any_cons, List.any_nil, beq_self_eq_true, Bool.true_or, Bool.or_false, Bool.false_or, Bool.and_true, Bool.true_and, Bool.or_true, String.reduceBEq, Bool.and_false, Bool.false_and]
  refine ⟨_, rng_its (by omega) (by omega), ?_⟩
  simp only [lock_no, exec, ev, evs, tst, srcs, GS_seq, GS_thn, GS_nx, GS_bk, GS_ct, GS_rt, Gv_bind, Gv_ok, Gv_give, Gv_nox, Gv_req, GS_req, R.bind_ok, R.thn_ok, RS.thn_nx, giveS_some, start, List.map_cons, List.map_nil, List.length_cons, List.length_nil, List.cons_append, List.nil_append, List.append_nil, List.replicate_succ, List.replicate_zero, Nat.reduceAdd, Nat.reduceSub, env_z, env_s, dl_z, dl_s, selO, set_z, set_s, asg, Option.some.injEq, exists_eq_left', bi1, bi0, isAbs, WW.wipe, setAll, if_true, if_false, Bool.false_eq_true, reduceIte, biO, mtO, pre_upper, pre_join, Option.map_some, Option.bind_some, exists_eq_left, and_true, true_and, c_lt, c_le, c_gt, c_ge, t_bool, t_int, b_add, b_sub, b_mul, b_div, b_mod, GS_ost, p_int, newL_t, newL_f, allPy_cons, allPy_nil, allPy_map, slc_tup, sset_z, sset_s, sto_z, sto_s, mkT, sizeBig, Nat.reduceLeDiff, Int.reduceLT, Int.reduceLE, decide_true, decide_false, ↓reduceIte, tyOk, subTy, List.all_cons, List.all_nil, List.any_cons, List.any_nil, beq_self_eq_true, Bool.true_or, Bool.or_false, Bool.false_or, Bool.and_true, Bool.true_and, Bool.or_true, String.reduceBEq, Bool.and_false, Bool.false_and]
  refine for_ok (fun i env st => ∃ ps a' b' e5 e6 e7 e8 rest, potOk a' b' ∧ WebAt n names most.toNat i [] ps ∧ ps.length ≤ i * names.length ∧ env = [some (.loc 0), some (io n), some (.py (.list (names.map .str))), some (io most), some (.loc 1), e5, e6, e7, e8] ∧ st = .lst [io a', io b'] :: polst ps :: rest)
    ⟨[], a, b, none, none, none, none, [], hp, ⟨(fun _ h => nomatch h), .nil, (fun _ h => nomatch h)⟩, by simp, rfl, rfl⟩ (fun i env st _ => still_nil _) (fun i x env st hx h => ?_) fun env st h => ?_
  · obtain ⟨ps, a', b', e5, e6, e7, e8, rest, g1, g2, g3, rfl, rfl⟩ := h
    have hi : i < n.toNat := by have := (List.getElem?_eq_some_iff.mp hx).1; rw [rngI_len] at this; exact this
    have hxe : x = io (i : Int) := by
      have : (rngI 0 n.toNat)[i]? = some (io (0 + (i : Int))) := by
        unfold rngI
        rw [List.getElem?_map, List.getElem?_range hi]; rfl
      rw [this, Int.zero_add] at hx
      exact (Option.some.inj hx).symm
    subst hxe
    refine ⟨_, rfl, ?_⟩
    unfold gb3_law_web
    simp only [exec, ev, evs, tst, srcs, GS_seq, GS_thn, GS_nx, GS_bk, GS_ct, GS_rt, Gv_bind, Gv_ok, Gv_give, Gv_nox, Gv_req, GS_req, R.bind_ok, R.thn_ok, RS.thn_nx, giveS_some, start, List.map_cons, List.map_nil, List.length_cons, List.length_nil, List.cons_append, List.nil_append, List.append_nil, List.replicate_succ, List.replicate_zero, Nat.reduceAdd, Nat.reduceSub, env_z, env_s, dl_z, dl_s, selO, set_z, set_s, asg, Option.some.injEq, exists_eq_left', bi1, bi0, isAbs, WW.wipe, setAll, if_true, if_false, Bool.false_eq_true, reduceIte, biO, mtO, pre_upper, pre_join, Option.map_some, Option.bind_some, exists_eq_left, and_true, true_and, c_lt, c_le, c_gt, c_ge, t_bool, t_int, b_add, b_sub, b_mul, b_div, b_mod, GS_ost, p_int, newL_t, newL_f, allPy_cons, allPy_nil, allPy_map, slc_tup, sset_z, sset_s, sto_z, sto_s, mkT, sizeBig, Nat.reduceLeDiff, Int.reduceLT, Int.reduceLE, decide_true, decide_false, ↓reduceIte, tyOk, subTy, List.all_cons, List.all_nil, List.any_cons, List.any_nil, beq_self_eq_true, Bool.true_or, Bool.or_false, Bool.false_or, Bool.and_true, Bool.true_and, Bool.or_true, String.reduceBEq, Bool.and_false, Bool.false_and]
    refine ⟨_, rfl, ?_⟩
    simp only [lock_no, exec, ev, evs, tst, srcs, GS_seq, GS_thn, GS_nx, GS_bk, GS_ct, GS_rt, Gv_bind, Gv_ok, Gv_give, Gv_nox, Gv_req, GS_req, R.bind_ok, R.thn_ok, RS.thn_nx, giveS_some, start, List.map_cons, List.map_nil, List.length_cons, List.length_nil, List.cons_append, List.nil_append, List.append_nil, List.replicate_succ, List.replicate_zero, Nat.reduceAdd, Nat.reduceSub, env_z, env_s, dl_z, dl_s, selO, set_z, set_s, asg, Option.some.injEq, exists_eq_left', bi1, bi0, isAbs, WW.wipe, setAll, if_true, if_false, Bool.false_eq_true, reduceIte, biO, mtO, pre_upper, pre_join, Option.map_some, Option.bind_some, exists_eq_left, and_true, true_and, c_lt, c_le, c_gt, c_ge, t_bool, t_int, b_add, b_sub, b_mul, b_div, b_mod, GS_ost, p_int, newL_t, newL_f, allPy_cons, allPy_nil, allPy_map, slc_tup, sset_z, sset_s, sto_z, sto_s, mkT, sizeBig, Nat.reduceLeDiff, Int.reduceLT, Int.reduceLE, decide_true, decide_false, ↓reduceIte, tyOk, subTy, List.all_cons, List.all_nil, List.any_cons, List.any_nil, beq_self_eq_true, Bool.true_or, Bool.or_false, Bool.false_or, Bool.and_true, Bool.true_and, Bool.or_true, String.reduceBEq, Bool.and_false, Bool.false_and]
    refine for_ok (fun j env st => ∃ ps a' b' e6 e7 e8 rest, potOk a' b' ∧ WebAt n names most.toNat i (names.take j) ps ∧ ps.length ≤ i * names.length + j ∧ env = [some (.loc 0), some (io n), some (.py (.list (names.map .str))), some (io most), some (.loc 1), some (io (i : Int)), e6, e7, e8] ∧ st = .lst [io a', io b'] :: polst ps :: rest)
      ⟨ps, a', b', e6, e7, e8, rest, g1, by rw [List.take_zero]; exact g2, by omega, rfl, rfl⟩ (fun i env st _ => still_nil _) (fun j x env st hx h => ?_) fun env st h => ?_
    · obtain ⟨ps, a', b', e6, e7, e8, rest, g1, g2, g3, rfl, rfl⟩ := h
      rw [List.map_map, List.getElem?_map] at hx
      obtain ⟨nm, hnm, rfl⟩ := Option.map_eq_some_iff.mp hx
      have hj : j < names.length := (List.getElem?_eq_some_iff.mp hnm).1
      have htk : names.take (j + 1) = names.take j ++ [nm] := by rw [List.take_add_one, hnm]; rfl
      have hlen : ps.length ≤ 100000 := by
        have : i * names.length ≤ 1000 * 90 := Nat.mul_le_mul (by omega) hz
        omega
      refine ⟨_, rfl, ?_⟩
      simp only [Function.comp, exec, ev, evs, tst, srcs, GS_seq, GS_thn, GS_nx, GS_bk, GS_ct, GS_rt, Gv_bind, Gv_ok, Gv_give, Gv_nox, Gv_req, GS_req, R.bind_ok, R.thn_ok, RS.thn_nx, giveS_some, start, List.map_cons, List.map_nil, List.length_cons, List.length_nil, List.cons_append, List.nil_append, List.append_nil, List.replicate_succ, List.replicate_zero, Nat.reduceAdd, Nat.reduceSub, env_z, env_s, dl_z, dl_s, selO, set_z, set_s, asg, Option.some.injEq, exists_eq_left', bi1, bi0, isAbs, WW.wipe, setAll, if_true, if_false, Bool.false_eq_true, reduceIte, biO, mtO, pre_upper, pre_join, Option.map_some, Option.bind_some, exists_eq_left, and_true, true_and, c_lt, c_le, c_gt, c_ge, t_bool, t_int, b_add, b_sub, b_mul, b_div, b_mod, GS_ost, p_int, newL_t, newL_f, allPy_cons, allPy_nil, allPy_map, slc_tup, sset_z, sset_s, sto_z, sto_s, mkT, sizeBig, Nat.reduceLeDiff, Int.reduceLT, Int.reduceLE, decide_true, decide_false, ↓reduceIte, tyOk, subTy, List.all_cons, List.all_nil, List.any_cons, List.any_nil, beq_self_eq_true, Bool.true_or, Bool.or_false, Bool.false_or, Bool.and_true, Bool.true_and, Bool.or_true, String.reduceBEq, Bool.and_false, Bool.false_and]
      refine name_gs d g1 hn hn2 hm0 hm hlen (fun a2 b2 e7' e8' rest' h2 => ⟨ps, a2, b2, _, e7', e8', rest', h2, ⟨g2.all, g2.ris, fun p hp => ?_⟩, by omega, rfl, rfl⟩)
        fun arms a2 b2 e7' e8' rest' h2 m1 m2 m3 m4 => ⟨ps ++ [⟨i, nm, arms⟩], a2, b2, _, e7', e8', rest', h2, ⟨fun p hp => ?_, ?_, fun p hp => ?_⟩, by rw [List.length_append, List.length_singleton]; omega, rfl, rfl⟩
      · rcases g2.at' p hp with z | ⟨z, y⟩
        · exact .inl z
        · exact .inr ⟨z, by rw [htk]; exact List.mem_append_left _ y⟩
      · rcases List.mem_append.mp hp with hp | hp
        · exact g2.all p hp
        · rw [List.mem_singleton.mp hp]
          exact ⟨by show (0 : Int) ≤ i; omega, by show (i : Int) < n; omega, List.mem_of_getElem? hnm, m1, m2, m3, m4⟩
      · refine List.pairwise_append.mpr ⟨g2.ris, List.pairwise_singleton _ _, fun p hp q hq => ?_⟩
        rw [List.mem_singleton.mp hq]
        rcases g2.at' p hp with z | ⟨z, y⟩
        · exact .inl z
        · refine .inr ⟨z, ?_⟩
          have h1 : (names.take (j + 1)).Pairwise fun a b => ltS a b = true := hris.sublist (List.take_sublist _ _)
          rw [htk] at h1
          exact (List.pairwise_append.mp h1).2.2 p.nm y nm (List.mem_singleton_self _)
      · rcases List.mem_append.mp hp with hp | hp
        · rcases g2.at' p hp with z | ⟨z, y⟩
          · exact .inl z
          · exact .inr ⟨z, by rw [htk]; exact List.mem_append_left _ y⟩
        · rw [List.mem_singleton.mp hp]
          exact .inr ⟨rfl, by rw [htk]; exact List.mem_append_right _ (List.mem_singleton_self _)⟩
    · obtain ⟨ps, a', b', e6, e7, e8, rest, g1, g2, g3, rfl, rfl⟩ := h
      rw [List.length_map, List.length_map] at g3
      refine ⟨ps, a', b', _, e6, e7, e8, rest, g1, ⟨g2.all, g2.ris, fun p hp => .inl ?_⟩, by rw [Nat.add_mul, Nat.one_mul]; exact g3, rfl, rfl⟩
      rcases g2.at' p hp with z | ⟨z, _⟩
      · omega
      · omega
  · obtain ⟨ps, a', b', e5, e6, e7, e8, rest, g1, g2, g3, rfl, rfl⟩ := h
    rw [rngI_len] at g3
    have et := bi_tup_loc (st := .lst [io a', io b'] :: polst ps :: rest) (n := 1) (ps := ps.map Po.py) (getS_of rfl rfl)
    simp only [et, exec, ev, evs, tst, srcs, GS_seq, GS_thn, GS_nx, GS_bk, GS_ct, GS_rt, Gv_bind, Gv_ok, Gv_give, Gv_nox, Gv_req, GS_req, R.bind_ok, R.thn_ok, RS.thn_nx, giveS_some, start, List.map_cons, List.map_nil, List.length_cons, List.length_nil, List.cons_append, List.nil_append, List.append_nil, List.replicate_succ, List.replicate_zero, Nat.reduceAdd, Nat.reduceSub, env_z, env_s, dl_z, dl_s, selO, set_z, set_s, asg, Option.some.injEq, exists_eq_left', bi1, bi0, isAbs, WW.wipe, setAll, if_true, if_false, Bool.false_eq_true, reduceIte, biO, mtO, pre_upper, pre_join, Option.map_some, Option.bind_some, exists_eq_left, and_true, true_and, c_lt, c_le, c_gt, c_ge, t_bool, t_int, b_add, b_sub, b_mul, b_div, b_mod, GS_ost, p_int, newL_t, newL_f, allPy_cons, allPy_nil, allPy_map, slc_tup, sset_z, sset_s, sto_z, sto_s, mkT, sizeBig, Nat.reduceLeDiff, Int.reduceLT, Int.reduceLE, decide_true, decide_false, ↓reduceIte, tyOk, subTy, List.all_cons, List.all_nil, List.any_cons, List.any_nil, beq_self_eq_true, Bool.true_or, Bool.or_false, Bool.false_or, Bool.and_true, Bool.true_and, Bool.or_true, String.reduceBEq, Bool.and_false, Bool.false_and]
    exact ⟨_, rfl, ⟨ps, rfl, g2.all, g2.ris, g3⟩, a', b', g1, rfl⟩⟩
end WW

namespace WW
open PySem PySem.Spec
theorem eq_int (st : Store) (i j : Int) : cmpO .Eq st (io i) (io j) = some (decide (i = j)) := by
  have e : cmpO .Eq st (io i) (io j) = some (i == j) := by
    simp only [cmpO, eqO, isE, eqV, toPy, toPyF, Option.bind_some]
    rfl
  rw [e]; rfl
theorem ne_int (st : Store) (i j : Int) : cmpO .NotEq st (io i) (io j) = some (!decide (i = j)) := by
  have e : cmpO .NotEq st (io i) (io j) = (cmpO .Eq st (io i) (io j)).map (!·) := rfl
  rw [e, eq_int]; rfl
theorem is_non (st : Store) (d : D) : cmpO .Is st d (.py .none) = some (isN d) := rfl
/-- a comprehension, in general -/
theorem lc_gen {Φ : Nat → Fn} {own : List Nat} {src : CE} {tg : Tg} {t e : CE} {env : Env} {st : Store} {P : D → Store → Prop}
    (hs : Gv (srcs Φ src env st) fun s st1 => s.lk = none ∧ s.gs = [] ∧ s.its.length ≤ sizeLine ∧ ∃ I : Nat → Store → List PyData → Prop, I 0 st1 [] ∧ (∀ i st acc, I i st acc → acc.length ≤ i) ∧
      (∀ i x st acc, s.its[i]? = some x → I i st acc → ∃ env1, asg tg x (WW.wipe env own) = some env1 ∧ Gv (tst Φ t env1 st) fun b st1 => if b = true then Gv (ev Φ e env1 st1) fun y st2 => ∃ p, y = .py p ∧ I (i + 1) st2 (acc ++ [p]) else I (i + 1) st1 acc) ∧
      (∀ st acc, I s.its.length st acc → P (.py (.list acc)) st)) : Gv (ev Φ (.lc false own src tg t e) env st) P := by
  rw [ev, Gv_bind]
  refine hs.imp fun s st1 ⟨h1, h2, h3, I, h4, h5, h6, h7⟩ => ?_
  rw [Gv_bind, Gv_nox, h1, h2]
  show Gv (lcL [] tg (tst Φ t) (ev Φ e) addL (WW.wipe env own) s.its st1 []) _
  have key := lcL_ok (gs := []) (tg := tg) (t := tst Φ t) (e := ev Φ e) (add := addL) (env := WW.wipe env own) (P := fun acc st => Gv (newL false acc st) P) s.its (fun i st acc => ∃ ps : List PyData, acc = ps.map .py ∧ I i st ps) (fun _ _ _ _ => still_nil _)
    (fun i x st acc hx ⟨ps, e1, hI⟩ => by
      obtain ⟨env1, a1, a2⟩ := h6 i x st ps hx hI
      refine ⟨env1, a1, a2.imp fun b st1 q => ?_⟩
      cases b with
      | true =>
        rw [if_pos rfl] at q ⊢
        refine q.imp fun y st2 ⟨p, ey, q⟩ => ⟨acc ++ [y], ?_, ps ++ [p], ?_, q⟩
        · unfold addL
          rw [if_pos]
          have := h5 _ _ _ hI
          have h8 := (List.getElem?_eq_some_iff.mp hx).1
          rw [e1, List.length_map]; omega
        · rw [e1, ey, List.map_append]; rfl
      | false =>
        rw [if_neg (by simp)] at q ⊢
        exact ⟨ps, e1, q⟩)
    (fun st acc ⟨ps, e1, hI⟩ => by
      rw [e1]
      simp only [newL, allPy_map, Option.map_some, giveS_some, Gv_ok]
      exact h7 _ _ hI) 0 st1 [] (Nat.zero_le _) ⟨[], rfl, h4⟩
  simpa using key
/-! ### goals, worlds as they are drawn -/
structure GoalsOk (n : Int) (gs : List Int) : Prop where
  ris : gs.Pairwise (· < ·)
  rng : ∀ g ∈ gs, 0 ≤ g ∧ g < n
/-- goals as a thing -/
def aimP : Option (List Int) → PyData
  | none => .none
  | some gs => .tuple (gs.map .int)
theorem rngI_at {n i : Nat} (h : i < n) : (rngI 0 n)[i]? = some (io (i : Int)) := by
  unfold rngI
  rw [List.getElem?_map, List.getElem?_range h]
  show some (io (0 + (i : Int))) = _
  rw [Int.zero_add]
theorem rngI_get {n i : Nat} {x : D} (h : (rngI 0 n)[i]? = some x) : i < n ∧ x = io (i : Int) := by
  have h1 : i < n := by have := (List.getElem?_eq_some_iff.mp h).1; rw [rngI_len] at this; exact this
  rw [rngI_at h1] at h
  exact ⟨h1, (Option.some.inj h).symm⟩
theorem ints_py (gs : List Int) : gs.map io = (gs.map PyData.int).map D.py := by rw [List.map_map]; rfl
theorem add_ok {acc : List D} {y : D} (h : acc.length < 16777216) : addL acc y = some (acc ++ [y]) := by
  unfold addL; rw [if_pos (by rw [sizeLine_eq]; exact h)]
theorem goals_draw {Φ : Nat → Fn} {t : Nat} (d : Dt Φ t) {n : Int} (hn : 0 ≤ n) (hn2 : n ≤ 1000) : DrawF (run Φ (gc_law_goals t)) [.int n] fun p => ∃ g, p = aimP g ∧ ∀ gs, g = some gs → GoalsOk n gs := ⟨fun a b hp => by
  refine run_gv rfl ?_
  unfold gc_law_goals
  simp only [exec, ev, evs, tst, srcs, GS_seq, GS_thn, GS_nx, GS_bk, GS_ct, GS_rt, Gv_bind, Gv_ok, Gv_give, Gv_nox, Gv_req, GS_req, R.bind_ok, R.thn_ok, RS.thn_nx, giveS_some, start, List.map_cons, List.map_nil, List.length_cons, List.length_nil, List.cons_append, List.nil_append, List.append_nil, List.replicate_succ, List.replicate_zero, Nat.reduceAdd, Nat.reduceSub, env_z, env_s, dl_z, dl_s, selO, set_z, set_s, asg, Option.some.injEq, exists_eq_left', bi1, bi0, isAbs, WW.wipe, setAll, if_true, if_false, Bool.false_eq_true, reduceIte, biO, mtO, pre_upper, pre_join, Option.map_some, Option.bind_some, exists_eq_left, and_true, true_and, c_lt, c_le, c_gt, c_ge, t_bool, t_int, b_add, b_sub, b_mul, b_div, b_mod, GS_ost, p_int, newL_t, newL_f, allPy_cons, allPy_nil, allPy_map, slc_tup, sset_z, sset_s, sto_z, sto_s, mkT, sizeBig, Nat.reduceLeDiff, Int.reduceLT, Int.reduceLE, decide_true, decide_false, ↓reduceIte, tyOk, subTy, List.all_cons, List.all_nil, List.any_cons, List.any_nil, beq_self_eq_true, Bool.true_or, Bool.or_false, Bool.false_or, Bool.and_true, Bool.true_and, Bool.or_true, String.reduceBEq, Bool.and_false, Bool.false_and]
  refine g_take d rfl hp (by decide) (by decide) fun r a' b' r0 r1 h1 => ?_
  simp only [eq_int, exec, ev, evs, tst, srcs, GS_seq, GS_thn, GS_nx, GS_bk, GS_ct, GS_rt, Gv_bind, Gv_ok, Gv_give, Gv_nox, Gv_req, GS_req, R.bind_ok, R.thn_ok, RS.thn_nx, giveS_some, start, List.map_cons, List.map_nil, List.length_cons, List.length_nil, List.cons_append, List.nil_append, List.append_nil, List.replicate_succ, List.replicate_zero, Nat.reduceAdd, Nat.reduceSub, env_z, env_s, dl_z, dl_s, selO, set_z, set_s, asg, Option.some.injEq, exists_eq_left', bi1, bi0, isAbs, WW.wipe, setAll, if_true, if_false, Bool.false_eq_true, reduceIte, biO, mtO, pre_upper, pre_join, Option.map_some, Option.bind_some, exists_eq_left, and_true, true_and, c_lt, c_le, c_gt, c_ge, t_bool, t_int, b_add, b_sub, b_mul, b_div, b_mod, GS_ost, p_int, newL_t, newL_f, allPy_cons, allPy_nil, allPy_map, slc_tup, sset_z, sset_s, sto_z, sto_s, mkT, sizeBig, Nat.reduceLeDiff, Int.reduceLT, Int.reduceLE, decide_true, decide_false, ↓reduceIte, tyOk, subTy, List.all_cons, List.all_nil, List.any_cons, List.any_nil, beq_self_eq_true, Bool.true_or, Bool.or_false, Bool.false_or, Bool.and_true, Bool.true_and, Bool.or_true, String.reduceBEq, Bool.and_false, Bool.false_and]
  by_cases hr : r = 0
  · simp only [hr, exec, ev, evs, tst, srcs, GS_seq, GS_thn, GS_nx, GS_bk, GS_ct, GS_rt, Gv_bind, Gv_ok, Gv_give, Gv_nox, Gv_req, GS_req, R.bind_ok, R.thn_ok, RS.thn_nx, giveS_some, start, List.map_cons, List.map_nil, List.length_cons, List.length_nil, List.cons_append, List.nil_append, List.append_nil, List.replicate_succ, List.replicate_zero, Nat.reduceAdd, Nat.reduceSub, env_z, env_s, dl_z, dl_s, selO, set_z, set_s, asg, Option.some.injEq, exists_eq_left', bi1, bi0, isAbs, WW.wipe, setAll, if_true, if_false, Bool.false_eq_true, reduceIte, biO, mtO, pre_upper, pre_join, Option.map_some, Option.bind_some, exists_eq_left, and_true, true_and, c_lt, c_le, c_gt, c_ge, t_bool, t_int, b_add, b_sub, b_mul, b_div, b_mod, GS_ost, p_int, newL_t, newL_f, allPy_cons, allPy_nil, allPy_map, slc_tup, sset_z, sset_s, sto_z, sto_s, mkT, sizeBig, Nat.reduceLeDiff, Int.reduceLT, Int.reduceLE, decide_true, decide_false, ↓reduceIte, tyOk, subTy, List.all_cons, List.all_nil, List.any_cons, List.any_nil, beq_self_eq_true, Bool.true_or, Bool.or_false, Bool.false_or, Bool.and_true, Bool.true_and, Bool.or_true, String.reduceBEq, Bool.and_false, Bool.false_and]
    exact ⟨_, rfl, ⟨none, rfl, fun _ h => nomatch h⟩, a', b', h1, rfl⟩
  · simp only [hr, exec, ev, evs, tst, srcs, GS_seq, GS_thn, GS_nx, GS_bk, GS_ct, GS_rt, Gv_bind, Gv_ok, Gv_give, Gv_nox, Gv_req, GS_req, R.bind_ok, R.thn_ok, RS.thn_nx, giveS_some, start, List.map_cons, List.map_nil, List.length_cons, List.length_nil, List.cons_append, List.nil_append, List.append_nil, List.replicate_succ, List.replicate_zero, Nat.reduceAdd, Nat.reduceSub, env_z, env_s, dl_z, dl_s, selO, set_z, set_s, asg, Option.some.injEq, exists_eq_left', bi1, bi0, isAbs, WW.wipe, setAll, if_true, if_false, Bool.false_eq_true, reduceIte, biO, mtO, pre_upper, pre_join, Option.map_some, Option.bind_some, exists_eq_left, and_true, true_and, c_lt, c_le, c_gt, c_ge, t_bool, t_int, b_add, b_sub, b_mul, b_div, b_mod, GS_ost, p_int, newL_t, newL_f, allPy_cons, allPy_nil, allPy_map, slc_tup, sset_z, sset_s, sto_z, sto_s, mkT, sizeBig, Nat.reduceLeDiff, Int.reduceLT, Int.reduceLE, decide_true, decide_false, ↓reduceIte, tyOk, subTy, List.all_cons, List.all_nil, List.any_cons, List.any_nil, beq_self_eq_true, Bool.true_or, Bool.or_false, Bool.false_or, Bool.and_true, Bool.true_and, Bool.or_true, String.reduceBEq, Bool.and_false, Bool.false_and]
    unfold gl1_law_goals
    refine lc_gen ?_
    simp only [exec, ev, evs, tst, srcs, GS_seq, GS_thn, GS_nx, GS_bk, GS_ct, GS_rt, Gv_bind, Gv_ok, Gv_give, Gv_nox, Gv_req, GS_req, R.bind_ok, R.thn_ok, RS.thn_nx, giveS_some, start, List.map_cons, List.map_nil, List.length_cons, List.length_nil, List.cons_append, List.nil_append, List.append_nil, List.replicate_succ, List.replicate_zero, Nat.reduceAdd, Nat.reduceSub, env_z, env_s, dl_z, dl_s, selO, set_z, set_s, asg, Option.some.injEq, exists_eq_left', bi1, bi0, isAbs, WW.wipe, setAll, if_true, if_false, Bool.false_eq_true, reduceIte, biO, mtO, pre_upper, pre_join, Option.map_some, Option.bind_some, exists_eq_left, and_true, true_and, c_lt, c_le, c_gt, c_ge, t_bool, t_int, b_add, b_sub, b_mul, b_div, b_mod, GS_ost, p_int, newL_t, newL_f, allPy_cons, allPy_nil, allPy_map, slc_tup, sset_z, sset_s, sto_z, sto_s, mkT, sizeBig, Nat.reduceLeDiff, Int.reduceLT, Int.reduceLE, decide_true, decide_false, ↓reduceIte, tyOk, subTy, List.all_cons, List.all_nil, List.any_cons, List.any_nil, beq_self_eq_true, Bool.true_or, Bool.or_false, Bool.false_or, Bool.and_true, Bool.true_and, Bool.or_true, String.reduceBEq, Bool.and_false, Bool.false_and]
    refine ⟨_, rng_its (by omega) (by omega), rfl, rfl, by rw [rngI_len]; exact sizeBig (by omega), fun i st acc => ∃ gs : List Int, acc = gs.map .int ∧ gs.length ≤ i ∧ gs.Pairwise (· < ·) ∧ (∀ g ∈ gs, 0 ≤ g ∧ g < i) ∧ ∃ a b, potOk a b ∧ st = [.lst [io a, io b]],
      ⟨[], rfl, Nat.le_refl _, .nil, (fun _ h => nomatch h), a', b', h1, rfl⟩, fun i st acc ⟨gs, e, h, _⟩ => by rw [e, List.length_map]; exact h, fun i x st acc hx ⟨gs, e, g1, g2, g3, a2, b2, g4, est⟩ => ?_, fun st acc ⟨gs, e, g1, g2, g3, a2, b2, g4, est⟩ => ?_⟩
    · obtain ⟨hi, rfl⟩ := rngI_get hx
      subst est; subst e
      refine g_take d rfl g4 (by decide) (by decide) fun r2 a3 b3 q0 q1 h3 => ?_
      simp only [exec, ev, evs, tst, srcs, GS_seq, GS_thn, GS_nx, GS_bk, GS_ct, GS_rt, Gv_bind, Gv_ok, Gv_give, Gv_nox, Gv_req, GS_req, R.bind_ok, R.thn_ok, RS.thn_nx, giveS_some, start, List.map_cons, List.map_nil, List.length_cons, List.length_nil, List.cons_append, List.nil_append, List.append_nil, List.replicate_succ, List.replicate_zero, Nat.reduceAdd, Nat.reduceSub, env_z, env_s, dl_z, dl_s, selO, set_z, set_s, asg, Option.some.injEq, exists_eq_left', bi1, bi0, isAbs, WW.wipe, setAll, if_true, if_false, Bool.false_eq_true, reduceIte, biO, mtO, pre_upper, pre_join, Option.map_some, Option.bind_some, exists_eq_left, and_true, true_and, c_lt, c_le, c_gt, c_ge, t_bool, t_int, b_add, b_sub, b_mul, b_div, b_mod, GS_ost, p_int, newL_t, newL_f, allPy_cons, allPy_nil, allPy_map, slc_tup, sset_z, sset_s, sto_z, sto_s, mkT, sizeBig, Nat.reduceLeDiff, Int.reduceLT, Int.reduceLE, decide_true, decide_false, ↓reduceIte, tyOk, subTy, List.all_cons, List.all_nil, List.any_cons, List.any_nil, beq_self_eq_true, Bool.true_or, Bool.or_false, Bool.false_or, Bool.and_true, Bool.true_and, Bool.or_true, String.reduceBEq, Bool.and_false, Bool.false_and]
      split
      · refine ⟨_, rfl, gs ++ [(i : Int)], by rw [List.map_append]; rfl, by rw [List.length_append, List.length_singleton]; omega, List.pairwise_append.mpr ⟨g2, List.pairwise_singleton _ _, fun x hx y hy => ?_⟩, fun x hx => ?_, a3, b3, h3, rfl⟩
        · rw [List.mem_singleton.mp hy]; exact (g3 x hx).2
        · rcases List.mem_append.mp hx with hx | hx
          · have := g3 x hx; omega
          · rw [List.mem_singleton.mp hx]; omega
      · exact ⟨gs, rfl, by omega, g2, fun x hx => by have := g3 x hx; omega, a3, b3, h3, rfl⟩
    · subst est; subst e
      simp only [bi_tup_lst, exec, ev, evs, tst, srcs, GS_seq, GS_thn, GS_nx, GS_bk, GS_ct, GS_rt, Gv_bind, Gv_ok, Gv_give, Gv_nox, Gv_req, GS_req, R.bind_ok, R.thn_ok, RS.thn_nx, giveS_some, start, List.map_cons, List.map_nil, List.length_cons, List.length_nil, List.cons_append, List.nil_append, List.append_nil, List.replicate_succ, List.replicate_zero, Nat.reduceAdd, Nat.reduceSub, env_z, env_s, dl_z, dl_s, selO, set_z, set_s, asg, Option.some.injEq, exists_eq_left', bi1, bi0, isAbs, WW.wipe, setAll, if_true, if_false, Bool.false_eq_true, reduceIte, biO, mtO, pre_upper, pre_join, Option.map_some, Option.bind_some, exists_eq_left, and_true, true_and, c_lt, c_le, c_gt, c_ge, t_bool, t_int, b_add, b_sub, b_mul, b_div, b_mod, GS_ost, p_int, newL_t, newL_f, allPy_cons, allPy_nil, allPy_map, slc_tup, sset_z, sset_s, sto_z, sto_s, mkT, sizeBig, Nat.reduceLeDiff, Int.reduceLT, Int.reduceLE, decide_true, decide_false, ↓reduceIte, tyOk, subTy, List.all_cons, List.all_nil, List.any_cons, List.any_nil, beq_self_eq_true, Bool.true_or, Bool.or_false, Bool.false_or, Bool.and_true, Bool.true_and, Bool.or_true, String.reduceBEq, Bool.and_false, Bool.false_and]
      rw [rngI_len] at g3
      exact ⟨_, rfl, ⟨some gs, rfl, fun gs' e => by cases e; exact ⟨g2, fun g hg => by have := g3 g hg; omega⟩⟩, a2, b2, g4, rfl⟩⟩
theorem world_draw {Φ : Nat → Fn} {o : Nat} (d : Df Φ o) {n : Int} {ps : List Po} (hne : ∀ p ∈ ps, p.arms ≠ []) (hal : ∀ p ∈ ps, p.arms.length ≤ 1000) (hz : ps.length ≤ 100000) :
    DrawF (run Φ (gc_law_world o)) [webP n ps] fun p => ∃ ws : List Int, p = .tuple (ws.map .int) ∧ Paired (fun (p : Po) w => w ∈ p.arms) ps ws := ⟨fun a b hp => by
  refine run_gv rfl ?_
  unfold gc_law_world
  simp only [exec, ev, evs, tst, srcs, GS_seq, GS_thn, GS_nx, GS_bk, GS_ct, GS_rt, Gv_bind, Gv_ok, Gv_give, Gv_nox, Gv_req, GS_req, R.bind_ok, R.thn_ok, RS.thn_nx, giveS_some, start, List.map_cons, List.map_nil, List.length_cons, List.length_nil, List.cons_append, List.nil_append, List.append_nil, List.replicate_succ, List.replicate_zero, Nat.reduceAdd, Nat.reduceSub, env_z, env_s, dl_z, dl_s, selO, set_z, set_s, asg, Option.some.injEq, exists_eq_left', bi1, bi0, isAbs, WW.wipe, setAll, if_true, if_false, Bool.false_eq_true, reduceIte, biO, mtO, pre_upper, pre_join, Option.map_some, Option.bind_some, exists_eq_left, and_true, true_and, c_lt, c_le, c_gt, c_ge, t_bool, t_int, b_add, b_sub, b_mul, b_div, b_mod, GS_ost, p_int, newL_t, newL_f, allPy_cons, allPy_nil, allPy_map, slc_tup, sset_z, sset_s, sto_z, sto_s, mkT, sizeBig, Nat.reduceLeDiff, Int.reduceLT, Int.reduceLE, decide_true, decide_false, ↓reduceIte, tyOk, subTy, List.all_cons, List.all_nil, List.any_cons, List.any_nil, beq_self_eq_true, Bool.true_or, Bool.or_false, Bool.false_or, Bool.and_true, Bool.true_and, Bool.or_true, String.reduceBEq, Bool.and_false, Bool.false_and]
  unfold gl1_law_world
  refine lc_gen ?_
  simp only [webP, idx_tup, exec, ev, evs, tst, srcs, GS_seq, GS_thn, GS_nx, GS_bk, GS_ct, GS_rt, Gv_bind, Gv_ok, Gv_give, Gv_nox, Gv_req, GS_req, R.bind_ok, R.thn_ok, RS.thn_nx, giveS_some, start, List.map_cons, List.map_nil, List.length_cons, List.length_nil, List.cons_append, List.nil_append, List.append_nil, List.replicate_succ, List.replicate_zero, Nat.reduceAdd, Nat.reduceSub, env_z, env_s, dl_z, dl_s, selO, set_z, set_s, asg, Option.some.injEq, exists_eq_left', bi1, bi0, isAbs, WW.wipe, setAll, if_true, if_false, Bool.false_eq_true, reduceIte, biO, mtO, pre_upper, pre_join, Option.map_some, Option.bind_some, exists_eq_left, and_true, true_and, c_lt, c_le, c_gt, c_ge, t_bool, t_int, b_add, b_sub, b_mul, b_div, b_mod, GS_ost, p_int, newL_t, newL_f, allPy_cons, allPy_nil, allPy_map, slc_tup, sset_z, sset_s, sto_z, sto_s, mkT, sizeBig, Nat.reduceLeDiff, Int.reduceLT, Int.reduceLE, decide_true, decide_false, ↓reduceIte, tyOk, subTy, List.all_cons, List.all_nil, List.any_cons, List.any_nil, beq_self_eq_true, Bool.true_or, Bool.or_false, Bool.false_or, Bool.and_true, Bool.true_and, Bool.or_true, String.reduceBEq, Bool.and_false, Bool.false_and]
  refine ⟨_, rfl, _, rfl, rfl, rfl, by rw [List.length_map, List.length_map]; exact sizeBig (by omega), fun i st acc => ∃ ws : List Int, acc = ws.map .int ∧ Paired (fun (p : Po) w => w ∈ p.arms) (ps.take i) ws ∧ ∃ a b, potOk a b ∧ st = [.lst [io a, io b]],
    ⟨[], rfl, by rw [List.take_zero]; exact .nil, a, b, hp, rfl⟩, fun i st acc ⟨ws, e, h, _⟩ => by rw [e, List.length_map, ← Paired.length h, List.length_take]; omega, fun i x st acc hx ⟨ws, e, h, a2, b2, g4, est⟩ => ?_, fun st acc ⟨ws, e, h, a2, b2, g4, est⟩ => ?_⟩
  · rw [List.map_map, List.getElem?_map] at hx
    obtain ⟨p, hp', rfl⟩ := Option.map_eq_some_iff.mp hx
    subst est; subst e
    have hm := List.mem_of_getElem? hp'
    have e1 : idxO [.lst [io a2, io b2]] ((D.py ∘ Po.py) p) (io 2) = some (.py (.tuple (p.arms.map .int))) := rfl
    have e2 : biList false [.lst [io a2, io b2]] (.py (.tuple (p.arms.map .int))) = .ok (.py (.list (p.arms.map .int))) [.lst [io a2, io b2]] := by
      simp only [biList, asLT, asT, newL, allPy_map, Option.map_some, giveS_some]
    simp only [e1, e2, exec, ev, evs, tst, srcs, GS_seq, GS_thn, GS_nx, GS_bk, GS_ct, GS_rt, Gv_bind, Gv_ok, Gv_give, Gv_nox, Gv_req, GS_req, R.bind_ok, R.thn_ok, RS.thn_nx, giveS_some, start, List.map_cons, List.map_nil, List.length_cons, List.length_nil, List.cons_append, List.nil_append, List.append_nil, List.replicate_succ, List.replicate_zero, Nat.reduceAdd, Nat.reduceSub, env_z, env_s, dl_z, dl_s, selO, set_z, set_s, asg, Option.some.injEq, exists_eq_left', bi1, bi0, isAbs, WW.wipe, setAll, if_true, if_false, Bool.false_eq_true, reduceIte, biO, mtO, pre_upper, pre_join, Option.map_some, Option.bind_some, exists_eq_left, and_true, true_and, c_lt, c_le, c_gt, c_ge, t_bool, t_int, b_add, b_sub, b_mul, b_div, b_mod, GS_ost, p_int, newL_t, newL_f, allPy_cons, allPy_nil, allPy_map, slc_tup, sset_z, sset_s, sto_z, sto_s, mkT, sizeBig, Nat.reduceLeDiff, Int.reduceLT, Int.reduceLE, decide_true, decide_false, ↓reduceIte, tyOk, subTy, List.all_cons, List.all_nil, List.any_cons, List.any_nil, beq_self_eq_true, Bool.true_or, Bool.or_false, Bool.false_or, Bool.and_true, Bool.true_and, Bool.or_true, String.reduceBEq, Bool.and_false, Bool.false_and]
    refine g_of d rfl g4 (drawnL (Q := fun q => ∃ w : Int, q = .int w ∧ w ∈ p.arms) (by rw [List.length_map]; exact List.length_pos_iff.mpr (hne p hm)) (by rw [List.length_map]; exact sizeBig (by have := hal p hm; omega)) fun q hq => ?_) fun y a3 b3 ⟨w, ey, hw⟩ h3 => ?_
    · obtain ⟨w, hw, rfl⟩ := List.mem_map.mp hq
      exact ⟨w, rfl, hw⟩
    · subst ey
      refine ⟨_, rfl, ws ++ [w], by rw [List.map_append]; rfl, ?_, a3, b3, h3, rfl⟩
      rw [List.take_add_one, hp']
      exact Paired.snoc h hw
  · rw [List.length_map, List.length_map, List.take_length] at h
    subst est; subst e
    simp only [bi_tup_lst, exec, ev, evs, tst, srcs, GS_seq, GS_thn, GS_nx, GS_bk, GS_ct, GS_rt, Gv_bind, Gv_ok, Gv_give, Gv_nox, Gv_req, GS_req, R.bind_ok, R.thn_ok, RS.thn_nx, giveS_some, start, List.map_cons, List.map_nil, List.length_cons, List.length_nil, List.cons_append, List.nil_append, List.append_nil, List.replicate_succ, List.replicate_zero, Nat.reduceAdd, Nat.reduceSub, env_z, env_s, dl_z, dl_s, selO, set_z, set_s, asg, Option.some.injEq, exists_eq_left', bi1, bi0, isAbs, WW.wipe, setAll, if_true, if_false, Bool.false_eq_true, reduceIte, biO, mtO, pre_upper, pre_join, Option.map_some, Option.bind_some, exists_eq_left, and_true, true_and, c_lt, c_le, c_gt, c_ge, t_bool, t_int, b_add, b_sub, b_mul, b_div, b_mod, GS_ost, p_int, newL_t, newL_f, allPy_cons, allPy_nil, allPy_map, slc_tup, sset_z, sset_s, sto_z, sto_s, mkT, sizeBig, Nat.reduceLeDiff, Int.reduceLT, Int.reduceLE, decide_true, decide_false, ↓reduceIte, tyOk, subTy, List.all_cons, List.all_nil, List.any_cons, List.any_nil, beq_self_eq_true, Bool.true_or, Bool.or_false, Bool.false_or, Bool.and_true, Bool.true_and, Bool.or_true, String.reduceBEq, Bool.and_false, Bool.false_and]
    exact ⟨_, rfl, ⟨ws, rfl, h⟩, a2, b2, g4, rfl⟩⟩
end WW

namespace WW
open PySem PySem.Spec
/-! ### dicts of data -/
def pyv {κ : Type} (l : List (κ × PyData)) : List (κ × D) := l.map fun kv => (kv.1, .py kv.2)
theorem pyv_keys {κ : Type} (l : List (κ × PyData)) : (pyv l).map (·.1) = l.map (·.1) := by unfold pyv; rw [List.map_map]; rfl
theorem pyv_vals {κ : Type} (l : List (κ × PyData)) : (pyv l).map (·.2) = (l.map (·.2)).map .py := by unfold pyv; rw [List.map_map, List.map_map]; rfl
theorem pyv_len {κ : Type} (l : List (κ × PyData)) : (pyv l).length = l.length := by unfold pyv; rw [List.length_map]
theorem pyv_zip {κ : Type} (l : List (κ × PyData)) : ((pyv l).map (·.1)).zip ((l.map (·.2)).map .py) = pyv l := by
  induction l with
  | nil => rfl
  | cons x l ih => 
    show (x.1, D.py x.2) :: ((pyv l).map (·.1)).zip ((l.map (·.2)).map .py) = _
    rw [ih]; rfl
theorem put_pyv {κ : Type} [DecidableEq κ] (l : List (κ × PyData)) (k : κ) (v : PyData) : put (pyv l) k (.py v) = pyv (put l k v) := by
  have e : ((pyv l).any fun kv => decide (kv.1 = k)) = l.any fun kv => decide (kv.1 = k) := by unfold pyv; rw [List.any_map]; rfl
  unfold put
  rw [e]
  split
  · unfold pyv
    rw [List.map_map, List.map_map]
    apply List.map_congr_left
    intro x _
    simp only [Function.comp]
    split <;> rfl
  · simp [pyv]
theorem look_pyv {κ : Type} [DecidableEq κ] (l : List (κ × PyData)) (k : κ) : look (pyv l) k = (look l k).map .py := by
  unfold look pyv
  induction l with
  | nil => rfl
  | cons x l ih =>
    rw [List.map_cons, List.find?_cons, List.find?_cons]
    cases h : decide (x.1 = k) with
    | true => rfl
    | false => exact ih
theorem put_len {κ β : Type} [DecidableEq κ] (l : List (κ × β)) (k : κ) (v : β) : (put l k v).length ≤ l.length + 1 := by
  unfold put
  split
  · rw [List.length_map]; omega
  · simp
theorem look_put {κ β : Type} [DecidableEq κ] (l : List (κ × β)) (k q : κ) (v : β) : look (put l k v) q = if k = q then some v else look l q := by
  unfold put
  have any_look : ∀ (l : List (κ × β)), (l.any fun kv => decide (kv.1 = k)) = (look l k).isSome := by
    intro l
    unfold look
    rw [Option.isSome_map]
    induction l with
    | nil => rfl
    | cons x l ih =>
      rw [List.any_cons, List.find?_cons]
      cases h : decide (x.1 = k) with
      | true => rfl
      | false => simpa using ih
  split
  · rename_i h
    unfold look
    induction l with
    | nil => simp at h
    | cons x l ih =>
      rw [List.map_cons, List.find?_cons, List.find?_cons]
      by_cases hx : x.1 = k
      · rw [if_pos hx]
        by_cases hq : k = q
        · subst hq
          rw [if_pos rfl]
          simp [hx]
        · rw [if_neg hq]
          have h1 : decide (x.1 = q) = false := decide_eq_false (fun z => hq (hx.symm.trans z))
          simp only [h1]
          -- the rest holds k no more than before
          have : ∀ (l : List (κ × β)), (List.find? (fun kv => decide (kv.1 = q)) (l.map fun kv => if kv.1 = k then (kv.1, v) else kv)).map (·.2) = (List.find? (fun kv => decide (kv.1 = q)) l).map (·.2) := by
            intro l
            induction l with
            | nil => rfl
            | cons y l ih2 =>
              rw [List.map_cons, List.find?_cons, List.find?_cons]
              by_cases hy : y.1 = k
              · rw [if_pos hy]
                have h2 : decide (y.1 = q) = false := decide_eq_false (fun z => hq (hy.symm.trans z))
                simp only [h2]; exact ih2
              · rw [if_neg hy]
                cases decide (y.1 = q) with
                | true => rfl
                | false => exact ih2
          exact this l
      · rw [if_neg hx]
        by_cases hq : x.1 = q
        · have h1 : decide (x.1 = q) = true := decide_eq_true hq
          simp only [h1]
          rw [if_neg (fun z => hx (hq.trans z.symm))]
        · have h1 : decide (x.1 = q) = false := decide_eq_false hq
          simp only [h1]
          refine ih ?_
          rw [List.any_cons, decide_eq_false hx, Bool.false_or] at h
          exact h
  · rename_i h
    rw [any_look, Bool.not_eq_true] at h
    unfold look at h ⊢
    rw [List.find?_append]
    by_cases hq : k = q
    · subst hq
      rw [if_pos rfl]
      rw [Option.isSome_map] at h
      cases e : List.find? (fun kv => decide (kv.1 = k)) l with
      | some z => rw [e] at h; cases h
      | none => simp
    · rw [if_neg hq]
      cases e : List.find? (fun kv => decide (kv.1 = q)) l with
      | some z => rfl
      | none => simp [hq]
theorem frz_dT (p : Nat → Bool) (st : Store) (l : List (List Key × PyData)) : frzO p st (.dT (pyv l)) = some (.dT (pyv l)) := by
  simp only [frzO, pyv_vals, frzL_map, Option.map_some, pyv_zip]
theorem frz_dK (p : Nat → Bool) (st : Store) (l : List (Key × PyData)) : frzO p st (.dK (pyv l)) = some (.dK (pyv l)) := by
  simp only [frzO, pyv_vals, frzL_map, Option.map_some, pyv_zip]
theorem frz_lst (p : Nat → Bool) (st : Store) (l : List PyData) : frzO p st (.lst (l.map .py)) = some (.lst (l.map .py)) := by
  simp only [frzO, frzL_map, Option.map_some]
/-- a dict comprehension with tuples as keys -/
theorem dcT_gen {Φ : Nat → Fn} {own : List Nat} {src : CE} {tg : Tg} {t ke ve : CE} {env : Env} {st : Store} {P : D → Store → Prop}
    (hs : Gv (srcs Φ src env st) fun s st1 => s.lk = none ∧ s.gs = [] ∧ s.its.length ≤ sizeLine ∧ ∃ I : Nat → Store → List (List Key × PyData) → Prop, I 0 st1 [] ∧ (∀ i st acc, I i st acc → acc.length ≤ i) ∧
      (∀ i x st acc, s.its[i]? = some x → I i st acc → ∃ env1, asg tg x (WW.wipe env own) = some env1 ∧ Gv (tst Φ t env1 st) fun b st1 => if b = true then Gv (ev Φ ke env1 st1) fun y st2 => Gv (ev Φ ve env1 st2) fun z st3 => ∃ k p, dkey y = some (.many k) ∧ z = .py p ∧ I (i + 1) st3 (put acc k p) else I (i + 1) st1 acc) ∧
      (∀ st acc, I s.its.length st acc → P (.loc st.length) (st ++ [.dT (pyv acc)]))) : Gv (ev Φ (.dc 2 own src tg t ke ve) env st) P := by
  rw [ev, Gv_bind]
  refine hs.imp fun s st1 ⟨h1, h2, h3, I, h4, h5, h6, h7⟩ => ?_
  simp only
  rw [Gv_bind, Gv_nox, h1, h2]
  show Gv (lcL [] tg (tst Φ t) (fun env st => (ev Φ ke env st).bind fun a st => (ev Φ ve env st).bind fun b st => .ok (a, b) st) addT (WW.wipe env own) s.its st1 []) _
  have key := lcL_ok (gs := []) (tg := tg) (t := tst Φ t) (e := fun env st => (ev Φ ke env st).bind fun a st => (ev Φ ve env st).bind fun b st => R.ok (a, b) st) (add := addT) (env := WW.wipe env own) (P := fun acc st => Gv (newD 1 (.dT acc) st) P) s.its (fun i st acc => ∃ ps : List (List Key × PyData), acc = pyv ps ∧ I i st ps) (fun _ _ _ _ => still_nil _)
    (fun i x st acc hx ⟨ps, e1, hI⟩ => by
      obtain ⟨env1, a1, a2⟩ := h6 i x st ps hx hI
      refine ⟨env1, a1, a2.imp fun b st1 q => ?_⟩
      cases b with
      | true =>
        rw [if_pos rfl] at q ⊢
        rw [Gv_bind]
        refine q.imp fun y st2 q => ?_
        rw [Gv_bind]
        refine q.imp fun z st3 ⟨k, p, ey, ez, q⟩ => ?_
        rw [Gv_ok]
        refine ⟨pyv (put ps k p), ?_, _, rfl, q⟩
        unfold addT
        simp only [ey]
        rw [if_pos, e1, ez, put_pyv]
        have := h5 _ _ _ hI
        have h8 := (List.getElem?_eq_some_iff.mp hx).1
        rw [e1, pyv_len]; omega
      | false =>
        rw [if_neg (by simp)] at q ⊢
        exact ⟨ps, e1, q⟩)
    (fun st acc ⟨ps, e1, hI⟩ => by
      rw [e1]
      exact ⟨h7 _ _ hI⟩) 0 st1 [] (Nat.zero_le _) ⟨[], rfl, h4⟩
  simpa using key
/-- a call by data that makes a new thing -/
theorem call_new {φ : Fn} (ps : List PyData) {st : Store} {P : D → Store → Prop} (h : Gv (φ (ps.map .py) []) fun d st1 => ∃ j o, d = .loc j ∧ (st1[j]?).bind (frzO (butOne 0 j) st1) = some o ∧ P (.loc st.length) (st ++ [o])) : Gv (callM 2 φ (ps.map .py) st) P := by
  refine sub_gv (md := 2) (ls := []) (os := []) (locs_data ps) List.nodup_nil rfl ?_
  rw [renum_data]
  refine h.imp fun d st1 ⟨j, o, e, e2, q⟩ => ⟨j, o, [], e, Nat.zero_le _, e2, rfl, ?_⟩
  have : backIn st [] [] = st := by cases st <;> rfl
  rw [this]; exact q
end WW

namespace WW
open PySem PySem.Spec
/-! ### what the program makes of worlds -/
def gc_ends_of : CF := ⟨2, 2, .seq (.ret (.ite (.tof (.cmp .Is (.var 1) (.con .none))) (.bi .tupR false (.cons (.idx (.var 0) (.con (.int 0))) (.nil))) (.var 1)))
  (.skip)⟩
def gd1_ways_in : CE := .dc 2 [2, 3] (.zip (.cons (.idx (.var 0) (.con (.int 1))) (.cons (.var 1) (.nil)))) (.cons (.nam 2) (.cons (.nam 3) (.nil))) (.yes) (.slc false (.var 2) (.abs) (.con (.int 2))) (.var 3)
def gc_ways_in : CF := ⟨2, 4, .seq (.ret ((gd1_ways_in)))
  (.skip)⟩
def gb1_gone (i_ways_in : Nat) : CS := .seq (.ite (.tof (.cmp .NotIn (.tup (.cons (.idx (.var 6) (.un .USub (.con (.int 1)))) (.cons (.var 4) (.nil)))) (.var 5)))
  (.seq (.brk)
  (.skip))
  (.skip))
  (.seq (.exp (.mt .append (.var 6) (.cons (.idx (.var 5) (.tup (.cons (.idx (.var 6) (.un .USub (.con (.int 1)))) (.cons (.var 4) (.nil))))) (.nil))))
  (.skip))
def gc_gone (i_ways_in : Nat) : CF := ⟨4, 7, .seq (.par [5, 6] (.cons (.call 2 i_ways_in (.cons (.var 0) (.cons (.var 1) (.nil)))) (.cons (.lst true (.cons (.var 2) (.nil))) (.nil))))
  (.seq (.for (.seq (.var 3)) (.nam 4) (gb1_gone i_ways_in))
  (.seq (.ret (.bi .tuple false (.cons (.var 6) (.nil))))
  (.skip)))⟩
def gb1_starts (i_ends_of i_gone : Nat) : CS := .seq (.asg (.nam 7) (.call 0 i_gone (.cons (.var 0) (.cons (.var 1) (.cons (.var 4) (.cons (.var 2) (.nil)))))))
  (.seq (.ite (.tand (.tof (.cmp .Eq (.bi .len false (.cons (.var 7) (.nil))) (.bin .Add false (.bi .len false (.cons (.var 2) (.nil))) (.con (.int 1))))) (.tof (.cmp .In (.idx (.var 7) (.un .USub (.con (.int 1)))) (.var 5))))
  (.seq (.exp (.mt .append (.var 6) (.cons (.var 4) (.nil))))
  (.skip))
  (.skip))
  (.skip))
def gc_starts (i_ends_of i_gone : Nat) : CF := ⟨4, 8, .seq (.par [5, 6] (.cons (.call 0 i_ends_of (.cons (.var 0) (.cons (.var 3) (.nil)))) (.cons (.lst true (.nil)) (.nil))))
  (.seq (.for (.rng (.cons (.idx (.var 0) (.con (.int 0))) (.nil))) (.nam 4) (gb1_starts i_ends_of i_gone))
  (.seq (.ret (.bi .tuple false (.cons (.var 6) (.nil))))
  (.skip)))⟩
def wayK (c : Int) (nm : Str) : List Key := [.inl c, .inr nm]
def waysOf (l : List (Po × Int)) : List (List Key × PyData) := l.foldl (fun acc pw => put acc (wayK pw.1.c pw.1.nm) (.int pw.2)) []
theorem zipD_py (xs ys : List PyData) : zipD (xs.map .py) (ys.map .py) = (xs.zip ys).map fun xy => .py (.tuple [xy.1, xy.2]) := by
  induction xs generalizing ys with
  | nil => rfl
  | cons x xs ih =>
    cases ys with
    | nil => rfl
    | cons y ys => 
      show D.py (.tuple [x, y]) :: zipD (xs.map .py) (ys.map .py) = _
      rw [ih]; rfl
theorem dkey_way (c : Int) (nm : Str) : dkey (.py (.tuple [.int c, .str nm])) = some (.many (wayK c nm)) := rfl
theorem zip_way (ps : List Po) (ws : List Int) : ((ps.map Po.py).zip (ws.map PyData.int)) = (ps.zip ws).map fun pw => (pw.1.py, .int pw.2) := by
  induction ps generalizing ws with
  | nil => rfl
  | cons p ps ih => cases ws with
    | nil => rfl
    | cons w ws => simp [ih]
theorem ways_new {Φ : Nat → Fn} {n : Int} {ps : List Po} {ws : List Int} {st : Store} {P : D → Store → Prop} (hz : ps.length ≤ 100000) (k : P (.loc st.length) (st ++ [.dT (pyv (waysOf (ps.zip ws)))])) :
    Gv (callM 2 (run Φ gc_ways_in) [.py (webP n ps), .py (.tuple (ws.map .int))] st) P := by
  refine call_new [webP n ps, .tuple (ws.map .int)] ?_
  refine run_gv rfl ?_
  unfold gc_ways_in
  simp only [exec, ev, evs, tst, srcs, GS_seq, GS_thn, GS_nx, GS_bk, GS_ct, GS_rt, Gv_bind, Gv_ok, Gv_give, Gv_nox, Gv_req, GS_req, R.bind_ok, R.thn_ok, RS.thn_nx, giveS_some, start, List.map_cons, List.map_nil, List.length_cons, List.length_nil, List.cons_append, List.nil_append, List.append_nil, List.replicate_succ, List.replicate_zero, Nat.reduceAdd, Nat.reduceSub, env_z, env_s, dl_z, dl_s, selO, set_z, set_s, asg, Option.some.injEq, exists_eq_left', bi1, bi0, isAbs, WW.wipe, setAll, if_true, if_false, Bool.false_eq_true, reduceIte, biO, mtO, pre_upper, pre_join, Option.map_some, Option.bind_some, exists_eq_left, and_true, true_and, c_lt, c_le, c_gt, c_ge, t_bool, t_int, b_add, b_sub, b_mul, b_div, b_mod, GS_ost, p_int, newL_t, newL_f, allPy_cons, allPy_nil, allPy_map, slc_tup, sset_z, sset_s, sto_z, sto_s, mkT, sizeBig, Nat.reduceLeDiff, Int.reduceLT, Int.reduceLE, decide_true, decide_false, ↓reduceIte, tyOk, subTy, List.all_cons, List.all_nil, List.any_cons, List.any_nil, beq_self_eq_true, Bool.true_or, Bool.or_false, Bool.false_or, Bool.and_true, Bool.true_and, Bool.or_true, String.reduceBEq, Bool.and_false, Bool.false_and]
  unfold gd1_ways_in
  refine dcT_gen ?_
  simp only [webP, idx_tup, exec, ev, evs, tst, srcs, GS_seq, GS_thn, GS_nx, GS_bk, GS_ct, GS_rt, Gv_bind, Gv_ok, Gv_give, Gv_nox, Gv_req, GS_req, R.bind_ok, R.thn_ok, RS.thn_nx, giveS_some, start, List.map_cons, List.map_nil, List.length_cons, List.length_nil, List.cons_append, List.nil_append, List.append_nil, List.replicate_succ, List.replicate_zero, Nat.reduceAdd, Nat.reduceSub, env_z, env_s, dl_z, dl_s, selO, set_z, set_s, asg, Option.some.injEq, exists_eq_left', bi1, bi0, isAbs, WW.wipe, setAll, if_true, if_false, Bool.false_eq_true, reduceIte, biO, mtO, pre_upper, pre_join, Option.map_some, Option.bind_some, exists_eq_left, and_true, true_and, c_lt, c_le, c_gt, c_ge, t_bool, t_int, b_add, b_sub, b_mul, b_div, b_mod, GS_ost, p_int, newL_t, newL_f, allPy_cons, allPy_nil, allPy_map, slc_tup, sset_z, sset_s, sto_z, sto_s, mkT, sizeBig, Nat.reduceLeDiff, Int.reduceLT, Int.reduceLE, decide_true, decide_false, ↓reduceIte, tyOk, subTy, List.all_cons, List.all_nil, List.any_cons, List.any_nil, beq_self_eq_true, Bool.true_or, Bool.or_false, Bool.false_or, Bool.and_true, Bool.true_and, Bool.or_true, String.reduceBEq, Bool.and_false, Bool.false_and]
  refine ⟨_, rfl, _, rfl, rfl, rfl, ?_⟩
  rw [zipD_py, zip_way, List.map_map]
  refine ⟨?_, fun i st acc => st = [] ∧ acc = waysOf ((ps.zip ws).take i) ∧ acc.length ≤ i, ⟨rfl, rfl, Nat.le_refl _⟩, fun i st acc h => h.2.2, fun i x st acc hx ⟨e1, e2, e3⟩ => ?_, fun st acc ⟨e1, e2, e3⟩ => ?_⟩
  · rw [List.length_map, List.length_zip]; exact sizeBig (by omega)
  · rw [List.getElem?_map] at hx
    obtain ⟨⟨p, w⟩, hp, rfl⟩ := Option.map_eq_some_iff.mp hx
    subst e1
    simp only [Function.comp, exec, ev, evs, tst, srcs, GS_seq, GS_thn, GS_nx, GS_bk, GS_ct, GS_rt, Gv_bind, Gv_ok, Gv_give, Gv_nox, Gv_req, GS_req, R.bind_ok, R.thn_ok, RS.thn_nx, giveS_some, start, List.map_cons, List.map_nil, List.length_cons, List.length_nil, List.cons_append, List.nil_append, List.append_nil, List.replicate_succ, List.replicate_zero, Nat.reduceAdd, Nat.reduceSub, env_z, env_s, dl_z, dl_s, selO, set_z, set_s, asg, Option.some.injEq, exists_eq_left', bi1, bi0, isAbs, WW.wipe, setAll, if_true, if_false, Bool.false_eq_true, reduceIte, biO, mtO, pre_upper, pre_join, Option.map_some, Option.bind_some, exists_eq_left, and_true, true_and, c_lt, c_le, c_gt, c_ge, t_bool, t_int, b_add, b_sub, b_mul, b_div, b_mod, GS_ost, p_int, newL_t, newL_f, allPy_cons, allPy_nil, allPy_map, slc_tup, sset_z, sset_s, sto_z, sto_s, mkT, sizeBig, Nat.reduceLeDiff, Int.reduceLT, Int.reduceLE, decide_true, decide_false, ↓reduceIte, tyOk, subTy, List.all_cons, List.all_nil, List.any_cons, List.any_nil, beq_self_eq_true, Bool.true_or, Bool.or_false, Bool.false_or, Bool.and_true, Bool.true_and, Bool.or_true, String.reduceBEq, Bool.and_false, Bool.false_and]
    have e4 : dkey (.py (.tuple (cut [PyData.int p.c, .str p.nm, .tuple (p.arms.map .int)] none (some 2)))) = some (.many (wayK p.c p.nm)) := rfl
    refine ⟨_, rfl, ?_⟩
    simp only [Po.py, exec, ev, evs, tst, srcs, GS_seq, GS_thn, GS_nx, GS_bk, GS_ct, GS_rt, Gv_bind, Gv_ok, Gv_give, Gv_nox, Gv_req, GS_req, R.bind_ok, R.thn_ok, RS.thn_nx, giveS_some, start, List.map_cons, List.map_nil, List.length_cons, List.length_nil, List.cons_append, List.nil_append, List.append_nil, List.replicate_succ, List.replicate_zero, Nat.reduceAdd, Nat.reduceSub, env_z, env_s, dl_z, dl_s, selO, set_z, set_s, asg, Option.some.injEq, exists_eq_left', bi1, bi0, isAbs, WW.wipe, setAll, if_true, if_false, Bool.false_eq_true, reduceIte, biO, mtO, pre_upper, pre_join, Option.map_some, Option.bind_some, exists_eq_left, and_true, true_and, c_lt, c_le, c_gt, c_ge, t_bool, t_int, b_add, b_sub, b_mul, b_div, b_mod, GS_ost, p_int, newL_t, newL_f, allPy_cons, allPy_nil, allPy_map, slc_tup, sset_z, sset_s, sto_z, sto_s, mkT, sizeBig, Nat.reduceLeDiff, Int.reduceLT, Int.reduceLE, decide_true, decide_false, ↓reduceIte, tyOk, subTy, List.all_cons, List.all_nil, List.any_cons, List.any_nil, beq_self_eq_true, Bool.true_or, Bool.or_false, Bool.false_or, Bool.and_true, Bool.true_and, Bool.or_true, String.reduceBEq, Bool.and_false, Bool.false_and]
    refine ⟨_, _, e4, rfl, ?_, ?_⟩
    · rw [List.take_add_one, hp, e2]
      unfold waysOf
      rw [Option.toList_some, List.foldl_append]; rfl
    · have := put_len acc (wayK p.c p.nm) (.int w); omega
  · subst e1
    rw [List.length_map, List.take_length] at e2
    subst e2
    exact ⟨0, _, rfl, frz_dT _ _ _, k⟩
/-- the ways as a look -/
def wayAt (l : List (List Key × PyData)) (c : Int) (nm : Str) : Option PyData := look l (wayK c nm)
theorem wayAt_of (l : List (Po × Int)) {c : Int} {nm : Str} {q : PyData} (h : wayAt (waysOf l) c nm = some q) : ∃ p w, (p, w) ∈ l ∧ p.c = c ∧ p.nm = nm ∧ q = .int w := by
  have key : ∀ (l : List (Po × Int)) (acc : List (List Key × PyData)), look (l.foldl (fun acc pw => put acc (wayK pw.1.c pw.1.nm) (.int pw.2)) acc) (wayK c nm) = some q → (∃ p w, (p, w) ∈ l ∧ p.c = c ∧ p.nm = nm ∧ q = .int w) ∨ look acc (wayK c nm) = some q := by
    intro l
    induction l with
    | nil => intro acc h; exact .inr h
    | cons x l ih =>
      intro acc h
      rw [List.foldl_cons] at h
      rcases ih _ h with ⟨p, w, h1, h2⟩ | h
      · exact .inl ⟨p, w, List.mem_cons_of_mem _ h1, h2⟩
      · rw [look_put] at h
        split at h
        · rename_i e
          cases h
          unfold wayK at e
          injection e with e1 e2
          injection e2 with e2 _
          injection e1 with e1
          injection e2 with e2
          exact .inl ⟨x.1, x.2, List.mem_cons_self .., e1, e2, rfl⟩
        · exact .inr h
  rcases key l [] h with h | h
  · exact h
  · cases h
def asI : PyData → Int
  | .int i => i
  | _ => 0
/-- from a crossing on, as long as ways lead on -/
def goneL (l : List (List Key × PyData)) : Int → List Str → List Int
  | s, [] => [s]
  | s, x :: r => match wayAt l s x with
    | none => [s]
    | some q => s :: goneL l (asI q) r
theorem goneL_ne (l : List (List Key × PyData)) (s : Int) (r : List Str) : goneL l s r ≠ [] := by
  cases r with
  | nil => simp [goneL]
  | cons x r => unfold goneL; split <;> simp
theorem goneL_len (l : List (List Key × PyData)) : ∀ (s : Int) (r : List Str), (goneL l s r).length ≤ r.length + 1
  | s, [] => by simp [goneL]
  | s, x :: r => by
    unfold goneL
    split
    · simp
    · rename_i q _
      have := goneL_len l (asI q) r
      simp only [List.length_cons]; omega
/-- so far, a row's first names; then on from its end -/
theorem goneL_snoc {l : List (List Key × PyData)} : ∀ {s : Int} {r : List Str} {x : Str}, (goneL l s r).length = r.length + 1 → goneL l s (r ++ [x]) = goneL l s r ++ (match wayAt l ((goneL l s r).getLastD 0) x with | none => [] | some q => [asI q])
  | s, [], x, _ => by
    simp only [goneL, List.nil_append, List.getLastD_cons, List.getLastD_nil]
    split <;> simp [goneL]
  | s, y :: r, x, h => by
    rw [List.cons_append]
    simp only [goneL] at h ⊢
    split at h
    · simp at h
    · rename_i q hq
      rw [List.length_cons, List.length_cons] at h
      have ih := goneL_snoc (l := l) (s := asI q) (r := r) (x := x) (by omega)
      rw [ih]
      have hne := goneL_ne l (asI q) r
      have : (s :: goneL l (asI q) r).getLastD 0 = (goneL l (asI q) r).getLastD 0 := by
        cases e : goneL l (asI q) r with
        | nil => exact absurd e hne
        | cons a b => simp
      rw [this]; rfl
theorem goneL_stop {l : List (List Key × PyData)} : ∀ {s : Int} {r r' : List Str}, (goneL l s r).length < r.length + 1 → goneL l s (r ++ r') = goneL l s r
  | s, [], r', h => by simp [goneL] at h
  | s, y :: r, r', h => by
    rw [List.cons_append]
    simp only [goneL] at h ⊢
    split at h
    · rename_i hq; simp only [hq]
    · rename_i q hq
      simp only [hq, List.length_cons] at h ⊢
      rw [goneL_stop (r' := r') (by omega)]
end WW

namespace WW
open PySem PySem.Spec
theorem isD_dT {st : Store} {n : Nat} {l : List (List Key × D)} (h : getS st n = some (.dT l)) : isD st (.loc n) = true := by simp only [isD, h]
theorem get_way {st : Store} {n : Nat} {l : List (List Key × PyData)} {c : Int} {nm : Str} (h : getS st n = some (.dT (pyv l))) : getO st (.loc n) (.many (wayK c nm)) = some ((wayAt l c nm).map .py) := by
  simp only [getO, h, look_pyv, wayAt]
theorem in_way {st : Store} {n : Nat} {l : List (List Key × PyData)} {c : Int} {nm : Str} (h : getS st n = some (.dT (pyv l))) : inO st (.py (.tuple [.int c, .str nm])) (.loc n) = some (wayAt l c nm).isSome := by
  simp only [inO, isD_dT h, dkey_way, Option.bind_some, get_way h, Option.map_some, Option.isSome_map]
theorem notin_way {st : Store} {n : Nat} {l : List (List Key × PyData)} {c : Int} {nm : Str} (h : getS st n = some (.dT (pyv l))) : cmpO .NotIn st (.py (.tuple [.int c, .str nm])) (.loc n) = some (!(wayAt l c nm).isSome) := by
  simp only [cmpO, in_way h, Option.map_some]
theorem idx_way {st : Store} {n : Nat} {l : List (List Key × PyData)} {c : Int} {nm : Str} (h : getS st n = some (.dT (pyv l))) : idxO st (.loc n) (.py (.tuple [.int c, .str nm])) = (wayAt l c nm).map .py := by
  simp only [idxO, isD_dT h, dkey_way, Option.bind_some, get_way h, id]
theorem atI_last {α : Type} {xs : List α} (h : xs ≠ []) : L2.atI xs (-1) = some (xs.getLast h) := by
  have hl := List.length_pos_iff.mpr h
  have : L2.atI xs (-1) = xs[xs.length - 1]? := by
    unfold L2.atI L2.ixN
    rw [if_neg (by omega), if_pos (by omega)]
    show xs[((-1 : Int) + (xs.length : Int)).toNat]? = _
    congr 1; omega
  rw [this, List.getLast_eq_getElem, List.getElem?_eq_getElem]
theorem getLast_D {xs : List Int} (h : xs ≠ []) : L2.atI (xs.map io) (-1) = some (io (xs.getLastD 0)) := by
  rw [atI_last (by simpa using h), List.getLast_map]
  congr 2
  cases xs with
  | nil => exact absurd rfl h
  | cons a b => simp [List.getLastD]
theorem un_neg (i : Int) : unO .USub (io i) = some (io (-i)) := rfl
theorem GS.mid {r : RS} {N B C : Env → Store → Prop} {T : D → Store → Prop} (M : Env → Store → Prop) (h : GS r M B C T) (k : ∀ e s, M e s → N e s) : GS r N B C T := h.imp k (fun _ _ x => x) (fun _ _ x => x) (fun _ _ x => x)
theorem gone_call {Φ Φ' : Nat → Fn} {i : Nat} (hi : Φ i = run Φ' gc_ways_in) {n s : Int} {ps : List Po} {ws : List Int} {row : List Str} (hz : ps.length ≤ 100000) (hr : row.length ≤ 100000) {st : Store} :
    callM 0 (run Φ (gc_gone i)) [.py (webP n ps), .py (.tuple (ws.map .int)), io s, .py (.tuple (row.map .str))] st = .ok (.py (.tuple ((goneL (waysOf (ps.zip ws)) s row).map .int))) st := by
  refine Gv.val ?_
  refine call_data [webP n ps, .tuple (ws.map .int), .int s, .tuple (row.map .str)] ?_
  refine run_gv rfl ?_
  unfold gc_gone
  simp only [exec, ev, evs, tst, srcs, GS_seq, GS_thn, GS_nx, GS_bk, GS_ct, GS_rt, Gv_bind, Gv_ok, Gv_give, Gv_nox, Gv_req, GS_req, R.bind_ok, R.thn_ok, RS.thn_nx, giveS_some, start, List.map_cons, List.map_nil, List.length_cons, List.length_nil, List.cons_append, List.nil_append, List.append_nil, List.replicate_succ, List.replicate_zero, Nat.reduceAdd, Nat.reduceSub, env_z, env_s, dl_z, dl_s, selO, set_z, set_s, asg, Option.some.injEq, exists_eq_left', bi1, bi0, isAbs, WW.wipe, setAll, if_true, if_false, Bool.false_eq_true, reduceIte, biO, mtO, pre_upper, pre_join, Option.map_some, Option.bind_some, exists_eq_left, and_true, true_and, c_lt, c_le, c_gt, c_ge, t_bool, t_int, b_add, b_sub, b_mul, b_div, b_mod, GS_ost, p_int, newL_t, newL_f, allPy_cons, allPy_nil, allPy_map, slc_tup, sset_z, sset_s, sto_z, sto_s, mkT, sizeBig, Nat.reduceLeDiff, Int.reduceLT, Int.reduceLE, decide_true, decide_false, ↓reduceIte, tyOk, subTy, List.all_cons, List.all_nil, List.any_cons, List.any_nil, beq_self_eq_true, Bool.true_or, Bool.or_false, Bool.false_or, Bool.and_true, Bool.true_and, Bool.or_true, String.reduceBEq, Bool.and_false, Bool.false_and]
  rw [hi]
  refine ways_new hz ?_
  have hints : ∀ c nm q, wayAt (waysOf (ps.zip ws)) c nm = some q → ∃ w, q = .int w := fun c nm q h => let ⟨_, w, _, _, _, e⟩ := wayAt_of _ h; ⟨w, e⟩
  generalize waysOf (ps.zip ws) = W at hints ⊢
  simp only [exec, ev, evs, tst, srcs, GS_seq, GS_thn, GS_nx, GS_bk, GS_ct, GS_rt, Gv_bind, Gv_ok, Gv_give, Gv_nox, Gv_req, GS_req, R.bind_ok, R.thn_ok, RS.thn_nx, giveS_some, start, List.map_cons, List.map_nil, List.length_cons, List.length_nil, List.cons_append, List.nil_append, List.append_nil, List.replicate_succ, List.replicate_zero, Nat.reduceAdd, Nat.reduceSub, env_z, env_s, dl_z, dl_s, selO, set_z, set_s, asg, Option.some.injEq, exists_eq_left', bi1, bi0, isAbs, WW.wipe, setAll, if_true, if_false, Bool.false_eq_true, reduceIte, biO, mtO, pre_upper, pre_join, Option.map_some, Option.bind_some, exists_eq_left, and_true, true_and, c_lt, c_le, c_gt, c_ge, t_bool, t_int, b_add, b_sub, b_mul, b_div, b_mod, GS_ost, p_int, newL_t, newL_f, allPy_cons, allPy_nil, allPy_map, slc_tup, sset_z, sset_s, sto_z, sto_s, mkT, sizeBig, Nat.reduceLeDiff, Int.reduceLT, Int.reduceLE, decide_true, decide_false, ↓reduceIte, tyOk, subTy, List.all_cons, List.all_nil, List.any_cons, List.any_nil, beq_self_eq_true, Bool.true_or, Bool.or_false, Bool.false_or, Bool.and_true, Bool.true_and, Bool.or_true, String.reduceBEq, Bool.and_false, Bool.false_and]
  refine ⟨_, rfl, ?_⟩
  simp only [lock_no, exec, ev, evs, tst, srcs, GS_seq, GS_thn, GS_nx, GS_bk, GS_ct, GS_rt, Gv_bind, Gv_ok, Gv_give, Gv_nox, Gv_req, GS_req, R.bind_ok, R.thn_ok, RS.thn_nx, giveS_some, start, List.map_cons, List.map_nil, List.length_cons, List.length_nil, List.cons_append, List.nil_append, List.append_nil, List.replicate_succ, List.replicate_zero, Nat.reduceAdd, Nat.reduceSub, env_z, env_s, dl_z, dl_s, selO, set_z, set_s, asg, Option.some.injEq, exists_eq_left', bi1, bi0, isAbs, WW.wipe, setAll, if_true, if_false, Bool.false_eq_true, reduceIte, biO, mtO, pre_upper, pre_join, Option.map_some, Option.bind_some, exists_eq_left, and_true, true_and, c_lt, c_le, c_gt, c_ge, t_bool, t_int, b_add, b_sub, b_mul, b_div, b_mod, GS_ost, p_int, newL_t, newL_f, allPy_cons, allPy_nil, allPy_map, slc_tup, sset_z, sset_s, sto_z, sto_s, mkT, sizeBig, Nat.reduceLeDiff, Int.reduceLT, Int.reduceLE, decide_true, decide_false, ↓reduceIte, tyOk, subTy, List.all_cons, List.all_nil, List.any_cons, List.any_nil, beq_self_eq_true, Bool.true_or, Bool.or_false, Bool.false_or, Bool.and_true, Bool.true_and, Bool.or_true, String.reduceBEq, Bool.and_false, Bool.false_and]
  refine GS.mid (fun env st => ∃ e4, env = [some (.py (webP n ps)), some (.py (.tuple (ws.map .int))), some (io s), some (.py (.tuple (row.map .str))), e4, some (.loc 0), some (.loc 1)] ∧ st = [.dT (pyv W), .lst ((goneL W s row).map io)]) ?_ fun env st ⟨e4, e1, e2⟩ => ?_
  · refine for_ok (fun j env st => ∃ e4, (goneL W s (row.take j)).length = j + 1 ∧ env = [some (.py (webP n ps)), some (.py (.tuple (ws.map .int))), some (io s), some (.py (.tuple (row.map .str))), e4, some (.loc 0), some (.loc 1)] ∧ st = [.dT (pyv W), .lst ((goneL W s (row.take j)).map io)])
      ⟨none, rfl, rfl, rfl⟩ (fun i env st _ => still_nil _) (fun j x env st hx h => ?_) fun env st h => ?_
    · obtain ⟨e4, h1, rfl, rfl⟩ := h
      rw [List.map_map, List.getElem?_map] at hx
      obtain ⟨nm, hnm, rfl⟩ := Option.map_eq_some_iff.mp hx
      have hj : j < row.length := (List.getElem?_eq_some_iff.mp hnm).1
      have htk : row.take (j + 1) = row.take j ++ [nm] := by rw [List.take_add_one, hnm]; rfl
      have hlt : (row.take j).length = j := by rw [List.length_take]; omega
      refine ⟨_, rfl, ?_⟩
      unfold gb1_gone
      have hg0 : getS [.dT (pyv W), .lst ((goneL W s (row.take j)).map io)] 0 = some (.dT (pyv W)) := rfl
      have hg1 : getS [.dT (pyv W), .lst ((goneL W s (row.take j)).map io)] 1 = some (.lst ((goneL W s (row.take j)).map io)) := rfl
      have hsn := goneL_snoc (l := W) (s := s) (r := row.take j) (x := nm) (by rw [h1, hlt])
      have hne := goneL_ne W s (row.take j)
      have hgone : goneL W s (row.take (j + 1)) = goneL W s row ∨ (goneL W s (row.take (j + 1))).length = j + 2 := by
        by_cases h2 : (goneL W s (row.take (j + 1))).length < (row.take (j + 1)).length + 1
        · left
          have := goneL_stop (r' := row.drop (j + 1)) h2
          rw [List.take_append_drop] at this
          exact this.symm
        · right
          have := goneL_len W s (row.take (j + 1))
          have h3 : (row.take (j + 1)).length = j + 1 := by rw [List.length_take]; omega
          omega
      rw [htk, hsn] at hgone
      cases hw : wayAt W ((goneL W s (row.take j)).getLastD 0) nm with
      | none =>
        rw [hw] at hgone
        simp only [Function.comp, idx_loc hg1, getLast_D hne, un_neg, notin_way hg0, hw, Option.isSome_none, Bool.not_false, RS.thn_bk, exec, ev, evs, tst, srcs, GS_seq, GS_thn, GS_nx, GS_bk, GS_ct, GS_rt, Gv_bind, Gv_ok, Gv_give, Gv_nox, Gv_req, GS_req, R.bind_ok, R.thn_ok, RS.thn_nx, giveS_some, start, List.map_cons, List.map_nil, List.length_cons, List.length_nil, List.cons_append, List.nil_append, List.append_nil, List.replicate_succ, List.replicate_zero, Nat.reduceAdd, Nat.reduceSub, env_z, env_s, dl_z, dl_s, selO, set_z, set_s, asg, Option.some.injEq, exists_eq_left', bi1, bi0, isAbs, WW.wipe, setAll, if_true, if_false, Bool.false_eq_true, reduceIte, biO, mtO, pre_upper, pre_join, Option.map_some, Option.bind_some, exists_eq_left, and_true, true_and, c_lt, c_le, c_gt, c_ge, t_bool, t_int, b_add, b_sub, b_mul, b_div, b_mod, GS_ost, p_int, newL_t, newL_f, allPy_cons, allPy_nil, allPy_map, slc_tup, sset_z, sset_s, sto_z, sto_s, mkT, sizeBig, Nat.reduceLeDiff, Int.reduceLT, Int.reduceLE, decide_true, decide_false, ↓reduceIte, tyOk, subTy, List.all_cons, List.all_nil, List.any_cons, List.any_nil, beq_self_eq_true, Bool.true_or, Bool.or_false, Bool.false_or, Bool.and_true, Bool.true_and, Bool.or_true, String.reduceBEq, Bool.and_false, Bool.false_and]
        simp only [List.append_nil] at hgone
        refine ⟨_, rfl, ?_⟩
        rcases hgone with e | e
        · rw [e]
        · omega
      | some q =>
        have hqi : ∃ w, q = .int w := hints _ _ _ hw
        obtain ⟨w, rfl⟩ := hqi
        simp only [Function.comp, idx_loc hg1, getLast_D hne, un_neg, notin_way hg0, idx_way hg0, hw, Option.isSome_some, Bool.not_true, exec, ev, evs, tst, srcs, GS_seq, GS_thn, GS_nx, GS_bk, GS_ct, GS_rt, Gv_bind, Gv_ok, Gv_give, Gv_nox, Gv_req, GS_req, R.bind_ok, R.thn_ok, RS.thn_nx, giveS_some, start, List.map_cons, List.map_nil, List.length_cons, List.length_nil, List.cons_append, List.nil_append, List.append_nil, List.replicate_succ, List.replicate_zero, Nat.reduceAdd, Nat.reduceSub, env_z, env_s, dl_z, dl_s, selO, set_z, set_s, asg, Option.some.injEq, exists_eq_left', bi1, bi0, isAbs, WW.wipe, setAll, if_true, if_false, Bool.false_eq_true, reduceIte, biO, mtO, pre_upper, pre_join, Option.map_some, Option.bind_some, exists_eq_left, and_true, true_and, c_lt, c_le, c_gt, c_ge, t_bool, t_int, b_add, b_sub, b_mul, b_div, b_mod, GS_ost, p_int, newL_t, newL_f, allPy_cons, allPy_nil, allPy_map, slc_tup, sset_z, sset_s, sto_z, sto_s, mkT, sizeBig, Nat.reduceLeDiff, Int.reduceLT, Int.reduceLE, decide_true, decide_false, ↓reduceIte, tyOk, subTy, List.all_cons, List.all_nil, List.any_cons, List.any_nil, beq_self_eq_true, Bool.true_or, Bool.or_false, Bool.false_or, Bool.and_true, Bool.true_and, Bool.or_true, String.reduceBEq, Bool.and_false, Bool.false_and]
        refine ⟨pre_append hg1, ?_⟩
        rw [mt_app (xs := (goneL W s (row.take j)).map io) rfl (by rw [List.length_map, h1, sizeLine_eq]; omega)]
        simp only [exec, ev, evs, tst, srcs, GS_seq, GS_thn, GS_nx, GS_bk, GS_ct, GS_rt, Gv_bind, Gv_ok, Gv_give, Gv_nox, Gv_req, GS_req, R.bind_ok, R.thn_ok, RS.thn_nx, giveS_some, start, List.map_cons, List.map_nil, List.length_cons, List.length_nil, List.cons_append, List.nil_append, List.append_nil, List.replicate_succ, List.replicate_zero, Nat.reduceAdd, Nat.reduceSub, env_z, env_s, dl_z, dl_s, selO, set_z, set_s, asg, Option.some.injEq, exists_eq_left', bi1, bi0, isAbs, WW.wipe, setAll, if_true, if_false, Bool.false_eq_true, reduceIte, biO, mtO, pre_upper, pre_join, Option.map_some, Option.bind_some, exists_eq_left, and_true, true_and, c_lt, c_le, c_gt, c_ge, t_bool, t_int, b_add, b_sub, b_mul, b_div, b_mod, GS_ost, p_int, newL_t, newL_f, allPy_cons, allPy_nil, allPy_map, slc_tup, sset_z, sset_s, sto_z, sto_s, mkT, sizeBig, Nat.reduceLeDiff, Int.reduceLT, Int.reduceLE, decide_true, decide_false, ↓reduceIte, tyOk, subTy, List.all_cons, List.all_nil, List.any_cons, List.any_nil, beq_self_eq_true, Bool.true_or, Bool.or_false, Bool.false_or, Bool.and_true, Bool.true_and, Bool.or_true, String.reduceBEq, Bool.and_false, Bool.false_and]
        rw [htk, hsn, hw]
        refine ⟨_, ?_, rfl, ?_⟩
        · rw [List.length_append, h1]; rfl
        · rw [List.map_append]; rfl
    · obtain ⟨e4, h1, rfl, rfl⟩ := h
      rw [List.length_map, List.length_map, List.take_length]
      exact ⟨_, rfl, rfl⟩
  · subst e1; subst e2
    have e : (goneL W s row).map io = ((goneL W s row).map PyData.int).map .py := ints_py _
    have et := bi_tup_loc (st := [.dT (pyv W), .lst ((goneL W s row).map io)]) (n := 1) (ps := (goneL W s row).map .int) (by rw [← e]; rfl)
    simp only [et, exec, ev, evs, tst, srcs, GS_seq, GS_thn, GS_nx, GS_bk, GS_ct, GS_rt, Gv_bind, Gv_ok, Gv_give, Gv_nox, Gv_req, GS_req, R.bind_ok, R.thn_ok, RS.thn_nx, giveS_some, start, List.map_cons, List.map_nil, List.length_cons, List.length_nil, List.cons_append, List.nil_append, List.append_nil, List.replicate_succ, List.replicate_zero, Nat.reduceAdd, Nat.reduceSub, env_z, env_s, dl_z, dl_s, selO, set_z, set_s, asg, Option.some.injEq, exists_eq_left', bi1, bi0, isAbs, WW.wipe, setAll, if_true, if_false, Bool.false_eq_true, reduceIte, biO, mtO, pre_upper, pre_join, Option.map_some, Option.bind_some, exists_eq_left, and_true, true_and, c_lt, c_le, c_gt, c_ge, t_bool, t_int, b_add, b_sub, b_mul, b_div, b_mod, GS_ost, p_int, newL_t, newL_f, allPy_cons, allPy_nil, allPy_map, slc_tup, sset_z, sset_s, sto_z, sto_s, mkT, sizeBig, Nat.reduceLeDiff, Int.reduceLT, Int.reduceLE, decide_true, decide_false, ↓reduceIte, tyOk, subTy, List.all_cons, List.all_nil, List.any_cons, List.any_nil, beq_self_eq_true, Bool.true_or, Bool.or_false, Bool.false_or, Bool.and_true, Bool.true_and, Bool.or_true, String.reduceBEq, Bool.and_false, Bool.false_and]
    exact ⟨_, rfl, rfl⟩
end WW

namespace WW
open PySem PySem.Spec
theorem lay_ints : ∀ gs : List Int, PyData.canLayAll0 (gs.map .int) = true
  | [] => by simp [PyData.canLayAll0]
  | g :: gs => by simp only [List.map, PyData.canLayAll0, PyData.canLay0, lay_ints gs, Bool.and_self]
theorem in_ints {st : Store} {i : Int} {gs : List Int} : inO st (io i) (.py (.tuple (gs.map .int))) = some (decide (i ∈ gs)) := by
  have e : inO st (io i) (.py (.tuple (gs.map .int))) = inSeq (.int i) (gs.map .int) := rfl
  rw [e]
  unfold inSeq
  rw [if_pos (by rw [lay_ints]; rfl)]
  congr 1
  clear e
  induction gs with
  | nil => rfl
  | cons g gs ih =>
    rw [List.map_cons, List.any_cons, ih]
    have : PyData.eqv (.int g) (.int i) = decide (g = i) := by
      show (g == i) = _
      rfl
    rw [this]
    by_cases h : g = i
    · subst h; simp
    · have h' : ¬ i = g := fun z => h z.symm
      simp [h, h']
def endsL (n : Int) : Option (List Int) → List Int
  | none => (List.range n.toNat).map fun (i : Nat) => (i : Int)
  | some gs => gs
theorem intsR0 (n : Nat) : intsR 0 n = ((List.range n).map fun (i : Nat) => (i : Int)).map .int := by
  unfold intsR
  rw [List.map_map]
  apply List.map_congr_left
  intro i _
  simp only [Function.comp, Int.zero_add]
theorem rgArgs1 (n : Int) : rgArgs [io n] = some (0, n) := rfl
theorem tupR_ok {st : Store} {n : Int} (h0 : 0 ≤ n) (h : n ≤ 1000000) : biTupR st [io n] = .ok (.py (.tuple (((List.range n.toNat).map fun (i : Nat) => (i : Int)).map .int))) st := by
  have hk : rgOk 0 n = true := by
    simp only [rgOk, inR, Bool.and_eq_true, decide_eq_true_eq]
    refine ⟨⟨⟨by decide, by decide⟩, by omega, by omega⟩, by omega⟩
  simp only [biTupR, rgArgs1, if_pos hk, Int.sub_zero, intsR0]
theorem ends_call {Φ : Nat → Fn} {n : Int} {ps : List Po} {g : Option (List Int)} (hn : 0 ≤ n) (hn2 : n ≤ 1000) {st : Store} : callM 0 (run Φ gc_ends_of) [.py (webP n ps), .py (aimP g)] st = .ok (.py (.tuple ((endsL n g).map .int))) st := by
  refine Gv.val ?_
  refine call_data [webP n ps, aimP g] ?_
  refine run_gv rfl ?_
  unfold gc_ends_of
  cases g with
  | none =>
    simp only [is_non, aimP, isN, webP, idx_tup, exec, ev, evs, tst, srcs, GS_seq, GS_thn, GS_nx, GS_bk, GS_ct, GS_rt, Gv_bind, Gv_ok, Gv_give, Gv_nox, Gv_req, GS_req, R.bind_ok, R.thn_ok, RS.thn_nx, giveS_some, start, List.map_cons, List.map_nil, List.length_cons, List.length_nil, List.cons_append, List.nil_append, List.append_nil, List.replicate_succ, List.replicate_zero, Nat.reduceAdd, Nat.reduceSub, env_z, env_s, dl_z, dl_s, selO, set_z, set_s, asg, Option.some.injEq, exists_eq_left', bi1, bi0, isAbs, WW.wipe, setAll, if_true, if_false, Bool.false_eq_true, reduceIte, biO, mtO, pre_upper, pre_join, Option.map_some, Option.bind_some, exists_eq_left, and_true, true_and, c_lt, c_le, c_gt, c_ge, t_bool, t_int, b_add, b_sub, b_mul, b_div, b_mod, GS_ost, p_int, newL_t, newL_f, allPy_cons, allPy_nil, allPy_map, slc_tup, sset_z, sset_s, sto_z, sto_s, mkT, sizeBig, Nat.reduceLeDiff, Int.reduceLT, Int.reduceLE, decide_true, decide_false, ↓reduceIte, tyOk, subTy, List.all_cons, List.all_nil, List.any_cons, List.any_nil, beq_self_eq_true, Bool.true_or, Bool.or_false, Bool.false_or, Bool.and_true, Bool.true_and, Bool.or_true, String.reduceBEq, Bool.and_false, Bool.false_and]
    refine ⟨_, rfl, ?_⟩
    simp only [tupR_ok hn (by omega), exec, ev, evs, tst, srcs, GS_seq, GS_thn, GS_nx, GS_bk, GS_ct, GS_rt, Gv_bind, Gv_ok, Gv_give, Gv_nox, Gv_req, GS_req, R.bind_ok, R.thn_ok, RS.thn_nx, giveS_some, start, List.map_cons, List.map_nil, List.length_cons, List.length_nil, List.cons_append, List.nil_append, List.append_nil, List.replicate_succ, List.replicate_zero, Nat.reduceAdd, Nat.reduceSub, env_z, env_s, dl_z, dl_s, selO, set_z, set_s, asg, Option.some.injEq, exists_eq_left', bi1, bi0, isAbs, WW.wipe, setAll, if_true, if_false, Bool.false_eq_true, reduceIte, biO, mtO, pre_upper, pre_join, Option.map_some, Option.bind_some, exists_eq_left, and_true, true_and, c_lt, c_le, c_gt, c_ge, t_bool, t_int, b_add, b_sub, b_mul, b_div, b_mod, GS_ost, p_int, newL_t, newL_f, allPy_cons, allPy_nil, allPy_map, slc_tup, sset_z, sset_s, sto_z, sto_s, mkT, sizeBig, Nat.reduceLeDiff, Int.reduceLT, Int.reduceLE, decide_true, decide_false, ↓reduceIte, tyOk, subTy, List.all_cons, List.all_nil, List.any_cons, List.any_nil, beq_self_eq_true, Bool.true_or, Bool.or_false, Bool.false_or, Bool.and_true, Bool.true_and, Bool.or_true, String.reduceBEq, Bool.and_false, Bool.false_and]
    exact ⟨_, rfl, rfl⟩
  | some gs =>
    simp only [is_non, aimP, isN, exec, ev, evs, tst, srcs, GS_seq, GS_thn, GS_nx, GS_bk, GS_ct, GS_rt, Gv_bind, Gv_ok, Gv_give, Gv_nox, Gv_req, GS_req, R.bind_ok, R.thn_ok, RS.thn_nx, giveS_some, start, List.map_cons, List.map_nil, List.length_cons, List.length_nil, List.cons_append, List.nil_append, List.append_nil, List.replicate_succ, List.replicate_zero, Nat.reduceAdd, Nat.reduceSub, env_z, env_s, dl_z, dl_s, selO, set_z, set_s, asg, Option.some.injEq, exists_eq_left', bi1, bi0, isAbs, WW.wipe, setAll, if_true, if_false, Bool.false_eq_true, reduceIte, biO, mtO, pre_upper, pre_join, Option.map_some, Option.bind_some, exists_eq_left, and_true, true_and, c_lt, c_le, c_gt, c_ge, t_bool, t_int, b_add, b_sub, b_mul, b_div, b_mod, GS_ost, p_int, newL_t, newL_f, allPy_cons, allPy_nil, allPy_map, slc_tup, sset_z, sset_s, sto_z, sto_s, mkT, sizeBig, Nat.reduceLeDiff, Int.reduceLT, Int.reduceLE, decide_true, decide_false, ↓reduceIte, tyOk, subTy, List.all_cons, List.all_nil, List.any_cons, List.any_nil, beq_self_eq_true, Bool.true_or, Bool.or_false, Bool.false_or, Bool.and_true, Bool.true_and, Bool.or_true, String.reduceBEq, Bool.and_false, Bool.false_and]
    exact ⟨_, rfl, rfl⟩
/-- from which crossings on a row is walked to one of the ends -/
def startsL (W : List (List Key × PyData)) (n : Int) (row : List Str) (ends : List Int) : List Int :=
  ((List.range n.toNat).map fun (i : Nat) => (i : Int)).filter fun c => decide ((goneL W c row).length = row.length + 1) && decide ((goneL W c row).getLastD 0 ∈ ends)
theorem startsL_succ (W : List (List Key × PyData)) (j : Nat) (row : List Str) (E : List Int) : startsL W ((j + 1 : Nat) : Int) row E = startsL W (j : Int) row E ++ (if (goneL W (j : Int) row).length = row.length + 1 ∧ (goneL W (j : Int) row).getLastD 0 ∈ E then [(j : Int)] else []) := by
  unfold startsL
  rw [Int.toNat_natCast, Int.toNat_natCast, List.range_succ, List.map_append, List.filter_append]
  congr 1
  simp only [List.map_cons, List.map_nil, List.filter_cons, List.filter_nil]
  by_cases h1 : (goneL W (j : Int) row).length = row.length + 1 <;> by_cases h2 : (goneL W (j : Int) row).getLastD 0 ∈ E <;> simp [h1, h2]
theorem startsL_len (W : List (List Key × PyData)) (j : Nat) (row : List Str) (E : List Int) : (startsL W (j : Int) row E).length ≤ j := by
  unfold startsL
  refine Nat.le_trans (List.length_filter_le _ _) ?_
  rw [List.length_map, List.length_range, Int.toNat_natCast]; exact Nat.le_refl _
theorem starts_call {Φ Φg Φw : Nat → Fn} {ie ig iw : Nat} {Φe : Nat → Fn} (he : Φ ie = run Φe gc_ends_of) (hg : Φ ig = run Φg (gc_gone iw)) (hw : Φg iw = run Φw gc_ways_in) {n : Int} {ps : List Po} {ws : List Int} {row : List Str} {g : Option (List Int)} (hn : 0 ≤ n) (hn2 : n ≤ 1000) (hz : ps.length ≤ 100000) (hr : row.length ≤ 100000) {st : Store} :
    callM 0 (run Φ (gc_starts ie ig)) [.py (webP n ps), .py (.tuple (ws.map .int)), .py (.tuple (row.map .str)), .py (aimP g)] st = .ok (.py (.tuple ((startsL (waysOf (ps.zip ws)) n row (endsL n g)).map .int))) st := by
  refine Gv.val ?_
  refine call_data [webP n ps, .tuple (ws.map .int), .tuple (row.map .str), aimP g] ?_
  refine run_gv rfl ?_
  unfold gc_starts
  simp only [exec, ev, evs, tst, srcs, GS_seq, GS_thn, GS_nx, GS_bk, GS_ct, GS_rt, Gv_bind, Gv_ok, Gv_give, Gv_nox, Gv_req, GS_req, R.bind_ok, R.thn_ok, RS.thn_nx, giveS_some, start, List.map_cons, List.map_nil, List.length_cons, List.length_nil, List.cons_append, List.nil_append, List.append_nil, List.replicate_succ, List.replicate_zero, Nat.reduceAdd, Nat.reduceSub, env_z, env_s, dl_z, dl_s, selO, set_z, set_s, asg, Option.some.injEq, exists_eq_left', bi1, bi0, isAbs, WW.wipe, setAll, if_true, if_false, Bool.false_eq_true, reduceIte, biO, mtO, pre_upper, pre_join, Option.map_some, Option.bind_some, exists_eq_left, and_true, true_and, c_lt, c_le, c_gt, c_ge, t_bool, t_int, b_add, b_sub, b_mul, b_div, b_mod, GS_ost, p_int, newL_t, newL_f, allPy_cons, allPy_nil, allPy_map, slc_tup, sset_z, sset_s, sto_z, sto_s, mkT, sizeBig, Nat.reduceLeDiff, Int.reduceLT, Int.reduceLE, decide_true, decide_false, ↓reduceIte, tyOk, subTy, List.all_cons, List.all_nil, List.any_cons, List.any_nil, beq_self_eq_true, Bool.true_or, Bool.or_false, Bool.false_or, Bool.and_true, Bool.true_and, Bool.or_true, String.reduceBEq, Bool.and_false, Bool.false_and]
  rw [he, ends_call hn hn2]
  generalize hE : endsL n g = E
  simp only [exec, ev, evs, tst, srcs, GS_seq, GS_thn, GS_nx, GS_bk, GS_ct, GS_rt, Gv_bind, Gv_ok, Gv_give, Gv_nox, Gv_req, GS_req, R.bind_ok, R.thn_ok, RS.thn_nx, giveS_some, start, List.map_cons, List.map_nil, List.length_cons, List.length_nil, List.cons_append, List.nil_append, List.append_nil, List.replicate_succ, List.replicate_zero, Nat.reduceAdd, Nat.reduceSub, env_z, env_s, dl_z, dl_s, selO, set_z, set_s, asg, Option.some.injEq, exists_eq_left', bi1, bi0, isAbs, WW.wipe, setAll, if_true, if_false, Bool.false_eq_true, reduceIte, biO, mtO, pre_upper, pre_join, Option.map_some, Option.bind_some, exists_eq_left, and_true, true_and, c_lt, c_le, c_gt, c_ge, t_bool, t_int, b_add, b_sub, b_mul, b_div, b_mod, GS_ost, p_int, newL_t, newL_f, allPy_cons, allPy_nil, allPy_map, slc_tup, sset_z, sset_s, sto_z, sto_s, mkT, sizeBig, Nat.reduceLeDiff, Int.reduceLT, Int.reduceLE, decide_true, decide_false, ↓reduceIte, tyOk, subTy, List.all_cons, List.all_nil, List.any_cons, List.any_nil, beq_self_eq_true, Bool.true_or, Bool.or_false, Bool.false_or, Bool.and_true, Bool.true_and, Bool.or_true, String.reduceBEq, Bool.and_false, Bool.false_and]
  have e0 : idxO [SO.lst []] (.py (webP n ps)) (io 0) = some (io n) := rfl
  simp only [e0, exec, ev, evs, tst, srcs, GS_seq, GS_thn, GS_nx, GS_bk, GS_ct, GS_rt, Gv_bind, Gv_ok, Gv_give, Gv_nox, Gv_req, GS_req, R.bind_ok, R.thn_ok, RS.thn_nx, giveS_some, start, List.map_cons, List.map_nil, List.length_cons, List.length_nil, List.cons_append, List.nil_append, List.append_nil, List.replicate_succ, List.replicate_zero, Nat.reduceAdd, Nat.reduceSub, env_z, env_s, dl_z, dl_s, selO, set_z, set_s, asg, Option.some.injEq, exists_eq_left', bi1, bi0, isAbs, WW.wipe, setAll, if_true, if_false, Bool.false_eq_true, reduceIte, biO, mtO, pre_upper, pre_join, Option.map_some, Option.bind_some, exists_eq_left, and_true, true_and, c_lt, c_le, c_gt, c_ge, t_bool, t_int, b_add, b_sub, b_mul, b_div, b_mod, GS_ost, p_int, newL_t, newL_f, allPy_cons, allPy_nil, allPy_map, slc_tup, sset_z, sset_s, sto_z, sto_s, mkT, sizeBig, Nat.reduceLeDiff, Int.reduceLT, Int.reduceLE, decide_true, decide_false, ↓reduceIte, tyOk, subTy, List.all_cons, List.all_nil, List.any_cons, List.any_nil, beq_self_eq_true, Bool.true_or, Bool.or_false, Bool.false_or, Bool.and_true, Bool.true_and, Bool.or_true, String.reduceBEq, Bool.and_false, Bool.false_and]
  refine ⟨_, rng_its hn (by omega), ?_⟩
  simp only [lock_no, exec, ev, evs, tst, srcs, GS_seq, GS_thn, GS_nx, GS_bk, GS_ct, GS_rt, Gv_bind, Gv_ok, Gv_give, Gv_nox, Gv_req, GS_req, R.bind_ok, R.thn_ok, RS.thn_nx, giveS_some, start, List.map_cons, List.map_nil, List.length_cons, List.length_nil, List.cons_append, List.nil_append, List.append_nil, List.replicate_succ, List.replicate_zero, Nat.reduceAdd, Nat.reduceSub, env_z, env_s, dl_z, dl_s, selO, set_z, set_s, asg, Option.some.injEq, exists_eq_left', bi1, bi0, isAbs, WW.wipe, setAll, if_true, if_false, Bool.false_eq_true, reduceIte, biO, mtO, pre_upper, pre_join, Option.map_some, Option.bind_some, exists_eq_left, and_true, true_and, c_lt, c_le, c_gt, c_ge, t_bool, t_int, b_add, b_sub, b_mul, b_div, b_mod, GS_ost, p_int, newL_t, newL_f, allPy_cons, allPy_nil, allPy_map, slc_tup, sset_z, sset_s, sto_z, sto_s, mkT, sizeBig, Nat.reduceLeDiff, Int.reduceLT, Int.reduceLE, decide_true, decide_false, ↓reduceIte, tyOk, subTy, List.all_cons, List.all_nil, List.any_cons, List.any_nil, beq_self_eq_true, Bool.true_or, Bool.or_false, Bool.false_or, Bool.and_true, Bool.true_and, Bool.or_true, String.reduceBEq, Bool.and_false, Bool.false_and]
  generalize hW : waysOf (ps.zip ws) = W
  refine GS.mid (fun env st => ∃ e4 e7, env = [some (.py (webP n ps)), some (.py (.tuple (ws.map .int))), some (.py (.tuple (row.map .str))), some (.py (aimP g)), e4, some (.py (.tuple (E.map .int))), some (.loc 0), e7] ∧ st = [.lst ((startsL W n row E).map io)]) ?_ fun env st ⟨e4, e7, e1, e2⟩ => ?_
  · refine for_ok (fun j env st => ∃ e4 e7, env = [some (.py (webP n ps)), some (.py (.tuple (ws.map .int))), some (.py (.tuple (row.map .str))), some (.py (aimP g)), e4, some (.py (.tuple (E.map .int))), some (.loc 0), e7] ∧ st = [.lst ((startsL W (j : Nat) row E).map io)])
      ⟨none, none, rfl, rfl⟩ (fun i env st _ => still_nil _) (fun j x env st hx h => ?_) fun env st h => ?_
    · obtain ⟨e4, e7, rfl, rfl⟩ := h
      obtain ⟨hj, rfl⟩ := rngI_get hx
      refine ⟨_, rfl, ?_⟩
      unfold gb1_starts
      simp only [exec, ev, evs, tst, srcs, GS_seq, GS_thn, GS_nx, GS_bk, GS_ct, GS_rt, Gv_bind, Gv_ok, Gv_give, Gv_nox, Gv_req, GS_req, R.bind_ok, R.thn_ok, RS.thn_nx, giveS_some, start, List.map_cons, List.map_nil, List.length_cons, List.length_nil, List.cons_append, List.nil_append, List.append_nil, List.replicate_succ, List.replicate_zero, Nat.reduceAdd, Nat.reduceSub, env_z, env_s, dl_z, dl_s, selO, set_z, set_s, asg, Option.some.injEq, exists_eq_left', bi1, bi0, isAbs, WW.wipe, setAll, if_true, if_false, Bool.false_eq_true, reduceIte, biO, mtO, pre_upper, pre_join, Option.map_some, Option.bind_some, exists_eq_left, and_true, true_and, c_lt, c_le, c_gt, c_ge, t_bool, t_int, b_add, b_sub, b_mul, b_div, b_mod, GS_ost, p_int, newL_t, newL_f, allPy_cons, allPy_nil, allPy_map, slc_tup, sset_z, sset_s, sto_z, sto_s, mkT, sizeBig, Nat.reduceLeDiff, Int.reduceLT, Int.reduceLE, decide_true, decide_false, ↓reduceIte, tyOk, subTy, List.all_cons, List.all_nil, List.any_cons, List.any_nil, beq_self_eq_true, Bool.true_or, Bool.or_false, Bool.false_or, Bool.and_true, Bool.true_and, Bool.or_true, String.reduceBEq, Bool.and_false, Bool.false_and]
      rw [hg, gone_call hw hz hr, hW]
      have hne := goneL_ne W (j : Int) row
      have e3 : ∀ st, idxO st (.py (.tuple ((goneL W (j : Int) row).map .int))) (io (-1)) = some (io ((goneL W (j : Int) row).getLastD 0)) := fun st => by
        rw [idx_tup, ← ints_py, getLast_D hne]
      have hlen : (goneL W (j : Int) row).length ≤ 100001 := Nat.le_trans (goneL_len W _ row) (by omega)
      simp only [len_tup, List.length_map, eq_int, un_neg, e3, exec, ev, evs, tst, srcs, GS_seq, GS_thn, GS_nx, GS_bk, GS_ct, GS_rt, Gv_bind, Gv_ok, Gv_give, Gv_nox, Gv_req, GS_req, R.bind_ok, R.thn_ok, RS.thn_nx, giveS_some, start, List.map_cons, List.map_nil, List.length_cons, List.length_nil, List.cons_append, List.nil_append, List.append_nil, List.replicate_succ, List.replicate_zero, Nat.reduceAdd, Nat.reduceSub, env_z, env_s, dl_z, dl_s, selO, set_z, set_s, asg, Option.some.injEq, exists_eq_left', bi1, bi0, isAbs, WW.wipe, setAll, if_true, if_false, Bool.false_eq_true, reduceIte, biO, mtO, pre_upper, pre_join, Option.map_some, Option.bind_some, exists_eq_left, and_true, true_and, c_lt, c_le, c_gt, c_ge, t_bool, t_int, b_add, b_sub, b_mul, b_div, b_mod, GS_ost, p_int, newL_t, newL_f, allPy_cons, allPy_nil, allPy_map, slc_tup, sset_z, sset_s, sto_z, sto_s, mkT, sizeBig, Nat.reduceLeDiff, Int.reduceLT, Int.reduceLE, decide_true, decide_false, ↓reduceIte, tyOk, subTy, List.all_cons, List.all_nil, List.any_cons, List.any_nil, beq_self_eq_true, Bool.true_or, Bool.or_false, Bool.false_or, Bool.and_true, Bool.true_and, Bool.or_true, String.reduceBEq, Bool.and_false, Bool.false_and]
      have hz2 := startsL_len W j row E
      by_cases h1 : (goneL W (j : Int) row).length = row.length + 1
      · have h1' : (((goneL W (j : Int) row).length : Nat) : Int) = (row.length : Int) + 1 := by omega
        have hin : ∀ st, cmpO .In st (io ((goneL W (j : Int) row).getLastD 0)) (.py (.tuple (E.map .int))) = some (decide ((goneL W (j : Int) row).getLastD 0 ∈ E)) := fun st => in_ints (st := st)
        by_cases h2 : (goneL W (j : Int) row).getLastD 0 ∈ E
        · simp only [h1', hin, h2, exec, ev, evs, tst, srcs, GS_seq, GS_thn, GS_nx, GS_bk, GS_ct, GS_rt, Gv_bind, Gv_ok, Gv_give, Gv_nox, Gv_req, GS_req, R.bind_ok, R.thn_ok, RS.thn_nx, giveS_some, start, List.map_cons, List.map_nil, List.length_cons, List.length_nil, List.cons_append, List.nil_append, List.append_nil, List.replicate_succ, List.replicate_zero, Nat.reduceAdd, Nat.reduceSub, env_z, env_s, dl_z, dl_s, selO, set_z, set_s, asg, Option.some.injEq, exists_eq_left', bi1, bi0, isAbs, WW.wipe, setAll, if_true, if_false, Bool.false_eq_true, reduceIte, biO, mtO, pre_upper, pre_join, Option.map_some, Option.bind_some, exists_eq_left, and_true, true_and, c_lt, c_le, c_gt, c_ge, t_bool, t_int, b_add, b_sub, b_mul, b_div, b_mod, GS_ost, p_int, newL_t, newL_f, allPy_cons, allPy_nil, allPy_map, slc_tup, sset_z, sset_s, sto_z, sto_s, mkT, sizeBig, Nat.reduceLeDiff, Int.reduceLT, Int.reduceLE, decide_true, decide_false, ↓reduceIte, tyOk, subTy, List.all_cons, List.all_nil, List.any_cons, List.any_nil, beq_self_eq_true, Bool.true_or, Bool.or_false, Bool.false_or, Bool.and_true, Bool.true_and, Bool.or_true, String.reduceBEq, Bool.and_false, Bool.false_and]
          refine ⟨pre_append (xs := (startsL W (j : Int) row E).map io) rfl, ?_⟩
          rw [mt_app (xs := (startsL W (j : Int) row E).map io) rfl (by rw [List.length_map, sizeLine_eq]; omega)]
          simp only [exec, ev, evs, tst, srcs, GS_seq, GS_thn, GS_nx, GS_bk, GS_ct, GS_rt, Gv_bind, Gv_ok, Gv_give, Gv_nox, Gv_req, GS_req, R.bind_ok, R.thn_ok, RS.thn_nx, giveS_some, start, List.map_cons, List.map_nil, List.length_cons, List.length_nil, List.cons_append, List.nil_append, List.append_nil, List.replicate_succ, List.replicate_zero, Nat.reduceAdd, Nat.reduceSub, env_z, env_s, dl_z, dl_s, selO, set_z, set_s, asg, Option.some.injEq, exists_eq_left', bi1, bi0, isAbs, WW.wipe, setAll, if_true, if_false, Bool.false_eq_true, reduceIte, biO, mtO, pre_upper, pre_join, Option.map_some, Option.bind_some, exists_eq_left, and_true, true_and, c_lt, c_le, c_gt, c_ge, t_bool, t_int, b_add, b_sub, b_mul, b_div, b_mod, GS_ost, p_int, newL_t, newL_f, allPy_cons, allPy_nil, allPy_map, slc_tup, sset_z, sset_s, sto_z, sto_s, mkT, sizeBig, Nat.reduceLeDiff, Int.reduceLT, Int.reduceLE, decide_true, decide_false, ↓reduceIte, tyOk, subTy, List.all_cons, List.all_nil, List.any_cons, List.any_nil, beq_self_eq_true, Bool.true_or, Bool.or_false, Bool.false_or, Bool.and_true, Bool.true_and, Bool.or_true, String.reduceBEq, Bool.and_false, Bool.false_and]
          refine ⟨_, _, rfl, ?_⟩
          rw [startsL_succ, if_pos ⟨h1, h2⟩, List.map_append]; rfl
        · simp only [h1', hin, h2, exec, ev, evs, tst, srcs, GS_seq, GS_thn, GS_nx, GS_bk, GS_ct, GS_rt, Gv_bind, Gv_ok, Gv_give, Gv_nox, Gv_req, GS_req, R.bind_ok, R.thn_ok, RS.thn_nx, giveS_some, start, List.map_cons, List.map_nil, List.length_cons, List.length_nil, List.cons_append, List.nil_append, List.append_nil, List.replicate_succ, List.replicate_zero, Nat.reduceAdd, Nat.reduceSub, env_z, env_s, dl_z, dl_s, selO, set_z, set_s, asg, Option.some.injEq, exists_eq_left', bi1, bi0, isAbs, WW.wipe, setAll, if_true, if_false, Bool.false_eq_true, reduceIte, biO, mtO, pre_upper, pre_join, Option.map_some, Option.bind_some, exists_eq_left, and_true, true_and, c_lt, c_le, c_gt, c_ge, t_bool, t_int, b_add, b_sub, b_mul, b_div, b_mod, GS_ost, p_int, newL_t, newL_f, allPy_cons, allPy_nil, allPy_map, slc_tup, sset_z, sset_s, sto_z, sto_s, mkT, sizeBig, Nat.reduceLeDiff, Int.reduceLT, Int.reduceLE, decide_true, decide_false, ↓reduceIte, tyOk, subTy, List.all_cons, List.all_nil, List.any_cons, List.any_nil, beq_self_eq_true, Bool.true_or, Bool.or_false, Bool.false_or, Bool.and_true, Bool.true_and, Bool.or_true, String.reduceBEq, Bool.and_false, Bool.false_and]
          refine ⟨_, _, rfl, ?_⟩
          rw [startsL_succ, if_neg (fun z => h2 z.2), List.append_nil]
      · have h1' : ¬ (((goneL W (j : Int) row).length : Nat) : Int) = (row.length : Int) + 1 := by omega
        simp only [h1', exec, ev, evs, tst, srcs, GS_seq, GS_thn, GS_nx, GS_bk, GS_ct, GS_rt, Gv_bind, Gv_ok, Gv_give, Gv_nox, Gv_req, GS_req, R.bind_ok, R.thn_ok, RS.thn_nx, giveS_some, start, List.map_cons, List.map_nil, List.length_cons, List.length_nil, List.cons_append, List.nil_append, List.append_nil, List.replicate_succ, List.replicate_zero, Nat.reduceAdd, Nat.reduceSub, env_z, env_s, dl_z, dl_s, selO, set_z, set_s, asg, Option.some.injEq, exists_eq_left', bi1, bi0, isAbs, WW.wipe, setAll, if_true, if_false, Bool.false_eq_true, reduceIte, biO, mtO, pre_upper, pre_join, Option.map_some, Option.bind_some, exists_eq_left, and_true, true_and, c_lt, c_le, c_gt, c_ge, t_bool, t_int, b_add, b_sub, b_mul, b_div, b_mod, GS_ost, p_int, newL_t, newL_f, allPy_cons, allPy_nil, allPy_map, slc_tup, sset_z, sset_s, sto_z, sto_s, mkT, sizeBig, Nat.reduceLeDiff, Int.reduceLT, Int.reduceLE, decide_true, decide_false, ↓reduceIte, tyOk, subTy, List.all_cons, List.all_nil, List.any_cons, List.any_nil, beq_self_eq_true, Bool.true_or, Bool.or_false, Bool.false_or, Bool.and_true, Bool.true_and, Bool.or_true, String.reduceBEq, Bool.and_false, Bool.false_and]
        refine ⟨_, _, rfl, ?_⟩
        rw [startsL_succ, if_neg (fun z => h1 z.1), List.append_nil]
    · obtain ⟨e4, e7, rfl, rfl⟩ := h
      rw [rngI_len]
      refine ⟨e4, e7, rfl, ?_⟩
      rw [Int.toNat_of_nonneg hn]
  · subst e1; subst e2
    rw [ints_py]
    have et := bi_tup_loc (st := [.lst (((startsL W n row E).map PyData.int).map .py)]) (n := 0) (ps := (startsL W n row E).map .int) rfl
    simp only [et, exec, ev, evs, tst, srcs, GS_seq, GS_thn, GS_nx, GS_bk, GS_ct, GS_rt, Gv_bind, Gv_ok, Gv_give, Gv_nox, Gv_req, GS_req, R.bind_ok, R.thn_ok, RS.thn_nx, giveS_some, start, List.map_cons, List.map_nil, List.length_cons, List.length_nil, List.cons_append, List.nil_append, List.append_nil, List.replicate_succ, List.replicate_zero, Nat.reduceAdd, Nat.reduceSub, env_z, env_s, dl_z, dl_s, selO, set_z, set_s, asg, Option.some.injEq, exists_eq_left', bi1, bi0, isAbs, WW.wipe, setAll, if_true, if_false, Bool.false_eq_true, reduceIte, biO, mtO, pre_upper, pre_join, Option.map_some, Option.bind_some, exists_eq_left, and_true, true_and, c_lt, c_le, c_gt, c_ge, t_bool, t_int, b_add, b_sub, b_mul, b_div, b_mod, GS_ost, p_int, newL_t, newL_f, allPy_cons, allPy_nil, allPy_map, slc_tup, sset_z, sset_s, sto_z, sto_s, mkT, sizeBig, Nat.reduceLeDiff, Int.reduceLT, Int.reduceLE, decide_true, decide_false, ↓reduceIte, tyOk, subTy, List.all_cons, List.all_nil, List.any_cons, List.any_nil, beq_self_eq_true, Bool.true_or, Bool.or_false, Bool.false_or, Bool.and_true, Bool.true_and, Bool.or_true, String.reduceBEq, Bool.and_false, Bool.false_and]
    exact ⟨_, rfl, rfl⟩
end WW

namespace WW
open PySem PySem.Spec
/-! ### how long a thing's text is, in general -/
structure Sh (p : PyData) (K D : Nat) : Prop where
  sh : p.showable = true
  dep : p.depth ≤ D
  len : p.shown.length ≤ K
  dic : p.hasDict = false
theorem Sh.mono {p : PyData} {K D K' D' : Nat} (h : Sh p K D) (h1 : K ≤ K') (h2 : D ≤ D') : Sh p K' D' := ⟨h.sh, Nat.le_trans h.dep h2, Nat.le_trans h.len h1, h.dic⟩
theorem int_shown : ∀ i : Nat, i < 1001 → (PyData.shown (.int (i : Int))).length ≤ 4 ∧ PyData.showable (.int (i : Int)) = true := by decide +kernel
theorem sh_int {i : Int} (h0 : 0 ≤ i) (h1 : i ≤ 1000) : Sh (.int i) 4 0 := by
  obtain ⟨j, rfl⟩ : ∃ j : Nat, i = (j : Int) := ⟨i.toNat, by omega⟩
  obtain ⟨a, b⟩ := int_shown j (by omega)
  exact ⟨b, by simp [PyData.depth], a, by simp [PyData.hasDict]⟩
theorem sh_none : Sh .none 4 0 := ⟨by simp [PyData.showable], by simp [PyData.depth], by decide, by simp [PyData.hasDict]⟩
theorem sh_bool (b : Bool) : Sh (.bool b) 5 0 := ⟨by simp [PyData.showable], by simp [PyData.depth], by cases b <;> decide, by simp [PyData.hasDict]⟩
theorem sh_str {x : Str} {n : Nat} (h : Asc x) (hl : x.length ≤ n) : Sh (.str x) (10 * n + 2) 0 :=
  ⟨by simp [PyData.showable], by simp [PyData.depth], by simp only [PyData.shown]; have := h.repr; omega, by simp [PyData.hasDict]⟩
theorem sh_all {K D : Nat} : ∀ {ps : List PyData}, (∀ q ∈ ps, Sh q K D) → PyData.showableAll ps = true ∧ PyData.depthAll ps ≤ D ∧ piled (PyData.shownAll ps) ≤ ps.length * (K + 2) ∧ PyData.hasDictAll ps = false
  | [], _ => ⟨rfl, by simp [PyData.depthAll], by simp [PyData.shownAll, piled], rfl⟩
  | q :: ps, h => by
    obtain ⟨h1, h2, h3, h4⟩ := sh_all (ps := ps) fun r hr => h r (List.mem_cons_of_mem _ hr)
    have hq := h q (List.mem_cons_self ..)
    refine ⟨by rw [PyData.showableAll, hq.sh, h1]; rfl, by rw [PyData.depthAll]; exact Nat.max_le.mpr ⟨hq.dep, h2⟩, ?_, by rw [PyData.hasDictAll, hq.dic, h4]; rfl⟩
    rw [PyData.shownAll, piled_cons, List.length_cons, Nat.add_mul, Nat.one_mul]
    have := hq.len
    omega
theorem sh_tup {K D : Nat} {ps : List PyData} (n : Nat) (hn : ps.length ≤ n) (h : ∀ q ∈ ps, Sh q K D) : Sh (.tuple ps) (3 + n * (K + 2)) (D + 1) := by
  obtain ⟨h1, h2, h3, h4⟩ := sh_all h
  have hm : ps.length * (K + 2) ≤ n * (K + 2) := Nat.mul_le_mul_right _ hn
  refine ⟨by simpa [PyData.showable] using h1, by simp only [PyData.depth]; omega, ?_, by simpa [PyData.hasDict] using h4⟩
  simp only [PyData.shown]
  have := tupleText_len (PyData.shownAll ps); omega
theorem sh_lst {K D : Nat} {ps : List PyData} (n : Nat) (hn : ps.length ≤ n) (h : ∀ q ∈ ps, Sh q K D) : Sh (.list ps) (2 + n * (K + 2)) (D + 1) := by
  obtain ⟨h1, h2, h3, h4⟩ := sh_all h
  have hm : ps.length * (K + 2) ≤ n * (K + 2) := Nat.mul_le_mul_right _ hn
  refine ⟨by simpa [PyData.showable] using h1, by simp only [PyData.depth]; omega, ?_, by simpa [PyData.hasDict] using h4⟩
  simp only [PyData.shown]
  have := listText_len (PyData.shownAll ps); omega
theorem Sh.ok {p : PyData} {K D : Nat} (h : Sh p K D) (h1 : K ≤ 16777216) (h2 : D ≤ 60) : showOk p = true :=
  showOk_of (.inl h.dic) h.sh (Nat.le_trans h.dep h2) (sizeBig (Nat.le_trans h.len h1))
theorem repr_ok {p : PyData} {st : Store} {K D : Nat} (h : Sh p K D) (h1 : K ≤ 16777216) (h2 : D ≤ 60) : biRepr st (.py p) = .ok (so p.shown) st := by
  have := h.ok h1 h2
  unfold biRepr
  show (if showOk p = true then _ else _) = _
  rw [if_pos this]
theorem sh_ints {gs : List Int} (n : Nat) (hn : gs.length ≤ n) (h : ∀ g ∈ gs, 0 ≤ g ∧ g ≤ 1000) : Sh (.tuple (gs.map .int)) (3 + n * 6) 1 :=
  sh_tup (K := 4) n (by rw [List.length_map]; exact hn) fun q hq => by
    obtain ⟨g, hg, rfl⟩ := List.mem_map.mp hq
    exact sh_int (h g hg).1 (h g hg).2
theorem sh_names {xs : List Str} (n : Nat) (hn : xs.length ≤ n) (h : ∀ x ∈ xs, Nme x) : Sh (.tuple (xs.map .str)) (3 + n * 64) 1 :=
  sh_tup (K := 62) n (by rw [List.length_map]; exact hn) fun q hq => by
    obtain ⟨x, hx, rfl⟩ := List.mem_map.mp hq
    exact sh_str (n := 6) (h x hx).low.asc (h x hx).hi
theorem sh_po {p : Po} {n : Int} {names : List Str} {most : Nat} (h : PoOk n names most p) (hn : n ≤ 1000) (hm : most ≤ 40) (hN : ∀ x ∈ names, Nme x) : Sh p.py 1000 2 := by
  have h1 : Sh (.tuple (p.arms.map .int)) (3 + 40 * 6) 1 := sh_ints 40 (Nat.le_trans h.len hm) fun a ha => ⟨(h.rng a ha).1, by have := (h.rng a ha).2; omega⟩
  have h2 := sh_str (n := 6) (hN _ h.nm).low.asc (hN _ h.nm).hi
  refine (sh_tup (K := 243) (D := 1) 3 (by simp) fun q hq => ?_).mono (by decide) (by decide)
  simp only [List.mem_cons, List.not_mem_nil, or_false] at hq
  rcases hq with rfl | rfl | rfl
  · exact (sh_int h.c0 (by have := h.c1; omega)).mono (by decide) (by decide)
  · exact h2.mono (by decide) (by decide)
  · exact h1.mono (by decide) (by decide)
theorem sh_web {n : Int} {names : List Str} {most : Nat} {ps : List Po} (h : WebOk n names most ps) (h0 : 0 ≤ n) (hn : n ≤ 100) (hz : names.length ≤ 12) (hm : most ≤ 40) (hN : ∀ x ∈ names, Nme x) : Sh (webP n ps) 2500000 4 := by
  have hl : ps.length ≤ 1200 := by
    have : n.toNat * names.length ≤ 100 * 12 := Nat.mul_le_mul (by omega) hz
    have := h.len; omega
  have h1 : Sh (.tuple (ps.map Po.py)) (3 + 1200 * 1002) 3 := sh_tup (K := 1000) 1200 (by rw [List.length_map]; exact hl) fun q hq => by
    obtain ⟨p, hp, rfl⟩ := List.mem_map.mp hq
    exact sh_po (h.all p hp) (by omega) hm hN
  refine (sh_tup (K := 3 + 1200 * 1002) (D := 3) 2 (by simp) fun q hq => ?_).mono (by decide) (by decide)
  simp only [List.mem_cons, List.not_mem_nil, or_false] at hq
  rcases hq with rfl | rfl
  · exact (sh_int h0 (by omega)).mono (by decide) (by decide)
  · exact h1
end WW

namespace WW
open PySem PySem.Spec
theorem list_tup {st : Store} {ps : List PyData} : biList false st (.py (.tuple ps)) = .ok (.py (.list ps)) st := by
  simp only [biList, asLT, asT, newL, allPy_map, Option.map_some, giveS_some]
theorem repr_of {p : PyData} {st : Store} (h : showOk p = true) : biRepr st (.py p) = .ok (so p.shown) st := by
  simp only [biRepr, toPy, toPyF_py]; rw [if_pos h]
theorem eq_refl_str (st : Store) (x : Str) : cmpO .Eq st (so x) (so x) = some true := by
  have hs : eqs (.str x) (.str x) = true := rfl
  simp only [cmpO, eqO, isE, eqV, toPy, toPyF_py, Option.bind_some, hs, if_true]
  congr 1
  exact beq_self_eq_true x
theorem ne_refl_str (st : Store) (x : Str) : cmpO .NotEq st (so x) (so x) = some false := by
  have e : cmpO .NotEq st (so x) (so x) = (cmpO .Eq st (so x) (so x)).map (!·) := rfl
  rw [e, eq_refl_str]; rfl
/-- a walk while, by a measure -/
theorem wh_ok {t : Env → Store → R Bool} {b : Env → Store → RS} {N B C : Env → Store → Prop} {T : D → Store → Prop} (I : Nat → Env → Store → Prop)
    (hs : ∀ m env st, I m env st → Gv (t env st) fun c st1 => if c = true then GS (b env st1) (fun e s => ∃ m', m' < m ∧ I m' e s) N (fun e s => ∃ m', m' < m ∧ I m' e s) T else N env st1) :
    ∀ (m : Nat) (env : Env) (st : Store), I m env st → GS (whL t b env st) N B C T := by
  intro m
  induction m using Nat.strongRecOn with
  | _ m ih =>
    intro env st hI
    rw [whL_eq, GS_thn]
    refine (hs m env st hI).imp fun c st1 q => ?_
    cases c with
    | true =>
      rw [if_pos rfl] at q
      simp only [GS_turn]
      exact q.imp (fun e s ⟨m', h1, h2⟩ => ih m' h1 e s h2) (fun _ _ x => x) (fun e s ⟨m', h1, h2⟩ => ih m' h1 e s h2) (fun _ _ x => x)
    | false =>
      rw [if_neg (by simp)] at q
      exact ⟨q⟩
/-- a call with one thing of the store that it leaves as it is; it answers data -/
theorem call_keep {φ : Fn} {n : Nat} {o : SO} (ps : List PyData) {st : Store} {P : D → Store → Prop} (hn : st[n]? = some o) (hf : ∀ p s, frzA p s o = some o)
    (h : Gv (φ (.loc 0 :: ps.map .py) [o]) fun d st1 => ∃ q, frzD (from' 1) st1 8 d = some q ∧ st1[0]? = some o ∧ P (.py q) st) : Gv (callM 0 φ (.loc n :: ps.map .py) st) P := by
  refine sub_gv (md := 0) (ls := [n]) (os := [o]) ?_ (by simp) ?_ ?_
  · show (locsOf (ps.map .py)).map _ = _
    rw [locs_data]; rfl
  · simp only [pick, hn, Option.bind_some, Option.map_some, frzAll, hf]
  · show Gv (φ (.loc 0 :: renum 1 (ps.map .py)) _) _
    rw [renum_data]
    refine h.imp fun d st1 ⟨q, e1, e2, k⟩ => ⟨q, [o], e1, ?_, ?_⟩
    · cases st1 with
      | nil => cases e2
      | cons o1 st1 =>
        cases e2
        simp only [List.length_singleton, List.take_succ_cons, List.take_zero, frzAll, hf, Option.bind_some, Option.map_some]
    · have : backIn st [n] [o] = st := set_same hn
      rw [this]; exact k
theorem frz_loc_lst {p : Nat → Bool} {st : Store} {k : Nat} {ps : List PyData} (hp : p k = true) (h : st[k]? = some (.lst (ps.map .py))) : frzD p st 8 (.loc k) = some (.list ps) := by
  rw [frzD_loc, if_pos hp, h]
  show (if emT (.lst (ps.map .py)) = true then none else toPyO (frzD p st 7) (.lst (ps.map .py))) = _
  rw [if_neg (by show ¬ false = true; simp)]
  simp only [toPyO, frzL_map, Option.map_some]
theorem cat_lst {st : Store} {xs ys : List PyData} (h : xs.length + ys.length ≤ 16777216) : binO .Add false st (.py (.list xs)) (.py (.list ys)) = .ok (.py (.list (xs ++ ys))) st := by
  have e : binO .Add false st (.py (.list xs)) (.py (.list ys)) = if (xs.map D.py).length + (ys.map D.py).length ≤ sizeLine then newL false (xs.map D.py ++ ys.map D.py) st else .stuck := rfl
  rw [e, if_pos (by rw [List.length_map, List.length_map]; exact sizeBig h), ← List.map_append]
  simp only [newL, allPy_map, Option.map_some, giveS_some]
theorem mul_tup {m : Bool} {st : Store} {xs : List PyData} {j : Int} (h1 : -1000 ≤ j) (h2 : j ≤ 1000) (h3 : xs.length ≤ 1000) : binO .Mult m st (.py (.tuple xs)) (io j) = .ok (.py (.tuple (List.replicate j.toNat xs).flatten)) st := by
  have e : binO .Mult m st (.py (.tuple xs)) (io j) = if (decide (-1000 ≤ j) && decide (j ≤ 1000) && decide (xs.length ≤ 1000)) = true then .ok (.py (.tuple (List.replicate j.toNat xs).flatten)) st else .stuck := rfl
  rw [e, if_pos (by rw [decide_eq_true h1, decide_eq_true h2, decide_eq_true h3]; rfl)]
theorem rep_map {α β : Type} (f : α → β) (n : Nat) (xs : List α) : (List.replicate n (xs.map f)).flatten = ((List.replicate n xs).flatten).map f := by
  rw [List.map_flatten, List.map_replicate]
theorem rep_len {α : Type} (n : Nat) (xs : List α) : (List.replicate n xs).flatten.length = n * xs.length := by
  induction n with
  | zero => simp
  | succ n ih => rw [List.replicate_succ, List.flatten_cons, List.length_append, ih, Nat.add_mul, Nat.one_mul, Nat.add_comm]
theorem mem_rep {α : Type} {n : Nat} {xs : List α} {x : α} (h : x ∈ (List.replicate n xs).flatten) : x ∈ xs := by
  obtain ⟨l, h1, h2⟩ := List.mem_flatten.mp h
  rw [(List.mem_replicate.mp h1).2] at h2
  exact h2
theorem bi_min {st : Store} {i j : Int} : biMin st [io i, io j] = .ok (io (if j < i then j else i)) st := rfl
theorem bi_max {st : Store} {i j : Int} : biMax st [io i, io j] = .ok (io (if j > i then j else i)) st := rfl
/-! dicts with ints as keys -/
theorem get_dK {st : Store} {n : Nat} {l : List (Key × PyData)} {k : Key} (h : getS st n = some (.dK (pyv l))) : getO st (.loc n) (.one k) = some ((look l k).map .py) := by
  simp only [getO, h, look_pyv]
theorem isD_dK {st : Store} {n : Nat} {l : List (Key × D)} (h : getS st n = some (.dK l)) : isD st (.loc n) = true := by simp only [isD, h]
theorem idx_dK {st : Store} {n : Nat} {l : List (Key × PyData)} {i : Int} (h : getS st n = some (.dK (pyv l))) : idxO st (.loc n) (io i) = (look l (.inl i)).map .py := by
  have e : dkey (io i) = some (.one (.inl i)) := rfl
  simp only [idxO, isD_dK h, e, Option.bind_some, get_dK h, id]
theorem in_dK {st : Store} {n : Nat} {l : List (Key × PyData)} {i : Int} (h : getS st n = some (.dK (pyv l))) : cmpO .In st (io i) (.loc n) = some (look l (.inl i)).isSome := by
  have e : dkey (io i) = some (.one (.inl i)) := rfl
  simp only [cmpO, inO, isD_dK h, e, Option.bind_some, get_dK h, Option.map_some, Option.isSome_map]
theorem get2_dK {st : Store} {n : Nat} {l : List (Key × PyData)} {i : Int} {w : PyData} (h : getS st n = some (.dK (pyv l))) : mtGet st (.loc n) [io i, .py w] = .ok (.py ((look l (.inl i)).getD w)) st := by
  have e : dkey (io i) = some (.one (.inl i)) := rfl
  simp only [mtGet, e, Option.bind_some, get_dK h]
  cases look l (.inl i) <;> rfl
theorem set_dK {st : Store} {n : Nat} {l : List (Key × PyData)} {i : Int} {w : PyData} (h : st[n]? = some (.dK (pyv l))) (hl : l.length < 16777216) : setO st (.loc n) (io i) (.py w) = some (st.set n (.dK (pyv (put l (.inl i) w)))) := by
  have e : dkey (io i) = some (.one (.inl i)) := rfl
  simp only [setO, h, e]
  rw [if_pos (by rw [pyv_len, sizeLine_eq]; exact hl), put_pyv]
theorem pre_get {st : Store} {n : Nat} {l : List (Key × D)} (h : getS st n = some (.dK l)) : mtPre .get st (.loc n) = true := isD_dK h
/-! a law over its first cells -/
def cCells (c : Int) (b : CS) (m : Nat) : CF := ⟨1, m + 2, .seq (.for (.rng (.cons (.bi .max false (.cons (.con (.int 1)) (.cons (.bi .min false (.cons (.con (.int c)) (.cons (.bi .len false (.cons (.var 0) (.nil))) (.nil)))) (.nil)))) (.nil))) (.nam 1) b)
  (.seq (.ret (.con (.bool true)))
  (.skip))⟩
theorem law_cells {Φ : Nat → Fn} {c : Int} {b : CS} {m : Nat} (hc : c ≤ 60) (hb : ∀ (ns : List Int) (k : Int) (tail : Env) (s : Store), 0 ≤ k → k < 64 → tail.length = m → s[0]? = some (.lck (.lst (ioS ns))) →
      GS (exec Φ b (some (.loc 0) :: some (io k) :: tail) s) (fun e s' => s'[0]? = some (.lck (.lst (ioS ns))) ∧ ∃ y t, t.length = m ∧ e = some (.loc 0) :: y :: t) F3 F3 (fun d _ => d = bo true)) :
    ∀ ns : List Int, ns.length ≤ 63 → ∃ st, run Φ (cCells c b m) [.loc 0] [.lck (.lst (ioS ns))] = .ok (bo true) st := by
  intro ns hl
  have key : Gv (run Φ (cCells c b m) [.loc 0] [.lck (.lst (ioS ns))]) fun d _ => d = bo true := by
    refine run_gv rfl ?_
    have e1 : ∀ st : Store, lenO (.lck (.lst (ioS ns)) :: st) (.loc 0) = some (ns.length : Int) := fun st => by rw [len_loc (getS_lck _ st)]; simp [ioS]
    unfold cCells
    have es : start (m + 2) [D.loc 0] = some (.loc 0) :: none :: List.replicate m none := by
      show [some (D.loc 0)] ++ List.replicate (m + 2 - 1) none = _
      rw [show m + 2 - 1 = m + 1 by omega, List.replicate_succ]; rfl
    show GS (exec Φ _ (start (m + 2) [D.loc 0]) _) _ _ _ _
    rw [es]
    simp only [e1, exec, ev, evs, tst, srcs, GS_seq, GS_thn, GS_nx, GS_bk, GS_ct, GS_rt, Gv_bind, Gv_ok, Gv_give, Gv_nox, Gv_req, GS_req, R.bind_ok, R.thn_ok, RS.thn_nx, giveS_some, start, List.map_cons, List.map_nil, List.length_cons, List.length_nil, List.cons_append, List.nil_append, List.append_nil, List.replicate_succ, List.replicate_zero, Nat.reduceAdd, Nat.reduceSub, env_z, env_s, dl_z, dl_s, selO, set_z, set_s, asg, Option.some.injEq, exists_eq_left', bi1, bi0, isAbs, WW.wipe, setAll, if_true, if_false, Bool.false_eq_true, reduceIte, biO, mtO, pre_upper, pre_join, Option.map_some, Option.bind_some, exists_eq_left, and_true, true_and, c_lt, c_le, c_gt, c_ge, t_bool, t_int, b_add, b_sub, b_mul, b_div, b_mod, GS_ost, p_int, newL_t, newL_f, allPy_cons, allPy_nil, allPy_map, slc_tup, sset_z, sset_s, sto_z, sto_s, mkT, sizeBig, Nat.reduceLeDiff, Int.reduceLT, Int.reduceLE, decide_true, decide_false, ↓reduceIte, tyOk, subTy, List.all_cons, List.all_nil, List.any_cons, List.any_nil, beq_self_eq_true, Bool.true_or, Bool.or_false, Bool.false_or, Bool.and_true, Bool.true_and, Bool.or_true, String.reduceBEq, Bool.and_false, Bool.false_and, asT_py, asgs, bi_min, bi_max, eq_int, ne_int, lock_no, bi_tup_lst, is_non, un_neg, len_tup, len_lst, List.length_map, idx_tup, idx_lst, new0, new1, new2, pairsO, mergeD, List.foldl_nil, Function.comp, list_tup]
    generalize ht : (if (if (ns.length : Int) < c then (ns.length : Int) else c) > 1 then (if (ns.length : Int) < c then (ns.length : Int) else c) else 1) = t
    have t0 : 0 ≤ t := by omega
    have t1 : t ≤ 63 := by omega
    refine ⟨_, rng_its t0 (by omega), ?_⟩
    simp only [exec, ev, evs, tst, srcs, GS_seq, GS_thn, GS_nx, GS_bk, GS_ct, GS_rt, Gv_bind, Gv_ok, Gv_give, Gv_nox, Gv_req, GS_req, R.bind_ok, R.thn_ok, RS.thn_nx, giveS_some, start, List.map_cons, List.map_nil, List.length_cons, List.length_nil, List.cons_append, List.nil_append, List.append_nil, List.replicate_succ, List.replicate_zero, Nat.reduceAdd, Nat.reduceSub, env_z, env_s, dl_z, dl_s, selO, set_z, set_s, asg, Option.some.injEq, exists_eq_left', bi1, bi0, isAbs, WW.wipe, setAll, if_true, if_false, Bool.false_eq_true, reduceIte, biO, mtO, pre_upper, pre_join, Option.map_some, Option.bind_some, exists_eq_left, and_true, true_and, c_lt, c_le, c_gt, c_ge, t_bool, t_int, b_add, b_sub, b_mul, b_div, b_mod, GS_ost, p_int, newL_t, newL_f, allPy_cons, allPy_nil, allPy_map, slc_tup, sset_z, sset_s, sto_z, sto_s, mkT, sizeBig, Nat.reduceLeDiff, Int.reduceLT, Int.reduceLE, decide_true, decide_false, ↓reduceIte, tyOk, subTy, List.all_cons, List.all_nil, List.any_cons, List.any_nil, beq_self_eq_true, Bool.true_or, Bool.or_false, Bool.false_or, Bool.and_true, Bool.true_and, Bool.or_true, String.reduceBEq, Bool.and_false, Bool.false_and, asT_py, asgs, bi_min, bi_max, eq_int, ne_int, lock_no, bi_tup_lst, is_non, un_neg, len_tup, len_lst, List.length_map, idx_tup, idx_lst, new0, new1, new2, pairsO, mergeD, List.foldl_nil, Function.comp, list_tup]
    refine for_ok (fun i env s => s[0]? = some (.lck (.lst (ioS ns))) ∧ ∃ y t, t.length = m ∧ env = some (.loc 0) :: y :: t) ⟨rfl, none, List.replicate m none, by rw [List.length_replicate], rfl⟩ (fun _ _ _ _ => still_nil _) (fun i x env s hx hI => ?_) fun env s ⟨hs, y, t, _, e⟩ => ?_
    · obtain ⟨hs, y, t', ht', rfl⟩ := hI
      obtain ⟨hi, rfl⟩ := rngI_get hx
      refine ⟨_, rfl, ?_⟩
      exact (hb ns i t' s (by omega) (by omega) ht' hs).imp (fun _ _ h => h) (fun _ _ h => h.elim) (fun _ _ h => h.elim) (fun _ _ h => h)
    · simp only [exec, ev, evs, tst, srcs, GS_seq, GS_thn, GS_nx, GS_bk, GS_ct, GS_rt, Gv_bind, Gv_ok, Gv_give, Gv_nox, Gv_req, GS_req, R.bind_ok, R.thn_ok, RS.thn_nx, giveS_some, start, List.map_cons, List.map_nil, List.length_cons, List.length_nil, List.cons_append, List.nil_append, List.append_nil, List.replicate_succ, List.replicate_zero, Nat.reduceAdd, Nat.reduceSub, env_z, env_s, dl_z, dl_s, selO, set_z, set_s, asg, Option.some.injEq, exists_eq_left', bi1, bi0, isAbs, WW.wipe, setAll, if_true, if_false, Bool.false_eq_true, reduceIte, biO, mtO, pre_upper, pre_join, Option.map_some, Option.bind_some, exists_eq_left, and_true, true_and, c_lt, c_le, c_gt, c_ge, t_bool, t_int, b_add, b_sub, b_mul, b_div, b_mod, GS_ost, p_int, newL_t, newL_f, allPy_cons, allPy_nil, allPy_map, slc_tup, sset_z, sset_s, sto_z, sto_s, mkT, sizeBig, Nat.reduceLeDiff, Int.reduceLT, Int.reduceLE, decide_true, decide_false, ↓reduceIte, tyOk, subTy, List.all_cons, List.all_nil, List.any_cons, List.any_nil, beq_self_eq_true, Bool.true_or, Bool.or_false, Bool.false_or, Bool.and_true, Bool.true_and, Bool.or_true, String.reduceBEq, Bool.and_false, Bool.false_and, asT_py, asgs, bi_min, bi_max, eq_int, ne_int, lock_no, bi_tup_lst, is_non, un_neg, len_tup, len_lst, List.length_map, idx_tup, idx_lst, new0, new1, new2, pairsO, mergeD, List.foldl_nil, Function.comp, list_tup]
  obtain ⟨d, st, e, rfl⟩ := key.out
  exact ⟨st, e⟩
theorem tail6 {t : Env} (h : t.length = 6) : ∃ a b c d e f, t = [a, b, c, d, e, f] := by
  match t, h with
  | [a, b, c, d, e, f], _ => exact ⟨a, b, c, d, e, f, rfl⟩
end WW

namespace WW
open PySem PySem.Spec L2
/-! ### the text by places -/
def topS (i : Nat) : Stmt := PySem.Challenge.pw_woundwalks_k23_rows_gone.main.body.getD i (.Pass ⟨0, 0, 0, 0⟩)
/-! _law_pot -/
abbrev s_law_pot : Stmt := topS 7
def c_law_pot : CF := ⟨2, 4, .seq (.asg (.nam 2) (.bin .Add false (.bin .Mult false (.con (.int 3)) (.var 1)) (.bi .len false (.cons (.var 0) (.nil)))))
  (.seq (.ite (.tof (.cmp .Lt (.var 1) (.bi .len false (.cons (.var 0) (.nil)))))
  (.seq (.asg (.nam 2) (.idx (.var 0) (.var 1)))
  (.skip))
  (.skip))
  (.seq (.asg (.nam 3) (.bin .Mult false (.bin .Mod false (.bi .abs false (.cons (.var 2) (.nil))) (.bi .int false (.cons (.bin .Add false (.con (.str "1")) (.bin .Mult false (.con (.str "0")) (.con (.int 900)))) (.nil)))) (.bi .int false (.cons (.cmp .GtE (.bi .abs false (.cons (.var 2) (.nil))) (.bin .Pow false (.con (.int 10)) (.con (.int 18)))) (.nil)))))
  (.seq (.ret (.lst true (.cons (.var 3) (.cons (.bin .Mod false (.bin .Mult false (.bin .Add false (.bin .Add false (.bin .Mod false (.var 2) (.con (.int 2305843009213693951))) (.bin .Mult false (.bin .Mult false (.con (.int 7919)) (.var 1)) (.var 1))) (.con (.int 11))) (.con (.int 48271))) (.con (.int 2305843009213693951))) (.nil)))))
  (.skip))))⟩
def N_law_pot : List Str := ["_law_script", "_law_k", "_law_cell", "_law_great"]
def G_law_pot : List (Str × GE) := [("abs", .blt), ("int", .blt), ("len", .blt)]
theorem sc_law_pot : scL N_law_pot ["_law_script", "_law_k"] (defScope s_law_pot) = true := by decide +kernel
theorem ck_law_pot : chkS c_law_pot.body ⟨N_law_pot, defScope s_law_pot, fun _ => true, G_law_pot⟩ (.b (defBody s_law_pot)) = true := by decide +kernel
noncomputable def T_law_pot : Nat → Fn := tab []
noncomputable def F_law_pot : Fn := run T_law_pot c_law_pot
/-! _law_take -/
abbrev s_law_take : Stmt := topS 8
def c_law_take : CF := ⟨2, 3, .seq (.ite (.tof (.cmp .Gt (.idx (.var 0) (.con (.int 0))) (.con (.int 0))))
  (.seq (.asg (.nam 2) (.bin .Mod false (.idx (.var 0) (.con (.int 0))) (.var 1)))
  (.seq (.set (.var 0) (.con (.int 0)) (.bin .FloorDiv false (.idx (.var 0) (.con (.int 0))) (.var 1)))
  (.seq (.ret (.var 2))
  (.skip))))
  (.skip))
  (.seq (.set (.var 0) (.con (.int 1)) (.bin .Mod false (.bin .Add false (.bin .Mult false (.idx (.var 0) (.con (.int 1))) (.con (.int 1181783497276652981))) (.con (.int 12345678910987))) (.con (.int 2305843009213693951))))
  (.seq (.ret (.bin .Mod false (.bin .FloorDiv false (.bin .Mod false (.bin .Mult false (.bin .FloorDiv false (.idx (.var 0) (.con (.int 1))) (.con (.int 65537))) (.bin .Add false (.bin .Mod false (.idx (.var 0) (.con (.int 1))) (.con (.int 65537))) (.con (.int 3)))) (.con (.int 2305843009213693921))) (.con (.int 97))) (.var 1)))
  (.skip)))⟩
def N_law_take : List Str := ["_law_pot_here", "_law_upto", "_law_digit"]
def G_law_take : List (Str × GE) := []
theorem sc_law_take : scL N_law_take ["_law_pot_here", "_law_upto"] (defScope s_law_take) = true := by decide +kernel
theorem ck_law_take : chkS c_law_take.body ⟨N_law_take, defScope s_law_take, fun _ => true, G_law_take⟩ (.b (defBody s_law_take)) = true := by decide +kernel
noncomputable def T_law_take : Nat → Fn := tab [F_law_pot]
noncomputable def F_law_take : Fn := run T_law_take c_law_take
/-! _law_web -/
abbrev s_law_web : Stmt := topS 11
def b1_law_web : CS := .seq (.set (.var 7) (.call 0 1 (.cons (.var 0) (.cons (.var 1) (.nil)))) (.con (.bool true)))
  (.skip)
def b2_law_web : CS := .seq (.asg (.nam 7) (.dct 1 .nil))
  (.seq (.for (.rng (.cons (.call 0 1 (.cons (.var 0) (.cons (.bin .Add false (.var 3) (.con (.int 1))) (.nil)))) (.nil))) (.nam 8) b1_law_web)
  (.seq (.ite (.tof (.cmp .NotEq (.var 7) (.dct 0 .nil)))
  (.seq (.exp (.mt .append (.var 4) (.cons (.tup (.cons (.var 5) (.cons (.var 6) (.cons (.bi .tuple false (.cons (.bi .sorted false (.cons (.var 7) (.nil))) (.nil))) (.nil))))) (.nil))))
  (.skip))
  (.skip))
  (.skip)))
def b3_law_web : CS := .seq (.for (.seq (.var 2)) (.nam 6) b2_law_web)
  (.skip)
def c_law_web : CF := ⟨4, 9, .seq (.asg (.nam 4) (.lst true (.nil)))
  (.seq (.for (.rng (.cons (.var 1) (.nil))) (.nam 5) b3_law_web)
  (.seq (.ret (.tup (.cons (.var 1) (.cons (.bi .tuple false (.cons (.var 4) (.nil))) (.nil)))))
  (.skip)))⟩
def N_law_web : List Str := ["_law_pot_here", "_law_n", "_law_names_here", "_law_most", "_law_found", "_law_crossing", "_law_name", "_law_arms", "_law_k"]
def G_law_web : List (Str × GE) := [("tuple", .blt), ("sorted", .blt), ("_law_take", .fn 1 ["_law_pot_here", "_law_upto"] true []), ("range", .blt)]
theorem sc_law_web : scL N_law_web ["_law_pot_here", "_law_n", "_law_names_here", "_law_most"] (defScope s_law_web) = true := by decide +kernel
theorem ck_law_web : chkS c_law_web.body ⟨N_law_web, defScope s_law_web, fun _ => true, G_law_web⟩ (.b (defBody s_law_web)) = true := by decide +kernel
noncomputable def T_law_web : Nat → Fn := tab [F_law_pot, F_law_take]
noncomputable def F_law_web : Fn := run T_law_web c_law_web
/-! _law_of -/
abbrev s_law_of : Stmt := topS 9
def c_law_of : CF := ⟨2, 2, .seq (.ret (.idx (.var 1) (.call 0 1 (.cons (.var 0) (.cons (.bi .len false (.cons (.var 1) (.nil))) (.nil))))))
  (.skip)⟩
def N_law_of : List Str := ["_law_pot_here", "_law_some"]
def G_law_of : List (Str × GE) := [("_law_take", .fn 1 ["_law_pot_here", "_law_upto"] true []), ("len", .blt)]
theorem sc_law_of : scL N_law_of ["_law_pot_here", "_law_some"] (defScope s_law_of) = true := by decide +kernel
theorem ck_law_of : chkS c_law_of.body ⟨N_law_of, defScope s_law_of, fun _ => true, G_law_of⟩ (.b (defBody s_law_of)) = true := by decide +kernel
noncomputable def T_law_of : Nat → Fn := tab [F_law_pot, F_law_take, F_law_web]
noncomputable def F_law_of : Fn := run T_law_of c_law_of
/-! _law_world -/
abbrev s_law_world : Stmt := topS 12
def l1_law_world : CE := .lc false [2] (.seq (.idx (.var 1) (.con (.int 1)))) (.nam 2) (.yes) (.call 0 3 (.cons (.var 0) (.cons (.bi .list false (.cons (.idx (.var 2) (.con (.int 2))) (.nil))) (.nil))))
def c_law_world : CF := ⟨2, 3, .seq (.ret (.bi .tuple false (.cons (l1_law_world) (.nil))))
  (.skip)⟩
def N_law_world : List Str := ["_law_pot_here", "_law_web_here", "_law_post"]
def G_law_world : List (Str × GE) := [("tuple", .blt), ("_law_of", .fn 3 ["_law_pot_here", "_law_some"] true []), ("list", .blt)]
theorem sc_law_world : scL N_law_world ["_law_pot_here", "_law_web_here"] (defScope s_law_world) = true := by decide +kernel
theorem ck_law_world : chkS c_law_world.body ⟨N_law_world, defScope s_law_world, fun _ => true, G_law_world⟩ (.b (defBody s_law_world)) = true := by decide +kernel
noncomputable def T_law_world : Nat → Fn := tab [F_law_pot, F_law_take, F_law_web, F_law_of]
noncomputable def F_law_world : Fn := run T_law_world c_law_world
/-! _law_names -/
abbrev s_law_names : Stmt := topS 10
def l1_law_names : CE := .lc false [8] (.seq (.var 3)) (.nam 8) (.yes) (.bin .Add false (.bin .Add false (.slc false (.var 2) (.abs) (.var 4)) (.var 8)) (.slc false (.var 2) (.var 4) (.abs)))
def l2_law_names : CE := .lc false [7] (.rng (.cons (.var 1) (.nil))) (.nam 7) (.yes) (.idx (.con (.str "abcdefghijklmnopqrstuvwxyz")) (.bin .Mod false (.bin .Add false (.var 5) (.bin .Mult false (.var 6) (.var 7))) (.con (.int 26))))
def l3_law_names : CE := .lc false [7] (.rng (.cons (.call 0 1 (.cons (.var 0) (.cons (.con (.int 6)) (.nil)))) (.nil))) (.nam 7) (.yes) (.call 0 3 (.cons (.var 0) (.cons (.bi .list false (.cons (.con (.str "abcxyz")) (.nil))) (.nil))))
def c_law_names : CF := ⟨2, 9, .seq (.asg (.nam 2) (.mt .join (.con (.str "")) (.cons (l3_law_names) (.nil))))
  (.seq (.asg (.cons (.nam 4) (.cons (.nam 5) (.cons (.nam 6) (.nil)))) (.tup (.cons (.call 0 1 (.cons (.var 0) (.cons (.bin .Add false (.bi .len false (.cons (.var 2) (.nil))) (.con (.int 1))) (.nil)))) (.cons (.call 0 1 (.cons (.var 0) (.cons (.con (.int 26)) (.nil)))) (.cons (.call 0 3 (.cons (.var 0) (.cons (.lst false (.cons (.con (.int 1)) (.cons (.con (.int 3)) (.cons (.con (.int 5)) (.cons (.con (.int 7)) (.cons (.con (.int 9)) (.cons (.con (.int 11)) (.nil)))))))) (.nil)))) (.nil))))))
  (.seq (.asg (.nam 3) (l2_law_names))
  (.seq (.ret (.bi .sorted false (.cons (l1_law_names) (.nil))))
  (.skip))))⟩
def N_law_names : List Str := ["_law_pot_here", "_law_many", "_law_stem", "_law_letters", "_law_at", "_law_first", "_law_leap", "_law_k", "_law_letter"]
def G_law_names : List (Str × GE) := [("sorted", .blt), ("range", .blt), ("_law_of", .fn 3 ["_law_pot_here", "_law_some"] true []), ("_law_take", .fn 1 ["_law_pot_here", "_law_upto"] true []), ("len", .blt), ("list", .blt)]
theorem sc_law_names : scL N_law_names ["_law_pot_here", "_law_many"] (defScope s_law_names) = true := by decide +kernel
theorem ck_law_names : chkS c_law_names.body ⟨N_law_names, defScope s_law_names, fun _ => true, G_law_names⟩ (.b (defBody s_law_names)) = true := by decide +kernel
noncomputable def T_law_names : Nat → Fn := tab [F_law_pot, F_law_take, F_law_web, F_law_of, F_law_world]
noncomputable def F_law_names : Fn := run T_law_names c_law_names
/-! _law_goals -/
abbrev s_law_goals : Stmt := topS 13
def l1_law_goals : CE := .lc false [2] (.rng (.cons (.var 1) (.nil))) (.nam 2) (.tof (.cmp .Gt (.call 0 1 (.cons (.var 0) (.cons (.con (.int 3)) (.nil)))) (.con (.int 0)))) (.var 2)
def c_law_goals : CF := ⟨2, 3, .seq (.ite (.tof (.cmp .Eq (.call 0 1 (.cons (.var 0) (.cons (.con (.int 2)) (.nil)))) (.con (.int 0))))
  (.seq (.ret (.con .none))
  (.skip))
  (.skip))
  (.seq (.ret (.bi .tuple false (.cons (l1_law_goals) (.nil))))
  (.skip))⟩
def N_law_goals : List Str := ["_law_pot_here", "_law_n", "_law_crossing"]
def G_law_goals : List (Str × GE) := [("tuple", .blt), ("range", .blt), ("_law_take", .fn 1 ["_law_pot_here", "_law_upto"] true [])]
theorem sc_law_goals : scL N_law_goals ["_law_pot_here", "_law_n"] (defScope s_law_goals) = true := by decide +kernel
theorem ck_law_goals : chkS c_law_goals.body ⟨N_law_goals, defScope s_law_goals, fun _ => true, G_law_goals⟩ (.b (defBody s_law_goals)) = true := by decide +kernel
noncomputable def T_law_goals : Nat → Fn := tab [F_law_pot, F_law_take, F_law_web, F_law_of, F_law_world, F_law_names]
noncomputable def F_law_goals : Fn := run T_law_goals c_law_goals
/-! _law_gone -/
abbrev s_law_gone : Stmt := topS 14
def b1_law_gone : CS := .seq (.ite (.tof (.cmp .NotIn (.tup (.cons (.idx (.var 3) (.un .USub (.con (.int 1)))) (.cons (.var 4) (.nil)))) (.var 0)))
  (.seq (.ret (.var 3))
  (.skip))
  (.skip))
  (.seq (.exp (.mt .append (.var 3) (.cons (.idx (.var 0) (.tup (.cons (.idx (.var 3) (.un .USub (.con (.int 1)))) (.cons (.var 4) (.nil))))) (.nil))))
  (.skip))
def c_law_gone : CF := ⟨3, 5, .seq (.asg (.nam 3) (.lst true (.cons (.var 1) (.nil))))
  (.seq (.for (.seq (.var 2)) (.nam 4) b1_law_gone)
  (.seq (.ret (.var 3))
  (.skip)))⟩
def N_law_gone : List Str := ["_law_arms", "_law_start", "_law_row_here", "_law_found", "_law_name"]
def G_law_gone : List (Str × GE) := []
theorem sc_law_gone : scL N_law_gone ["_law_arms", "_law_start", "_law_row_here"] (defScope s_law_gone) = true := by decide +kernel
theorem ck_law_gone : chkS c_law_gone.body ⟨N_law_gone, defScope s_law_gone, fun _ => true, G_law_gone⟩ (.b (defBody s_law_gone)) = true := by decide +kernel
noncomputable def T_law_gone : Nat → Fn := tab [F_law_pot, F_law_take, F_law_web, F_law_of, F_law_world, F_law_names, F_law_goals]
noncomputable def F_law_gone : Fn := run T_law_gone c_law_gone
/-! ends_of -/
abbrev s_ends_of : Stmt := topS 1
def c_ends_of : CF := ⟨2, 2, .seq (.ret (.ite (.tof (.cmp .Is (.var 1) (.con .none))) (.bi .tupR false (.cons (.idx (.var 0) (.con (.int 0))) (.nil))) (.var 1)))
  (.skip)⟩
def N_ends_of : List Str := ["web", "goals"]
def G_ends_of : List (Str × GE) := [("tuple", .blt), ("range", .blt)]
theorem sc_ends_of : scL N_ends_of ["web", "goals"] (defScope s_ends_of) = true := by decide +kernel
theorem ck_ends_of : chkS c_ends_of.body ⟨N_ends_of, defScope s_ends_of, fun _ => true, G_ends_of⟩ (.b (defBody s_ends_of)) = true := by decide +kernel
noncomputable def T_ends_of : Nat → Fn := tab [F_law_pot, F_law_take, F_law_web, F_law_of, F_law_world, F_law_names, F_law_goals, F_law_gone]
noncomputable def F_ends_of : Fn := run T_ends_of c_ends_of
/-! ways_in -/
abbrev s_ways_in : Stmt := topS 3
def d1_ways_in : CE := .dc 2 [2, 3] (.zip (.cons (.idx (.var 0) (.con (.int 1))) (.cons (.var 1) (.nil)))) (.cons (.nam 2) (.cons (.nam 3) (.nil))) (.yes) (.slc false (.var 2) (.abs) (.con (.int 2))) (.var 3)
def c_ways_in : CF := ⟨2, 4, .seq (.ret (d1_ways_in))
  (.skip)⟩
def N_ways_in : List Str := ["web", "world", "post", "arm"]
def G_ways_in : List (Str × GE) := [("zip", .blt)]
theorem sc_ways_in : scL N_ways_in ["web", "world"] (defScope s_ways_in) = true := by decide +kernel
theorem ck_ways_in : chkS c_ways_in.body ⟨N_ways_in, defScope s_ways_in, fun _ => true, G_ways_in⟩ (.b (defBody s_ways_in)) = true := by decide +kernel
noncomputable def T_ways_in : Nat → Fn := tab [F_law_pot, F_law_take, F_law_web, F_law_of, F_law_world, F_law_names, F_law_goals, F_law_gone, F_ends_of]
noncomputable def F_ways_in : Fn := run T_ways_in c_ways_in
/-! gone -/
abbrev s_gone : Stmt := topS 4
def b1_gone : CS := .seq (.ite (.tof (.cmp .NotIn (.tup (.cons (.idx (.var 6) (.un .USub (.con (.int 1)))) (.cons (.var 4) (.nil)))) (.var 5)))
  (.seq (.brk)
  (.skip))
  (.skip))
  (.seq (.exp (.mt .append (.var 6) (.cons (.idx (.var 5) (.tup (.cons (.idx (.var 6) (.un .USub (.con (.int 1)))) (.cons (.var 4) (.nil))))) (.nil))))
  (.skip))
def c_gone : CF := ⟨4, 7, .seq (.par [5, 6] (.cons (.call 2 9 (.cons (.var 0) (.cons (.var 1) (.nil)))) (.cons (.lst true (.cons (.var 2) (.nil))) (.nil))))
  (.seq (.for (.seq (.var 3)) (.nam 4) b1_gone)
  (.seq (.ret (.bi .tuple false (.cons (.var 6) (.nil))))
  (.skip)))⟩
def N_gone : List Str := ["web", "world", "start", "row", "name", "ways", "found"]
def G_gone : List (Str × GE) := [("tuple", .blt), ("ways_in", .fn 9 ["web", "world"] true [])]
theorem sc_gone : scL N_gone ["web", "world", "start", "row"] (defScope s_gone) = true := by decide +kernel
theorem ck_gone : chkS c_gone.body ⟨N_gone, defScope s_gone, fun _ => true, G_gone⟩ (.b (defBody s_gone)) = true := by decide +kernel
noncomputable def T_gone : Nat → Fn := tab [F_law_pot, F_law_take, F_law_web, F_law_of, F_law_world, F_law_names, F_law_goals, F_law_gone, F_ends_of, F_ways_in]
noncomputable def F_gone : Fn := run T_gone c_gone
/-! starts -/
abbrev s_starts : Stmt := topS 5
def b1_starts : CS := .seq (.asg (.nam 7) (.call 0 10 (.cons (.var 0) (.cons (.var 1) (.cons (.var 4) (.cons (.var 2) (.nil)))))))
  (.seq (.ite (.tand (.tof (.cmp .Eq (.bi .len false (.cons (.var 7) (.nil))) (.bin .Add false (.bi .len false (.cons (.var 2) (.nil))) (.con (.int 1))))) (.tof (.cmp .In (.idx (.var 7) (.un .USub (.con (.int 1)))) (.var 5))))
  (.seq (.exp (.mt .append (.var 6) (.cons (.var 4) (.nil))))
  (.skip))
  (.skip))
  (.skip))
def c_starts : CF := ⟨4, 8, .seq (.par [5, 6] (.cons (.call 0 8 (.cons (.var 0) (.cons (.var 3) (.nil)))) (.cons (.lst true (.nil)) (.nil))))
  (.seq (.for (.rng (.cons (.idx (.var 0) (.con (.int 0))) (.nil))) (.nam 4) b1_starts)
  (.seq (.ret (.bi .tuple false (.cons (.var 6) (.nil))))
  (.skip)))⟩
def N_starts : List Str := ["web", "world", "row", "goals", "crossing", "ends", "found", "come"]
def G_starts : List (Str × GE) := [("tuple", .blt), ("len", .blt), ("gone", .fn 10 ["web", "world", "start", "row"] true []), ("range", .blt), ("ends_of", .fn 8 ["web", "goals"] true [])]
theorem sc_starts : scL N_starts ["web", "world", "row", "goals"] (defScope s_starts) = true := by decide +kernel
theorem ck_starts : chkS c_starts.body ⟨N_starts, defScope s_starts, fun _ => true, G_starts⟩ (.b (defBody s_starts)) = true := by decide +kernel
noncomputable def T_starts : Nat → Fn := tab [F_law_pot, F_law_take, F_law_web, F_law_of, F_law_world, F_law_names, F_law_goals, F_law_gone, F_ends_of, F_ways_in, F_gone]
noncomputable def F_starts : Fn := run T_starts c_starts
/-! _law_right -/
abbrev s_law_right : Stmt := topS 16
def l1_law_right : CE := .lc false [6] (.seq (.var 7)) (.nam 6) (.tor (.tof (.cmp .Is (.var 10) (.con .none))) (.tof (.cmp .In (.idx (.idx (.var 5) (.var 6)) (.un .USub (.con (.int 1)))) (.var 10)))) (.var 6)
def l2_law_right : CE := .lc false [6] (.rng (.cons (.idx (.var 1) (.con (.int 0))) (.nil))) (.nam 6) (.tof (.cmp .Eq (.bi .len false (.cons (.idx (.var 5) (.var 6)) (.nil))) (.bin .Add false (.bi .len false (.cons (.var 3) (.nil))) (.con (.int 1))))) (.var 6)
def b1_law_right : CS := .seq (.ite (.tof (.cmp .NotEq (.bi .repr false (.cons (.call 0 10 (.cons (.var 1) (.cons (.var 2) (.cons (.var 6) (.cons (.var 3) (.nil)))))) (.nil))) (.bi .repr false (.cons (.bi .tuple false (.cons (.idx (.var 5) (.var 6)) (.nil))) (.nil)))))
  (.seq (.ret (.con (.bool false)))
  (.skip))
  (.skip))
  (.skip)
def l3_law_right : CE := .lc false [6] (.rng (.cons (.idx (.var 1) (.con (.int 0))) (.nil))) (.nam 6) (.yes) (.call 0 7 (.cons (.var 4) (.cons (.var 6) (.cons (.var 3) (.nil)))))
def l4_law_right : CE := .lc false [12, 13] (.zip (.cons (.idx (.var 1) (.con (.int 1))) (.cons (.var 2) (.nil)))) (.cons (.nam 12) (.cons (.nam 13) (.nil))) (.yes) (.tup (.cons (.tup (.cons (.idx (.var 12) (.con (.int 0))) (.cons (.idx (.var 12) (.con (.int 1))) (.nil)))) (.cons (.var 13) (.nil))))
def c_law_right : CF := ⟨4, 14, .seq (.asg (.cons (.nam 10) (.cons (.nam 11) (.nil))) (.tup (.cons (.call 0 6 (.cons (.var 0) (.cons (.idx (.var 1) (.con (.int 0))) (.nil)))) (.cons (.bi .repr false (.cons (.tup (.cons (.var 1) (.cons (.var 2) (.cons (.var 3) (.nil))))) (.nil))) (.nil)))))
  (.seq (.asg (.nam 4) (.bi .dictT true (.cons (l4_law_right) (.nil))))
  (.seq (.asg (.nam 5) (l3_law_right))
  (.seq (.for (.rng (.cons (.idx (.var 1) (.con (.int 0))) (.nil))) (.nam 6) b1_law_right)
  (.seq (.asg (.nam 7) (l2_law_right))
  (.seq (.asg (.nam 8) (l1_law_right))
  (.seq (.asg (.nam 9) (.lst false (.cons (.callK 0 11 [.inl 0, .inl 1, .inl 2, .inl 3] (.cons (.var 1) (.cons (.var 2) (.cons (.var 3) (.nil)))) (.cons (.var 10) (.nil))) (.cons (.callK 0 11 [.inl 0, .inl 1, .inl 2, .inr (.none)] (.cons (.var 1) (.cons (.var 2) (.cons (.var 3) (.nil)))) (.nil)) (.cons (.callK 0 11 [.inl 0, .inl 1, .inl 2, .inl 3] (.cons (.var 1) (.cons (.var 2) (.cons (.var 3) (.nil)))) (.cons (.con .none) (.nil))) (.nil))))))
  (.seq (.ite (.tof (.cmp .NotEq (.bi .repr false (.cons (.var 9) (.nil))) (.bi .repr false (.cons (.lst false (.cons (.bi .tuple false (.cons (.var 8) (.nil))) (.cons (.bi .tuple false (.cons (.var 7) (.nil))) (.cons (.bi .tuple false (.cons (.var 7) (.nil))) (.nil))))) (.nil)))))
  (.seq (.ret (.con (.bool false)))
  (.skip))
  (.skip))
  (.seq (.ret (.and (.cmp .Eq (.bi .repr false (.cons (.callK 0 11 [.inl 0, .inl 1, .inl 2, .inl 3] (.cons (.var 1) (.cons (.var 2) (.cons (.var 3) (.nil)))) (.cons (.tup (.nil)) (.nil))) (.nil))) (.con (.str "()"))) (.cmp .Eq (.bi .repr false (.cons (.tup (.cons (.var 1) (.cons (.var 2) (.cons (.var 3) (.nil))))) (.nil))) (.var 11))))
  (.skip)))))))))⟩
def N_law_right : List Str := ["_law_pot_here", "_law_web_here", "_law_world_here", "_law_row_here", "_law_arms", "_law_come", "_law_crossing", "_law_whole", "_law_due", "_law_told", "_law_aims", "_law_kept", "_law_post", "_law_arm"]
def G_law_right : List (Str × GE) := [("repr", .blt), ("starts", .fn 11 ["web", "world", "row", "goals"] false [⟨3, ["goals"], [.inl 0, .inl 1, .inl 2, .inl 3]⟩, ⟨3, [], [.inl 0, .inl 1, .inl 2, .inr (.none)]⟩]), ("tuple", .blt), ("range", .blt), ("len", .blt), ("gone", .fn 10 ["web", "world", "start", "row"] true []), ("_law_gone", .fn 7 ["_law_arms", "_law_start", "_law_row_here"] true []), ("dict", .blt), ("zip", .blt), ("_law_goals", .fn 6 ["_law_pot_here", "_law_n"] true [])]
theorem sc_law_right : scL N_law_right ["_law_pot_here", "_law_web_here", "_law_world_here", "_law_row_here"] (defScope s_law_right) = true := by decide +kernel
theorem ck_law_right : chkS c_law_right.body ⟨N_law_right, defScope s_law_right, fun _ => true, G_law_right⟩ (.b (defBody s_law_right)) = true := by decide +kernel
noncomputable def T_law_right : Nat → Fn := tab [F_law_pot, F_law_take, F_law_web, F_law_of, F_law_world, F_law_names, F_law_goals, F_law_gone, F_ends_of, F_ways_in, F_gone, F_starts]
noncomputable def F_law_right : Fn := run T_law_right c_law_right
/-! _law_row -/
abbrev s_law_row : Stmt := topS 15
def b1_law_row : CS := .seq (.set (.var 6) (.idx (.var 9) (.con (.int 0))) (.bin .Add false (.mt .get (.var 6) (.cons (.idx (.var 9) (.con (.int 0))) (.cons (.lst false (.nil)) (.nil)))) (.lst false (.cons (.tup (.cons (.idx (.var 9) (.con (.int 1))) (.cons (.var 10) (.nil)))) (.nil)))))
  (.skip)
def l1_law_row : CE := .lc false [12] (.rng (.cons (.bi .min false (.cons (.var 5) (.cons (.con (.int 60)) (.nil)))) (.nil))) (.nam 12) (.yes) (.call 0 3 (.cons (.var 0) (.cons (.bin .Add false (.var 1) (.lst false (.cons (.con (.str "zz")) (.nil)))) (.nil))))
def c_law_row : CF := ⟨4, 13, .seq (.par [4, 5] (.cons (.call 0 1 (.cons (.var 0) (.cons (.con (.int 4)) (.nil)))) (.cons (.call 0 3 (.cons (.var 0) (.cons (.lst false (.cons (.con (.int 0)) (.cons (.con (.int 1)) (.cons (.con (.int 2)) (.cons (.con (.int 3)) (.cons (.con (.int 5)) (.cons (.con (.int 9)) (.cons (.con (.int 20)) (.cons (.con (.int 400)) (.nil)))))))))) (.nil)))) (.nil))))
  (.seq (.ite (.tof (.cmp .Eq (.var 4) (.con (.int 0))))
  (.seq (.ret (.bi .tuple false (.cons (l1_law_row) (.nil))))
  (.skip))
  (.skip))
  (.seq (.ite (.tof (.cmp .Eq (.var 4) (.con (.int 1))))
  (.seq (.ret (.bin .Mult false (.tup (.cons (.call 0 3 (.cons (.var 0) (.cons (.var 1) (.nil)))) (.nil))) (.var 5)))
  (.skip))
  (.skip))
  (.seq (.par [6, 7, 8] (.cons (.dct 1 .nil) (.cons (.call 0 1 (.cons (.var 0) (.cons (.idx (.var 2) (.con (.int 0))) (.nil)))) (.cons (.lst true (.nil)) (.nil)))))
  (.seq (.for (.zip (.cons (.idx (.var 2) (.con (.int 1))) (.cons (.var 3) (.nil)))) (.cons (.nam 9) (.cons (.nam 10) (.nil))) b1_law_row)
  (.seq (.whl (.tand (.tof (.cmp .Lt (.bi .len false (.cons (.var 8) (.nil))) (.bi .min false (.cons (.var 5) (.cons (.con (.int 40)) (.nil)))))) (.tof (.cmp .In (.var 7) (.var 6))))
  (.seq (.asg (.cons (.nam 11) (.cons (.nam 7) (.nil))) (.call 0 3 (.cons (.var 0) (.cons (.idx (.var 6) (.var 7)) (.nil)))))
  (.seq (.exp (.mt .append (.var 8) (.cons (.var 11) (.nil))))
  (.skip))))
  (.seq (.ret (.bin .Mult false (.bi .tuple false (.cons (.var 8) (.nil))) (.bin .Add false (.con (.int 1)) (.bin .Mult false (.call 0 1 (.cons (.var 0) (.cons (.con (.int 3)) (.nil)))) (.bi .int false (.cons (.cmp .Eq (.var 4) (.con (.int 3))) (.nil)))))))
  (.skip)))))))⟩
def N_law_row : List Str := ["_law_pot_here", "_law_names_here", "_law_web_here", "_law_world_here", "_law_way", "_law_size", "_law_by", "_law_here", "_law_found", "_law_post", "_law_arm", "_law_name", "_law_k"]
def G_law_row : List (Str × GE) := [("tuple", .blt), ("_law_take", .fn 1 ["_law_pot_here", "_law_upto"] true []), ("int", .blt), ("len", .blt), ("min", .blt), ("_law_of", .fn 3 ["_law_pot_here", "_law_some"] true []), ("zip", .blt), ("range", .blt)]
theorem sc_law_row : scL N_law_row ["_law_pot_here", "_law_names_here", "_law_web_here", "_law_world_here"] (defScope s_law_row) = true := by decide +kernel
theorem ck_law_row : chkS c_law_row.body ⟨N_law_row, defScope s_law_row, fun _ => true, G_law_row⟩ (.b (defBody s_law_row)) = true := by decide +kernel
noncomputable def T_law_row : Nat → Fn := tab [F_law_pot, F_law_take, F_law_web, F_law_of, F_law_world, F_law_names, F_law_goals, F_law_gone, F_ends_of, F_ways_in, F_gone, F_starts, F_law_right]
noncomputable def F_law_row : Fn := run T_law_row c_law_row
/-! law -/
abbrev s_law : Stmt := topS 17
def b1_law : CS := .seq (.ite (.tnt (.tof (.call 0 12 (.cons (.var 2) (.cons (.var 3) (.cons (.var 4) (.cons (.call 0 13 (.cons (.var 2) (.cons (.var 7) (.cons (.var 3) (.cons (.var 4) (.nil)))))) (.nil))))))))
  (.seq (.ret (.con (.bool false)))
  (.skip))
  (.skip))
  (.skip)
def b2_law : CS := .seq (.asg (.nam 2) (.call 2 0 (.cons (.var 0) (.cons (.var 1) (.nil)))))
  (.seq (.par [6, 7] (.cons (.call 0 3 (.cons (.var 2) (.cons (.lst false (.cons (.con (.int 1)) (.cons (.con (.int 2)) (.cons (.con (.int 3)) (.cons (.con (.int 4)) (.cons (.con (.int 6)) (.cons (.con (.int 9)) (.cons (.con (.int 40)) (.nil))))))))) (.nil)))) (.cons (.call 0 5 (.cons (.var 2) (.cons (.bin .Add false (.con (.int 1)) (.call 0 1 (.cons (.var 2) (.cons (.con (.int 3)) (.nil))))) (.nil)))) (.nil))))
  (.seq (.asg (.nam 3) (.call 0 2 (.cons (.var 2) (.cons (.var 6) (.cons (.var 7) (.cons (.bin .Add false (.con (.int 1)) (.call 0 1 (.cons (.var 2) (.cons (.con (.int 3)) (.nil))))) (.nil)))))))
  (.seq (.asg (.nam 4) (.call 0 4 (.cons (.var 2) (.cons (.var 3) (.nil)))))
  (.seq (.for (.rng (.cons (.con (.int 4)) (.nil))) (.nam 5) b1_law)
  (.skip)))))
def c_law : CF := ⟨1, 8, .seq (.for (.rng (.cons (.bi .max false (.cons (.con (.int 1)) (.cons (.bi .min false (.cons (.con (.int 3)) (.cons (.bi .len false (.cons (.var 0) (.nil))) (.nil)))) (.nil)))) (.nil))) (.nam 1) b2_law)
  (.seq (.ret (.con (.bool true)))
  (.skip))⟩
def N_law : List Str := ["_law_script", "_law_k", "_law_pot_here", "_law_web_here", "_law_world_here", "_law_turn", "_law_n", "_law_names_here"]
def G_law : List (Str × GE) := [("_law_right", .fn 12 ["_law_pot_here", "_law_web_here", "_law_world_here", "_law_row_here"] true []), ("_law_row", .fn 13 ["_law_pot_here", "_law_names_here", "_law_web_here", "_law_world_here"] true []), ("range", .blt), ("_law_world", .fn 4 ["_law_pot_here", "_law_web_here"] true []), ("_law_web", .fn 2 ["_law_pot_here", "_law_n", "_law_names_here", "_law_most"] true []), ("_law_take", .fn 1 ["_law_pot_here", "_law_upto"] true []), ("_law_names", .fn 5 ["_law_pot_here", "_law_many"] true []), ("_law_of", .fn 3 ["_law_pot_here", "_law_some"] true []), ("_law_pot", .fn 0 ["_law_script", "_law_k"] true []), ("max", .blt), ("min", .blt), ("len", .blt)]
theorem sc_law : scL N_law ["_law_script"] (defScope s_law) = true := by decide +kernel
theorem ck_law : chkS c_law.body ⟨N_law, defScope s_law, fun _ => true, G_law⟩ (.b (defBody s_law)) = true := by decide +kernel
noncomputable def T_law : Nat → Fn := tab [F_law_pot, F_law_take, F_law_web, F_law_of, F_law_world, F_law_names, F_law_goals, F_law_gone, F_ends_of, F_ways_in, F_gone, F_starts, F_law_right, F_law_row]
noncomputable def F_law : Fn := run T_law c_law
section
variable {P : Program} {w : World} {K : PySem.W.Frag} {mg : Str → Option Value} {base : Heap} {cl : Nat → Option Addr}
theorem R_law_pot {f : Addr} {fd : FuncData} (D : L2.Fun K "_law_pot" "_law_pot" s_law_pot f fd) (nst : PySem.W.nsIn K cStatics "sys.int_max_str_digits" = some none)
    (z_abs : mg "abs" = none)
    (z_int : mg "int" = none)
    (z_len : mg "len" = none) :
    FnG P w K mg base 1 f fd ["_law_script", "_law_k"] (spG K cl F_law_pot 2) :=
  fn_chk D nst sc_law_pot ⟨rfl, rfl⟩ ck_law_pot (G := G_law_pot) (glo_cons z_abs (glo_cons z_int (glo_cons z_len (glo_nil))))
theorem R_law_take {f : Addr} {fd : FuncData} (D : L2.Fun K "_law_take" "_law_take" s_law_take f fd) (nst : PySem.W.nsIn K cStatics "sys.int_max_str_digits" = some none)
     :
    FnG P w K mg base 1 f fd ["_law_pot_here", "_law_upto"] (spG K cl F_law_take 2) :=
  fn_chk D nst sc_law_take ⟨rfl, rfl⟩ ck_law_take (G := G_law_take) (glo_nil)
theorem R_law_web {f : Addr} {fd : FuncData} (D : L2.Fun K "_law_web" "_law_web" s_law_web f fd) (nst : PySem.W.nsIn K cStatics "sys.int_max_str_digits" = some none)
    (z_tuple : mg "tuple" = none)
    (z_sorted : mg "sorted" = none)
    {f_law_take : Addr} {d_law_take : FuncData} (D_law_take : L2.Fun K "_law_take" "_law_take" s_law_take f_law_take d_law_take) (m_law_take : mg "_law_take" = some (.ref f_law_take)) (R_law_take : FnG P w K mg base 1 f_law_take d_law_take ["_law_pot_here", "_law_upto"] (spG K cl F_law_take 2))
    (z_range : mg "range" = none) :
    FnG P w K mg base 2 f fd ["_law_pot_here", "_law_n", "_law_names_here", "_law_most"] (spG K cl F_law_web 4) :=
  fn_chk D nst sc_law_web ⟨rfl, rfl⟩ ck_law_web (G := G_law_web) (glo_cons z_tuple (glo_cons z_sorted (glo_cons (glo_fn (by decide) m_law_take R_law_take D_law_take.kp (fun _ => D_law_take.binds fun _ _ _ _ _ _ us hl => match us, hl with | [_, _], _ => rfl) (fun _ h => nomatch h)) (glo_cons z_range (glo_nil)))))
theorem R_law_of {f : Addr} {fd : FuncData} (D : L2.Fun K "_law_of" "_law_of" s_law_of f fd) (nst : PySem.W.nsIn K cStatics "sys.int_max_str_digits" = some none)
    {f_law_take : Addr} {d_law_take : FuncData} (D_law_take : L2.Fun K "_law_take" "_law_take" s_law_take f_law_take d_law_take) (m_law_take : mg "_law_take" = some (.ref f_law_take)) (R_law_take : FnG P w K mg base 1 f_law_take d_law_take ["_law_pot_here", "_law_upto"] (spG K cl F_law_take 2))
    (z_len : mg "len" = none) :
    FnG P w K mg base 2 f fd ["_law_pot_here", "_law_some"] (spG K cl F_law_of 2) :=
  fn_chk D nst sc_law_of ⟨rfl, rfl⟩ ck_law_of (G := G_law_of) (glo_cons (glo_fn (by decide) m_law_take R_law_take D_law_take.kp (fun _ => D_law_take.binds fun _ _ _ _ _ _ us hl => match us, hl with | [_, _], _ => rfl) (fun _ h => nomatch h)) (glo_cons z_len (glo_nil)))
theorem R_law_world {f : Addr} {fd : FuncData} (D : L2.Fun K "_law_world" "_law_world" s_law_world f fd) (nst : PySem.W.nsIn K cStatics "sys.int_max_str_digits" = some none)
    (z_tuple : mg "tuple" = none)
    {f_law_of : Addr} {d_law_of : FuncData} (D_law_of : L2.Fun K "_law_of" "_law_of" s_law_of f_law_of d_law_of) (m_law_of : mg "_law_of" = some (.ref f_law_of)) (R_law_of : FnG P w K mg base 2 f_law_of d_law_of ["_law_pot_here", "_law_some"] (spG K cl F_law_of 2))
    (z_list : mg "list" = none) :
    FnG P w K mg base 3 f fd ["_law_pot_here", "_law_web_here"] (spG K cl F_law_world 2) :=
  fn_chk D nst sc_law_world ⟨rfl, rfl⟩ ck_law_world (G := G_law_world) (glo_cons z_tuple (glo_cons (glo_fn (by decide) m_law_of R_law_of D_law_of.kp (fun _ => D_law_of.binds fun _ _ _ _ _ _ us hl => match us, hl with | [_, _], _ => rfl) (fun _ h => nomatch h)) (glo_cons z_list (glo_nil))))
theorem R_law_names {f : Addr} {fd : FuncData} (D : L2.Fun K "_law_names" "_law_names" s_law_names f fd) (nst : PySem.W.nsIn K cStatics "sys.int_max_str_digits" = some none)
    (z_sorted : mg "sorted" = none)
    (z_range : mg "range" = none)
    {f_law_of : Addr} {d_law_of : FuncData} (D_law_of : L2.Fun K "_law_of" "_law_of" s_law_of f_law_of d_law_of) (m_law_of : mg "_law_of" = some (.ref f_law_of)) (R_law_of : FnG P w K mg base 2 f_law_of d_law_of ["_law_pot_here", "_law_some"] (spG K cl F_law_of 2))
    {f_law_take : Addr} {d_law_take : FuncData} (D_law_take : L2.Fun K "_law_take" "_law_take" s_law_take f_law_take d_law_take) (m_law_take : mg "_law_take" = some (.ref f_law_take)) (R_law_take : FnG P w K mg base 1 f_law_take d_law_take ["_law_pot_here", "_law_upto"] (spG K cl F_law_take 2))
    (z_len : mg "len" = none)
    (z_list : mg "list" = none) :
    FnG P w K mg base 3 f fd ["_law_pot_here", "_law_many"] (spG K cl F_law_names 2) :=
  fn_chk D nst sc_law_names ⟨rfl, rfl⟩ ck_law_names (G := G_law_names) (glo_cons z_sorted (glo_cons z_range (glo_cons (glo_fn (by decide) m_law_of R_law_of D_law_of.kp (fun _ => D_law_of.binds fun _ _ _ _ _ _ us hl => match us, hl with | [_, _], _ => rfl) (fun _ h => nomatch h)) (glo_cons (glo_fn (by decide) m_law_take R_law_take D_law_take.kp (fun _ => D_law_take.binds fun _ _ _ _ _ _ us hl => match us, hl with | [_, _], _ => rfl) (fun _ h => nomatch h)) (glo_cons z_len (glo_cons z_list (glo_nil)))))))
theorem R_law_goals {f : Addr} {fd : FuncData} (D : L2.Fun K "_law_goals" "_law_goals" s_law_goals f fd) (nst : PySem.W.nsIn K cStatics "sys.int_max_str_digits" = some none)
    (z_tuple : mg "tuple" = none)
    (z_range : mg "range" = none)
    {f_law_take : Addr} {d_law_take : FuncData} (D_law_take : L2.Fun K "_law_take" "_law_take" s_law_take f_law_take d_law_take) (m_law_take : mg "_law_take" = some (.ref f_law_take)) (R_law_take : FnG P w K mg base 1 f_law_take d_law_take ["_law_pot_here", "_law_upto"] (spG K cl F_law_take 2)) :
    FnG P w K mg base 2 f fd ["_law_pot_here", "_law_n"] (spG K cl F_law_goals 2) :=
  fn_chk D nst sc_law_goals ⟨rfl, rfl⟩ ck_law_goals (G := G_law_goals) (glo_cons z_tuple (glo_cons z_range (glo_cons (glo_fn (by decide) m_law_take R_law_take D_law_take.kp (fun _ => D_law_take.binds fun _ _ _ _ _ _ us hl => match us, hl with | [_, _], _ => rfl) (fun _ h => nomatch h)) (glo_nil))))
theorem R_law_gone {f : Addr} {fd : FuncData} (D : L2.Fun K "_law_gone" "_law_gone" s_law_gone f fd) (nst : PySem.W.nsIn K cStatics "sys.int_max_str_digits" = some none)
     :
    FnG P w K mg base 1 f fd ["_law_arms", "_law_start", "_law_row_here"] (spG K cl F_law_gone 3) :=
  fn_chk D nst sc_law_gone ⟨rfl, rfl⟩ ck_law_gone (G := G_law_gone) (glo_nil)
theorem R_ends_of {f : Addr} {fd : FuncData} (D : L2.Fun K "ends_of" "ends_of" s_ends_of f fd) (nst : PySem.W.nsIn K cStatics "sys.int_max_str_digits" = some none)
    (z_tuple : mg "tuple" = none)
    (z_range : mg "range" = none) :
    FnG P w K mg base 1 f fd ["web", "goals"] (spG K cl F_ends_of 2) :=
  fn_chk D nst sc_ends_of ⟨rfl, rfl⟩ ck_ends_of (G := G_ends_of) (glo_cons z_tuple (glo_cons z_range (glo_nil)))
theorem R_ways_in {f : Addr} {fd : FuncData} (D : L2.Fun K "ways_in" "ways_in" s_ways_in f fd) (nst : PySem.W.nsIn K cStatics "sys.int_max_str_digits" = some none)
    (z_zip : mg "zip" = none) :
    FnG P w K mg base 1 f fd ["web", "world"] (spG K cl F_ways_in 2) :=
  fn_chk D nst sc_ways_in ⟨rfl, rfl⟩ ck_ways_in (G := G_ways_in) (glo_cons z_zip (glo_nil))
theorem R_gone {f : Addr} {fd : FuncData} (D : L2.Fun K "gone" "gone" s_gone f fd) (nst : PySem.W.nsIn K cStatics "sys.int_max_str_digits" = some none)
    (z_tuple : mg "tuple" = none)
    {f_ways_in : Addr} {d_ways_in : FuncData} (D_ways_in : L2.Fun K "ways_in" "ways_in" s_ways_in f_ways_in d_ways_in) (m_ways_in : mg "ways_in" = some (.ref f_ways_in)) (R_ways_in : FnG P w K mg base 1 f_ways_in d_ways_in ["web", "world"] (spG K cl F_ways_in 2)) :
    FnG P w K mg base 2 f fd ["web", "world", "start", "row"] (spG K cl F_gone 4) :=
  fn_chk D nst sc_gone ⟨rfl, rfl⟩ ck_gone (G := G_gone) (glo_cons z_tuple (glo_cons (glo_fn (by decide) m_ways_in R_ways_in D_ways_in.kp (fun _ => D_ways_in.binds fun _ _ _ _ _ _ us hl => match us, hl with | [_, _], _ => rfl) (fun _ h => nomatch h)) (glo_nil)))
theorem R_starts {f : Addr} {fd : FuncData} (D : L2.Fun K "starts" "starts" s_starts f fd) (nst : PySem.W.nsIn K cStatics "sys.int_max_str_digits" = some none)
    (z_tuple : mg "tuple" = none)
    (z_len : mg "len" = none)
    {f_gone : Addr} {d_gone : FuncData} (D_gone : L2.Fun K "gone" "gone" s_gone f_gone d_gone) (m_gone : mg "gone" = some (.ref f_gone)) (R_gone : FnG P w K mg base 2 f_gone d_gone ["web", "world", "start", "row"] (spG K cl F_gone 4))
    (z_range : mg "range" = none)
    {f_ends_of : Addr} {d_ends_of : FuncData} (D_ends_of : L2.Fun K "ends_of" "ends_of" s_ends_of f_ends_of d_ends_of) (m_ends_of : mg "ends_of" = some (.ref f_ends_of)) (R_ends_of : FnG P w K mg base 1 f_ends_of d_ends_of ["web", "goals"] (spG K cl F_ends_of 2)) :
    FnG P w K mg base 3 f fd ["web", "world", "row", "goals"] (spG K cl F_starts 4) :=
  fn_chk D nst sc_starts ⟨rfl, rfl⟩ ck_starts (G := G_starts) (glo_cons z_tuple (glo_cons z_len (glo_cons (glo_fn (by decide) m_gone R_gone D_gone.kp (fun _ => D_gone.binds fun _ _ _ _ _ _ us hl => match us, hl with | [_, _, _, _], _ => rfl) (fun _ h => nomatch h)) (glo_cons z_range (glo_cons (glo_fn (by decide) m_ends_of R_ends_of D_ends_of.kp (fun _ => D_ends_of.binds fun _ _ _ _ _ _ us hl => match us, hl with | [_, _], _ => rfl) (fun _ h => nomatch h)) (glo_nil))))))
theorem R_law_right {f : Addr} {fd : FuncData} (D : L2.Fun K "_law_right" "_law_right" s_law_right f fd) (nst : PySem.W.nsIn K cStatics "sys.int_max_str_digits" = some none)
    (z_repr : mg "repr" = none)
    {f_starts : Addr} {d_starts : FuncData} (D_starts : L2.Fun K "starts" "starts" s_starts f_starts d_starts) (m_starts : mg "starts" = some (.ref f_starts)) (R_starts : FnG P w K mg base 3 f_starts d_starts ["web", "world", "row", "goals"] (spG K cl F_starts 4)) (S_starts_1 : ShapeOk K d_starts ["web", "world", "row", "goals"] ⟨3, [], [.inl 0, .inl 1, .inl 2, .inr (.none)]⟩) (S_starts_0 : ShapeOk K d_starts ["web", "world", "row", "goals"] ⟨3, ["goals"], [.inl 0, .inl 1, .inl 2, .inl 3]⟩)
    (z_tuple : mg "tuple" = none)
    (z_range : mg "range" = none)
    (z_len : mg "len" = none)
    {f_gone : Addr} {d_gone : FuncData} (D_gone : L2.Fun K "gone" "gone" s_gone f_gone d_gone) (m_gone : mg "gone" = some (.ref f_gone)) (R_gone : FnG P w K mg base 2 f_gone d_gone ["web", "world", "start", "row"] (spG K cl F_gone 4))
    {f_law_gone : Addr} {d_law_gone : FuncData} (D_law_gone : L2.Fun K "_law_gone" "_law_gone" s_law_gone f_law_gone d_law_gone) (m_law_gone : mg "_law_gone" = some (.ref f_law_gone)) (R_law_gone : FnG P w K mg base 1 f_law_gone d_law_gone ["_law_arms", "_law_start", "_law_row_here"] (spG K cl F_law_gone 3))
    (z_dict : mg "dict" = none)
    (z_zip : mg "zip" = none)
    {f_law_goals : Addr} {d_law_goals : FuncData} (D_law_goals : L2.Fun K "_law_goals" "_law_goals" s_law_goals f_law_goals d_law_goals) (m_law_goals : mg "_law_goals" = some (.ref f_law_goals)) (R_law_goals : FnG P w K mg base 2 f_law_goals d_law_goals ["_law_pot_here", "_law_n"] (spG K cl F_law_goals 2)) :
    FnG P w K mg base 4 f fd ["_law_pot_here", "_law_web_here", "_law_world_here", "_law_row_here"] (spG K cl F_law_right 4) :=
  fn_chk D nst sc_law_right ⟨rfl, rfl⟩ ck_law_right (G := G_law_right) (glo_cons z_repr (glo_cons (glo_fn (by decide) m_starts R_starts D_starts.kp nofun (List.forall_mem_cons.mpr ⟨S_starts_0, List.forall_mem_cons.mpr ⟨S_starts_1, fun _ h => nomatch h⟩⟩)) (glo_cons z_tuple (glo_cons z_range (glo_cons z_len (glo_cons (glo_fn (by decide) m_gone R_gone D_gone.kp (fun _ => D_gone.binds fun _ _ _ _ _ _ us hl => match us, hl with | [_, _, _, _], _ => rfl) (fun _ h => nomatch h)) (glo_cons (glo_fn (by decide) m_law_gone R_law_gone D_law_gone.kp (fun _ => D_law_gone.binds fun _ _ _ _ _ _ us hl => match us, hl with | [_, _, _], _ => rfl) (fun _ h => nomatch h)) (glo_cons z_dict (glo_cons z_zip (glo_cons (glo_fn (by decide) m_law_goals R_law_goals D_law_goals.kp (fun _ => D_law_goals.binds fun _ _ _ _ _ _ us hl => match us, hl with | [_, _], _ => rfl) (fun _ h => nomatch h)) (glo_nil)))))))))))
theorem R_law_row {f : Addr} {fd : FuncData} (D : L2.Fun K "_law_row" "_law_row" s_law_row f fd) (nst : PySem.W.nsIn K cStatics "sys.int_max_str_digits" = some none)
    (z_tuple : mg "tuple" = none)
    {f_law_take : Addr} {d_law_take : FuncData} (D_law_take : L2.Fun K "_law_take" "_law_take" s_law_take f_law_take d_law_take) (m_law_take : mg "_law_take" = some (.ref f_law_take)) (R_law_take : FnG P w K mg base 1 f_law_take d_law_take ["_law_pot_here", "_law_upto"] (spG K cl F_law_take 2))
    (z_int : mg "int" = none)
    (z_len : mg "len" = none)
    (z_min : mg "min" = none)
    {f_law_of : Addr} {d_law_of : FuncData} (D_law_of : L2.Fun K "_law_of" "_law_of" s_law_of f_law_of d_law_of) (m_law_of : mg "_law_of" = some (.ref f_law_of)) (R_law_of : FnG P w K mg base 2 f_law_of d_law_of ["_law_pot_here", "_law_some"] (spG K cl F_law_of 2))
    (z_zip : mg "zip" = none)
    (z_range : mg "range" = none) :
    FnG P w K mg base 3 f fd ["_law_pot_here", "_law_names_here", "_law_web_here", "_law_world_here"] (spG K cl F_law_row 4) :=
  fn_chk D nst sc_law_row ⟨rfl, rfl⟩ ck_law_row (G := G_law_row) (glo_cons z_tuple (glo_cons (glo_fn (by decide) m_law_take R_law_take D_law_take.kp (fun _ => D_law_take.binds fun _ _ _ _ _ _ us hl => match us, hl with | [_, _], _ => rfl) (fun _ h => nomatch h)) (glo_cons z_int (glo_cons z_len (glo_cons z_min (glo_cons (glo_fn (by decide) m_law_of R_law_of D_law_of.kp (fun _ => D_law_of.binds fun _ _ _ _ _ _ us hl => match us, hl with | [_, _], _ => rfl) (fun _ h => nomatch h)) (glo_cons z_zip (glo_cons z_range (glo_nil)))))))))
theorem R_law {f : Addr} {fd : FuncData} (D : L2.Fun K "law" "law" s_law f fd) (nst : PySem.W.nsIn K cStatics "sys.int_max_str_digits" = some none)
    {f_law_right : Addr} {d_law_right : FuncData} (D_law_right : L2.Fun K "_law_right" "_law_right" s_law_right f_law_right d_law_right) (m_law_right : mg "_law_right" = some (.ref f_law_right)) (R_law_right : FnG P w K mg base 4 f_law_right d_law_right ["_law_pot_here", "_law_web_here", "_law_world_here", "_law_row_here"] (spG K cl F_law_right 4))
    {f_law_row : Addr} {d_law_row : FuncData} (D_law_row : L2.Fun K "_law_row" "_law_row" s_law_row f_law_row d_law_row) (m_law_row : mg "_law_row" = some (.ref f_law_row)) (R_law_row : FnG P w K mg base 3 f_law_row d_law_row ["_law_pot_here", "_law_names_here", "_law_web_here", "_law_world_here"] (spG K cl F_law_row 4))
    (z_range : mg "range" = none)
    {f_law_world : Addr} {d_law_world : FuncData} (D_law_world : L2.Fun K "_law_world" "_law_world" s_law_world f_law_world d_law_world) (m_law_world : mg "_law_world" = some (.ref f_law_world)) (R_law_world : FnG P w K mg base 3 f_law_world d_law_world ["_law_pot_here", "_law_web_here"] (spG K cl F_law_world 2))
    {f_law_web : Addr} {d_law_web : FuncData} (D_law_web : L2.Fun K "_law_web" "_law_web" s_law_web f_law_web d_law_web) (m_law_web : mg "_law_web" = some (.ref f_law_web)) (R_law_web : FnG P w K mg base 2 f_law_web d_law_web ["_law_pot_here", "_law_n", "_law_names_here", "_law_most"] (spG K cl F_law_web 4))
    {f_law_take : Addr} {d_law_take : FuncData} (D_law_take : L2.Fun K "_law_take" "_law_take" s_law_take f_law_take d_law_take) (m_law_take : mg "_law_take" = some (.ref f_law_take)) (R_law_take : FnG P w K mg base 1 f_law_take d_law_take ["_law_pot_here", "_law_upto"] (spG K cl F_law_take 2))
    {f_law_names : Addr} {d_law_names : FuncData} (D_law_names : L2.Fun K "_law_names" "_law_names" s_law_names f_law_names d_law_names) (m_law_names : mg "_law_names" = some (.ref f_law_names)) (R_law_names : FnG P w K mg base 3 f_law_names d_law_names ["_law_pot_here", "_law_many"] (spG K cl F_law_names 2))
    {f_law_of : Addr} {d_law_of : FuncData} (D_law_of : L2.Fun K "_law_of" "_law_of" s_law_of f_law_of d_law_of) (m_law_of : mg "_law_of" = some (.ref f_law_of)) (R_law_of : FnG P w K mg base 2 f_law_of d_law_of ["_law_pot_here", "_law_some"] (spG K cl F_law_of 2))
    {f_law_pot : Addr} {d_law_pot : FuncData} (D_law_pot : L2.Fun K "_law_pot" "_law_pot" s_law_pot f_law_pot d_law_pot) (m_law_pot : mg "_law_pot" = some (.ref f_law_pot)) (R_law_pot : FnG P w K mg base 1 f_law_pot d_law_pot ["_law_script", "_law_k"] (spG K cl F_law_pot 2))
    (z_max : mg "max" = none)
    (z_min : mg "min" = none)
    (z_len : mg "len" = none) :
    FnG P w K mg base 5 f fd ["_law_script"] (spG K cl F_law 1) :=
  fn_chk D nst sc_law ⟨rfl, rfl⟩ ck_law (G := G_law) (glo_cons (glo_fn (by decide) m_law_right R_law_right D_law_right.kp (fun _ => D_law_right.binds fun _ _ _ _ _ _ us hl => match us, hl with | [_, _, _, _], _ => rfl) (fun _ h => nomatch h)) (glo_cons (glo_fn (by decide) m_law_row R_law_row D_law_row.kp (fun _ => D_law_row.binds fun _ _ _ _ _ _ us hl => match us, hl with | [_, _, _, _], _ => rfl) (fun _ h => nomatch h)) (glo_cons z_range (glo_cons (glo_fn (by decide) m_law_world R_law_world D_law_world.kp (fun _ => D_law_world.binds fun _ _ _ _ _ _ us hl => match us, hl with | [_, _], _ => rfl) (fun _ h => nomatch h)) (glo_cons (glo_fn (by decide) m_law_web R_law_web D_law_web.kp (fun _ => D_law_web.binds fun _ _ _ _ _ _ us hl => match us, hl with | [_, _, _, _], _ => rfl) (fun _ h => nomatch h)) (glo_cons (glo_fn (by decide) m_law_take R_law_take D_law_take.kp (fun _ => D_law_take.binds fun _ _ _ _ _ _ us hl => match us, hl with | [_, _], _ => rfl) (fun _ h => nomatch h)) (glo_cons (glo_fn (by decide) m_law_names R_law_names D_law_names.kp (fun _ => D_law_names.binds fun _ _ _ _ _ _ us hl => match us, hl with | [_, _], _ => rfl) (fun _ h => nomatch h)) (glo_cons (glo_fn (by decide) m_law_of R_law_of D_law_of.kp (fun _ => D_law_of.binds fun _ _ _ _ _ _ us hl => match us, hl with | [_, _], _ => rfl) (fun _ h => nomatch h)) (glo_cons (glo_fn (by decide) m_law_pot R_law_pot D_law_pot.kp (fun _ => D_law_pot.binds fun _ _ _ _ _ _ us hl => match us, hl with | [_, _], _ => rfl) (fun _ h => nomatch h)) (glo_cons z_max (glo_cons z_min (glo_cons z_len (glo_nil)))))))))))))
end
/-! ### what the top has written -/
theorem all_mk {P : Program} {w : World} {K : PySem.W.Frag} {h : Heap} {mg : Str → Option Value} {cl : Nat → Option Addr} {fa : Addr} (X : K.In h) (G : h.Ns mainGlobals mg) (hfa : mg "law" = some (.ref fa)) (nst : PySem.W.nsIn K cStatics "sys.int_max_str_digits" = some none)
    {od_law_pot an_law_pot : Option Addr} {sl_law_pot : Array (Option Value)} {oc_law_pot kV_law_pot dc_law_pot pm_law_pot cd_law_pot ct_law_pot : Value} {f_law_pot : Addr}
    (a_law_pot : PySem.W.nsIn K mainGlobals "_law_pot" = some (some (.ref f_law_pot))) (l_law_pot : K.lookup f_law_pot = some ⟨oc_law_pot, od_law_pot, .func (PySem.W.fnOf "_law_pot" "_law_pot" (defArgs s_law_pot) (defBody s_law_pot) (defScope s_law_pot) .none kV_law_pot dc_law_pot pm_law_pot an_law_pot cd_law_pot ct_law_pot), sl_law_pot⟩) (e_law_pot : PySem.W.codeIn K cd_law_pot "_law_pot" = true) (k_law_pot : PySem.W.keepIn K (.ref f_law_pot) = true)
    {od_law_take an_law_take : Option Addr} {sl_law_take : Array (Option Value)} {oc_law_take kV_law_take dc_law_take pm_law_take cd_law_take ct_law_take : Value} {f_law_take : Addr}
    (a_law_take : PySem.W.nsIn K mainGlobals "_law_take" = some (some (.ref f_law_take))) (l_law_take : K.lookup f_law_take = some ⟨oc_law_take, od_law_take, .func (PySem.W.fnOf "_law_take" "_law_take" (defArgs s_law_take) (defBody s_law_take) (defScope s_law_take) .none kV_law_take dc_law_take pm_law_take an_law_take cd_law_take ct_law_take), sl_law_take⟩) (e_law_take : PySem.W.codeIn K cd_law_take "_law_take" = true) (k_law_take : PySem.W.keepIn K (.ref f_law_take) = true)
    {od_law_web an_law_web : Option Addr} {sl_law_web : Array (Option Value)} {oc_law_web kV_law_web dc_law_web pm_law_web cd_law_web ct_law_web : Value} {f_law_web : Addr}
    (a_law_web : PySem.W.nsIn K mainGlobals "_law_web" = some (some (.ref f_law_web))) (l_law_web : K.lookup f_law_web = some ⟨oc_law_web, od_law_web, .func (PySem.W.fnOf "_law_web" "_law_web" (defArgs s_law_web) (defBody s_law_web) (defScope s_law_web) .none kV_law_web dc_law_web pm_law_web an_law_web cd_law_web ct_law_web), sl_law_web⟩) (e_law_web : PySem.W.codeIn K cd_law_web "_law_web" = true) (k_law_web : PySem.W.keepIn K (.ref f_law_web) = true)
    {od_law_of an_law_of : Option Addr} {sl_law_of : Array (Option Value)} {oc_law_of kV_law_of dc_law_of pm_law_of cd_law_of ct_law_of : Value} {f_law_of : Addr}
    (a_law_of : PySem.W.nsIn K mainGlobals "_law_of" = some (some (.ref f_law_of))) (l_law_of : K.lookup f_law_of = some ⟨oc_law_of, od_law_of, .func (PySem.W.fnOf "_law_of" "_law_of" (defArgs s_law_of) (defBody s_law_of) (defScope s_law_of) .none kV_law_of dc_law_of pm_law_of an_law_of cd_law_of ct_law_of), sl_law_of⟩) (e_law_of : PySem.W.codeIn K cd_law_of "_law_of" = true) (k_law_of : PySem.W.keepIn K (.ref f_law_of) = true)
    {od_law_world an_law_world : Option Addr} {sl_law_world : Array (Option Value)} {oc_law_world kV_law_world dc_law_world pm_law_world cd_law_world ct_law_world : Value} {f_law_world : Addr}
    (a_law_world : PySem.W.nsIn K mainGlobals "_law_world" = some (some (.ref f_law_world))) (l_law_world : K.lookup f_law_world = some ⟨oc_law_world, od_law_world, .func (PySem.W.fnOf "_law_world" "_law_world" (defArgs s_law_world) (defBody s_law_world) (defScope s_law_world) .none kV_law_world dc_law_world pm_law_world an_law_world cd_law_world ct_law_world), sl_law_world⟩) (e_law_world : PySem.W.codeIn K cd_law_world "_law_world" = true) (k_law_world : PySem.W.keepIn K (.ref f_law_world) = true)
    {od_law_names an_law_names : Option Addr} {sl_law_names : Array (Option Value)} {oc_law_names kV_law_names dc_law_names pm_law_names cd_law_names ct_law_names : Value} {f_law_names : Addr}
    (a_law_names : PySem.W.nsIn K mainGlobals "_law_names" = some (some (.ref f_law_names))) (l_law_names : K.lookup f_law_names = some ⟨oc_law_names, od_law_names, .func (PySem.W.fnOf "_law_names" "_law_names" (defArgs s_law_names) (defBody s_law_names) (defScope s_law_names) .none kV_law_names dc_law_names pm_law_names an_law_names cd_law_names ct_law_names), sl_law_names⟩) (e_law_names : PySem.W.codeIn K cd_law_names "_law_names" = true) (k_law_names : PySem.W.keepIn K (.ref f_law_names) = true)
    {od_law_goals an_law_goals : Option Addr} {sl_law_goals : Array (Option Value)} {oc_law_goals kV_law_goals dc_law_goals pm_law_goals cd_law_goals ct_law_goals : Value} {f_law_goals : Addr}
    (a_law_goals : PySem.W.nsIn K mainGlobals "_law_goals" = some (some (.ref f_law_goals))) (l_law_goals : K.lookup f_law_goals = some ⟨oc_law_goals, od_law_goals, .func (PySem.W.fnOf "_law_goals" "_law_goals" (defArgs s_law_goals) (defBody s_law_goals) (defScope s_law_goals) .none kV_law_goals dc_law_goals pm_law_goals an_law_goals cd_law_goals ct_law_goals), sl_law_goals⟩) (e_law_goals : PySem.W.codeIn K cd_law_goals "_law_goals" = true) (k_law_goals : PySem.W.keepIn K (.ref f_law_goals) = true)
    {od_law_gone an_law_gone : Option Addr} {sl_law_gone : Array (Option Value)} {oc_law_gone kV_law_gone dc_law_gone pm_law_gone cd_law_gone ct_law_gone : Value} {f_law_gone : Addr}
    (a_law_gone : PySem.W.nsIn K mainGlobals "_law_gone" = some (some (.ref f_law_gone))) (l_law_gone : K.lookup f_law_gone = some ⟨oc_law_gone, od_law_gone, .func (PySem.W.fnOf "_law_gone" "_law_gone" (defArgs s_law_gone) (defBody s_law_gone) (defScope s_law_gone) .none kV_law_gone dc_law_gone pm_law_gone an_law_gone cd_law_gone ct_law_gone), sl_law_gone⟩) (e_law_gone : PySem.W.codeIn K cd_law_gone "_law_gone" = true) (k_law_gone : PySem.W.keepIn K (.ref f_law_gone) = true)
    {od_ends_of an_ends_of : Option Addr} {sl_ends_of : Array (Option Value)} {oc_ends_of kV_ends_of dc_ends_of pm_ends_of cd_ends_of ct_ends_of : Value} {f_ends_of : Addr}
    (a_ends_of : PySem.W.nsIn K mainGlobals "ends_of" = some (some (.ref f_ends_of))) (l_ends_of : K.lookup f_ends_of = some ⟨oc_ends_of, od_ends_of, .func (PySem.W.fnOf "ends_of" "ends_of" (defArgs s_ends_of) (defBody s_ends_of) (defScope s_ends_of) .none kV_ends_of dc_ends_of pm_ends_of an_ends_of cd_ends_of ct_ends_of), sl_ends_of⟩) (e_ends_of : PySem.W.codeIn K cd_ends_of "ends_of" = true) (k_ends_of : PySem.W.keepIn K (.ref f_ends_of) = true)
    {od_ways_in an_ways_in : Option Addr} {sl_ways_in : Array (Option Value)} {oc_ways_in kV_ways_in dc_ways_in pm_ways_in cd_ways_in ct_ways_in : Value} {f_ways_in : Addr}
    (a_ways_in : PySem.W.nsIn K mainGlobals "ways_in" = some (some (.ref f_ways_in))) (l_ways_in : K.lookup f_ways_in = some ⟨oc_ways_in, od_ways_in, .func (PySem.W.fnOf "ways_in" "ways_in" (defArgs s_ways_in) (defBody s_ways_in) (defScope s_ways_in) .none kV_ways_in dc_ways_in pm_ways_in an_ways_in cd_ways_in ct_ways_in), sl_ways_in⟩) (e_ways_in : PySem.W.codeIn K cd_ways_in "ways_in" = true) (k_ways_in : PySem.W.keepIn K (.ref f_ways_in) = true)
    {od_gone an_gone : Option Addr} {sl_gone : Array (Option Value)} {oc_gone kV_gone dc_gone pm_gone cd_gone ct_gone : Value} {f_gone : Addr}
    (a_gone : PySem.W.nsIn K mainGlobals "gone" = some (some (.ref f_gone))) (l_gone : K.lookup f_gone = some ⟨oc_gone, od_gone, .func (PySem.W.fnOf "gone" "gone" (defArgs s_gone) (defBody s_gone) (defScope s_gone) .none kV_gone dc_gone pm_gone an_gone cd_gone ct_gone), sl_gone⟩) (e_gone : PySem.W.codeIn K cd_gone "gone" = true) (k_gone : PySem.W.keepIn K (.ref f_gone) = true)
    {od_starts an_starts : Option Addr} {sl_starts : Array (Option Value)} {oc_starts  dc_starts pm_starts cd_starts ct_starts : Value} {f_starts Dk_starts : Addr}
    (a_starts : PySem.W.nsIn K mainGlobals "starts" = some (some (.ref f_starts))) (l_starts : K.lookup f_starts = some ⟨oc_starts, od_starts, .func (PySem.W.fnOf "starts" "starts" (defArgs s_starts) (defBody s_starts) (defScope s_starts) .none (.ref Dk_starts) dc_starts pm_starts an_starts cd_starts ct_starts), sl_starts⟩) (e_starts : PySem.W.codeIn K cd_starts "starts" = true) (k_starts : PySem.W.keepIn K (.ref f_starts) = true)
    (kd_starts_goals : PySem.W.nsIn K Dk_starts "goals" = some (some .none))
    {od_law_right an_law_right : Option Addr} {sl_law_right : Array (Option Value)} {oc_law_right kV_law_right dc_law_right pm_law_right cd_law_right ct_law_right : Value} {f_law_right : Addr}
    (a_law_right : PySem.W.nsIn K mainGlobals "_law_right" = some (some (.ref f_law_right))) (l_law_right : K.lookup f_law_right = some ⟨oc_law_right, od_law_right, .func (PySem.W.fnOf "_law_right" "_law_right" (defArgs s_law_right) (defBody s_law_right) (defScope s_law_right) .none kV_law_right dc_law_right pm_law_right an_law_right cd_law_right ct_law_right), sl_law_right⟩) (e_law_right : PySem.W.codeIn K cd_law_right "_law_right" = true) (k_law_right : PySem.W.keepIn K (.ref f_law_right) = true)
    {od_law_row an_law_row : Option Addr} {sl_law_row : Array (Option Value)} {oc_law_row kV_law_row dc_law_row pm_law_row cd_law_row ct_law_row : Value} {f_law_row : Addr}
    (a_law_row : PySem.W.nsIn K mainGlobals "_law_row" = some (some (.ref f_law_row))) (l_law_row : K.lookup f_law_row = some ⟨oc_law_row, od_law_row, .func (PySem.W.fnOf "_law_row" "_law_row" (defArgs s_law_row) (defBody s_law_row) (defScope s_law_row) .none kV_law_row dc_law_row pm_law_row an_law_row cd_law_row ct_law_row), sl_law_row⟩) (e_law_row : PySem.W.codeIn K cd_law_row "_law_row" = true) (k_law_row : PySem.W.keepIn K (.ref f_law_row) = true)
    {od_law an_law : Option Addr} {sl_law : Array (Option Value)} {oc_law kV_law dc_law pm_law cd_law ct_law : Value} {f_law : Addr}
    (a_law : PySem.W.nsIn K mainGlobals "law" = some (some (.ref f_law))) (l_law : K.lookup f_law = some ⟨oc_law, od_law, .func (PySem.W.fnOf "law" "law" (defArgs s_law) (defBody s_law) (defScope s_law) .none kV_law dc_law pm_law an_law cd_law ct_law), sl_law⟩) (e_law : PySem.W.codeIn K cd_law "law" = true) (k_law : PySem.W.keepIn K (.ref f_law) = true)
    (z_abs : PySem.W.nsIn K mainGlobals "abs" = some none)
    (z_int : PySem.W.nsIn K mainGlobals "int" = some none)
    (z_len : PySem.W.nsIn K mainGlobals "len" = some none)
    (z_tuple : PySem.W.nsIn K mainGlobals "tuple" = some none)
    (z_sorted : PySem.W.nsIn K mainGlobals "sorted" = some none)
    (z_range : PySem.W.nsIn K mainGlobals "range" = some none)
    (z_list : PySem.W.nsIn K mainGlobals "list" = some none)
    (z_zip : PySem.W.nsIn K mainGlobals "zip" = some none)
    (z_repr : PySem.W.nsIn K mainGlobals "repr" = some none)
    (z_dict : PySem.W.nsIn K mainGlobals "dict" = some none)
    (z_min : PySem.W.nsIn K mainGlobals "min" = some none)
    (z_max : PySem.W.nsIn K mainGlobals "max" = some none) :
    ∃ fd : FuncData, (∀ (s : Shared) (u : Value), BindsTo s fd ⟨[u], []⟩ [("_law_script", u)]) ∧ ∀ base : Heap, K.In base → base.Ns mainGlobals mg → FnG P w K mg base 5 fa fd ["_law_script"] (spG K cl F_law 1) := by
  have ef := hfa.symm.trans (PySem.W.mg_of X G a_law)
  cases ef
  have D_law_pot := fun_mk (st := s_law_pot) l_law_pot e_law_pot k_law_pot
  have m_law_pot := PySem.W.mg_of X G a_law_pot
  have D_law_take := fun_mk (st := s_law_take) l_law_take e_law_take k_law_take
  have m_law_take := PySem.W.mg_of X G a_law_take
  have D_law_web := fun_mk (st := s_law_web) l_law_web e_law_web k_law_web
  have m_law_web := PySem.W.mg_of X G a_law_web
  have D_law_of := fun_mk (st := s_law_of) l_law_of e_law_of k_law_of
  have m_law_of := PySem.W.mg_of X G a_law_of
  have D_law_world := fun_mk (st := s_law_world) l_law_world e_law_world k_law_world
  have m_law_world := PySem.W.mg_of X G a_law_world
  have D_law_names := fun_mk (st := s_law_names) l_law_names e_law_names k_law_names
  have m_law_names := PySem.W.mg_of X G a_law_names
  have D_law_goals := fun_mk (st := s_law_goals) l_law_goals e_law_goals k_law_goals
  have m_law_goals := PySem.W.mg_of X G a_law_goals
  have D_law_gone := fun_mk (st := s_law_gone) l_law_gone e_law_gone k_law_gone
  have m_law_gone := PySem.W.mg_of X G a_law_gone
  have D_ends_of := fun_mk (st := s_ends_of) l_ends_of e_ends_of k_ends_of
  have m_ends_of := PySem.W.mg_of X G a_ends_of
  have D_ways_in := fun_mk (st := s_ways_in) l_ways_in e_ways_in k_ways_in
  have m_ways_in := PySem.W.mg_of X G a_ways_in
  have D_gone := fun_mk (st := s_gone) l_gone e_gone k_gone
  have m_gone := PySem.W.mg_of X G a_gone
  have D_starts := fun_mk (st := s_starts) l_starts e_starts k_starts
  have m_starts := PySem.W.mg_of X G a_starts
  have S_starts_0 : ShapeOk K (PySem.W.fnOf "starts" "starts" (defArgs s_starts) (defBody s_starts) (defScope s_starts) .none (.ref Dk_starts) dc_starts pm_starts an_starts cd_starts ct_starts) ["web", "world", "row", "goals"] ⟨3, ["goals"], [.inl 0, .inl 1, .inl 2, .inl 3]⟩ := shape_mkD (ms := []) (fun _ h => nomatch h) fun us ws h1 h2 => match us, ws, h1, h2 with | [a0, a1, a2], [b0], _, _ => ⟨[a0, a1, a2, b0], rfl, rfl, .cons rfl (.cons rfl (.cons rfl (.cons rfl (.nil))))⟩
  have S_starts_1 : ShapeOk K (PySem.W.fnOf "starts" "starts" (defArgs s_starts) (defBody s_starts) (defScope s_starts) .none (.ref Dk_starts) dc_starts pm_starts an_starts cd_starts ct_starts) ["web", "world", "row", "goals"] ⟨3, [], [.inl 0, .inl 1, .inl 2, .inr (.none)]⟩ := shape_mkD (ms := [("goals", .none)]) (List.forall_mem_cons.mpr ⟨kd_starts_goals, fun _ h => nomatch h⟩) fun us ws h1 h2 => match us, ws, h1, h2 with | [a0, a1, a2], [], _, _ => ⟨[a0, a1, a2, .none], rfl, ⟨_, _, _, _, _, _, rfl, rfl, rfl⟩, .cons rfl (.cons rfl (.cons rfl (.cons ⟨.non, fun _ => .non, rfl⟩ (.nil))))⟩
  have D_law_right := fun_mk (st := s_law_right) l_law_right e_law_right k_law_right
  have m_law_right := PySem.W.mg_of X G a_law_right
  have D_law_row := fun_mk (st := s_law_row) l_law_row e_law_row k_law_row
  have m_law_row := PySem.W.mg_of X G a_law_row
  have D_law := fun_mk (st := s_law) l_law e_law k_law
  have m_law := PySem.W.mg_of X G a_law
  refine ⟨PySem.W.fnOf "law" "law" (defArgs s_law) (defBody s_law) (defScope s_law) .none kV_law dc_law pm_law an_law cd_law ct_law, fun s v => .of_eq rfl, fun base _ _ => ?_⟩
  have R_law_pot := R_law_pot (P := P) (w := w) (mg := mg) (base := base) (cl := cl) D_law_pot nst (PySem.W.mg_none_of X G z_abs) (PySem.W.mg_none_of X G z_int) (PySem.W.mg_none_of X G z_len)
  have R_law_take := R_law_take (P := P) (w := w) (mg := mg) (base := base) (cl := cl) D_law_take nst 
  have R_law_web := R_law_web (P := P) (w := w) (mg := mg) (base := base) (cl := cl) D_law_web nst (PySem.W.mg_none_of X G z_tuple) (PySem.W.mg_none_of X G z_sorted) D_law_take m_law_take R_law_take (PySem.W.mg_none_of X G z_range)
  have R_law_of := R_law_of (P := P) (w := w) (mg := mg) (base := base) (cl := cl) D_law_of nst D_law_take m_law_take R_law_take (PySem.W.mg_none_of X G z_len)
  have R_law_world := R_law_world (P := P) (w := w) (mg := mg) (base := base) (cl := cl) D_law_world nst (PySem.W.mg_none_of X G z_tuple) D_law_of m_law_of R_law_of (PySem.W.mg_none_of X G z_list)
  have R_law_names := R_law_names (P := P) (w := w) (mg := mg) (base := base) (cl := cl) D_law_names nst (PySem.W.mg_none_of X G z_sorted) (PySem.W.mg_none_of X G z_range) D_law_of m_law_of R_law_of D_law_take m_law_take R_law_take (PySem.W.mg_none_of X G z_len) (PySem.W.mg_none_of X G z_list)
  have R_law_goals := R_law_goals (P := P) (w := w) (mg := mg) (base := base) (cl := cl) D_law_goals nst (PySem.W.mg_none_of X G z_tuple) (PySem.W.mg_none_of X G z_range) D_law_take m_law_take R_law_take
  have R_law_gone := R_law_gone (P := P) (w := w) (mg := mg) (base := base) (cl := cl) D_law_gone nst 
  have R_ends_of := R_ends_of (P := P) (w := w) (mg := mg) (base := base) (cl := cl) D_ends_of nst (PySem.W.mg_none_of X G z_tuple) (PySem.W.mg_none_of X G z_range)
  have R_ways_in := R_ways_in (P := P) (w := w) (mg := mg) (base := base) (cl := cl) D_ways_in nst (PySem.W.mg_none_of X G z_zip)
  have R_gone := R_gone (P := P) (w := w) (mg := mg) (base := base) (cl := cl) D_gone nst (PySem.W.mg_none_of X G z_tuple) D_ways_in m_ways_in R_ways_in
  have R_starts := R_starts (P := P) (w := w) (mg := mg) (base := base) (cl := cl) D_starts nst (PySem.W.mg_none_of X G z_tuple) (PySem.W.mg_none_of X G z_len) D_gone m_gone R_gone (PySem.W.mg_none_of X G z_range) D_ends_of m_ends_of R_ends_of
  have R_law_right := R_law_right (P := P) (w := w) (mg := mg) (base := base) (cl := cl) D_law_right nst (PySem.W.mg_none_of X G z_repr) D_starts m_starts R_starts S_starts_1 S_starts_0 (PySem.W.mg_none_of X G z_tuple) (PySem.W.mg_none_of X G z_range) (PySem.W.mg_none_of X G z_len) D_gone m_gone R_gone D_law_gone m_law_gone R_law_gone (PySem.W.mg_none_of X G z_dict) (PySem.W.mg_none_of X G z_zip) D_law_goals m_law_goals R_law_goals
  have R_law_row := R_law_row (P := P) (w := w) (mg := mg) (base := base) (cl := cl) D_law_row nst (PySem.W.mg_none_of X G z_tuple) D_law_take m_law_take R_law_take (PySem.W.mg_none_of X G z_int) (PySem.W.mg_none_of X G z_len) (PySem.W.mg_none_of X G z_min) D_law_of m_law_of R_law_of (PySem.W.mg_none_of X G z_zip) (PySem.W.mg_none_of X G z_range)
  exact R_law D_law nst D_law_right m_law_right R_law_right D_law_row m_law_row R_law_row (PySem.W.mg_none_of X G z_range) D_law_world m_law_world R_law_world D_law_web m_law_web R_law_web D_law_take m_law_take R_law_take D_law_names m_law_names R_law_names D_law_of m_law_of R_law_of D_law_pot m_law_pot R_law_pot (PySem.W.mg_none_of X G z_max) (PySem.W.mg_none_of X G z_min) (PySem.W.mg_none_of X G z_len)
end WW

namespace WW
open PySem PySem.Spec
theorem law_gone_call {c : Int} {W : List (List Key × PyData)} {row : List Str} (hr : row.length ≤ 100000) (hints : ∀ c nm q, wayAt W c nm = some q → ∃ w, q = .int w) {n : Nat} {st : Store} (hn : st[n]? = some (.dT (pyv W))) :
    callM 0 F_law_gone [.loc n, io c, .py (.tuple (row.map .str))] st = .ok (.py (.list ((goneL W c row).map .int))) st := by
  refine Gv.val ?_
  refine call_keep [.int c, .tuple (row.map .str)] hn (fun p s => frz_dT _ _ _) ?_
  refine run_gv rfl ?_
  unfold c_law_gone
  simp only [exec, ev, evs, tst, srcs, GS_seq, GS_thn, GS_nx, GS_bk, GS_ct, GS_rt, Gv_bind, Gv_ok, Gv_give, Gv_nox, Gv_req, GS_req, R.bind_ok, R.thn_ok, RS.thn_nx, giveS_some, start, List.map_cons, List.map_nil, List.length_cons, List.length_nil, List.cons_append, List.nil_append, List.append_nil, List.replicate_succ, List.replicate_zero, Nat.reduceAdd, Nat.reduceSub, env_z, env_s, dl_z, dl_s, selO, set_z, set_s, asg, Option.some.injEq, exists_eq_left', bi1, bi0, isAbs, WW.wipe, setAll, if_true, if_false, Bool.false_eq_true, reduceIte, biO, mtO, pre_upper, pre_join, Option.map_some, Option.bind_some, exists_eq_left, and_true, true_and, c_lt, c_le, c_gt, c_ge, t_bool, t_int, b_add, b_sub, b_mul, b_div, b_mod, GS_ost, p_int, newL_t, newL_f, allPy_cons, allPy_nil, allPy_map, slc_tup, sset_z, sset_s, sto_z, sto_s, mkT, sizeBig, Nat.reduceLeDiff, Int.reduceLT, Int.reduceLE, decide_true, decide_false, ↓reduceIte, tyOk, subTy, List.all_cons, List.all_nil, List.any_cons, List.any_nil, beq_self_eq_true, Bool.true_or, Bool.or_false, Bool.false_or, Bool.and_true, Bool.true_and, Bool.or_true, String.reduceBEq, Bool.and_false, Bool.false_and]
  refine ⟨_, rfl, ?_⟩
  simp only [lock_no, exec, ev, evs, tst, srcs, GS_seq, GS_thn, GS_nx, GS_bk, GS_ct, GS_rt, Gv_bind, Gv_ok, Gv_give, Gv_nox, Gv_req, GS_req, R.bind_ok, R.thn_ok, RS.thn_nx, giveS_some, start, List.map_cons, List.map_nil, List.length_cons, List.length_nil, List.cons_append, List.nil_append, List.append_nil, List.replicate_succ, List.replicate_zero, Nat.reduceAdd, Nat.reduceSub, env_z, env_s, dl_z, dl_s, selO, set_z, set_s, asg, Option.some.injEq, exists_eq_left', bi1, bi0, isAbs, WW.wipe, setAll, if_true, if_false, Bool.false_eq_true, reduceIte, biO, mtO, pre_upper, pre_join, Option.map_some, Option.bind_some, exists_eq_left, and_true, true_and, c_lt, c_le, c_gt, c_ge, t_bool, t_int, b_add, b_sub, b_mul, b_div, b_mod, GS_ost, p_int, newL_t, newL_f, allPy_cons, allPy_nil, allPy_map, slc_tup, sset_z, sset_s, sto_z, sto_s, mkT, sizeBig, Nat.reduceLeDiff, Int.reduceLT, Int.reduceLE, decide_true, decide_false, ↓reduceIte, tyOk, subTy, List.all_cons, List.all_nil, List.any_cons, List.any_nil, beq_self_eq_true, Bool.true_or, Bool.or_false, Bool.false_or, Bool.and_true, Bool.true_and, Bool.or_true, String.reduceBEq, Bool.and_false, Bool.false_and]
  have fin : ∀ d st1, d = D.loc 1 → st1 = [.dT (pyv W), .lst ((goneL W c row).map io)] → ∃ q, frzD (from' 1) st1 8 d = some q ∧ D.py q = .py (.list ((goneL W c row).map .int)) := by
    rintro _ _ rfl rfl
    refine ⟨_, frz_loc_lst (ps := (goneL W c row).map .int) rfl (by rw [← ints_py]; rfl), rfl⟩
  refine GS.mid (fun env st1 => ∃ e4, env = [some (.loc 0), some (io c), some (.py (.tuple (row.map .str))), some (.loc 1), e4] ∧ st1 = [.dT (pyv W), .lst ((goneL W c row).map io)]) ?_ fun env st1 ⟨e4, e1, e2⟩ => ?_
  · refine for_ok (fun j env st => ∃ e4, (goneL W c (row.take j)).length = j + 1 ∧ env = [some (.loc 0), some (io c), some (.py (.tuple (row.map .str))), some (.loc 1), e4] ∧ st = [.dT (pyv W), .lst ((goneL W c (row.take j)).map io)])
      ⟨none, rfl, rfl, rfl⟩ (fun i env st _ => still_nil _) (fun j x env st1 hx h => ?_) fun env st1 h => ?_
    · obtain ⟨e4, h1, rfl, rfl⟩ := h
      rw [List.map_map, List.getElem?_map] at hx
      obtain ⟨nm, hnm, rfl⟩ := Option.map_eq_some_iff.mp hx
      have hj : j < row.length := (List.getElem?_eq_some_iff.mp hnm).1
      have htk : row.take (j + 1) = row.take j ++ [nm] := by rw [List.take_add_one, hnm]; rfl
      have hlt : (row.take j).length = j := by rw [List.length_take]; omega
      refine ⟨_, rfl, ?_⟩
      unfold b1_law_gone
      have hg0 : getS [.dT (pyv W), .lst ((goneL W c (row.take j)).map io)] 0 = some (.dT (pyv W)) := rfl
      have hg1 : getS [.dT (pyv W), .lst ((goneL W c (row.take j)).map io)] 1 = some (.lst ((goneL W c (row.take j)).map io)) := rfl
      have hsn := goneL_snoc (l := W) (s := c) (r := row.take j) (x := nm) (by rw [h1, hlt])
      have hne := goneL_ne W c (row.take j)
      have hgone : goneL W c (row.take (j + 1)) = goneL W c row ∨ (goneL W c (row.take (j + 1))).length = j + 2 := by
        by_cases h2 : (goneL W c (row.take (j + 1))).length < (row.take (j + 1)).length + 1
        · left
          have := goneL_stop (r' := row.drop (j + 1)) h2
          rw [List.take_append_drop] at this
          exact this.symm
        · right
          have := goneL_len W c (row.take (j + 1))
          have h3 : (row.take (j + 1)).length = j + 1 := by rw [List.length_take]; omega
          omega
      rw [htk, hsn] at hgone
      cases hw : wayAt W ((goneL W c (row.take j)).getLastD 0) nm with
      | none =>
        rw [hw] at hgone
        simp only [Function.comp, idx_loc hg1, getLast_D hne, un_neg, notin_way hg0, hw, Option.isSome_none, Bool.not_false, RS.thn_rt, exec, ev, evs, tst, srcs, GS_seq, GS_thn, GS_nx, GS_bk, GS_ct, GS_rt, Gv_bind, Gv_ok, Gv_give, Gv_nox, Gv_req, GS_req, R.bind_ok, R.thn_ok, RS.thn_nx, giveS_some, start, List.map_cons, List.map_nil, List.length_cons, List.length_nil, List.cons_append, List.nil_append, List.append_nil, List.replicate_succ, List.replicate_zero, Nat.reduceAdd, Nat.reduceSub, env_z, env_s, dl_z, dl_s, selO, set_z, set_s, asg, Option.some.injEq, exists_eq_left', bi1, bi0, isAbs, WW.wipe, setAll, if_true, if_false, Bool.false_eq_true, reduceIte, biO, mtO, pre_upper, pre_join, Option.map_some, Option.bind_some, exists_eq_left, and_true, true_and, c_lt, c_le, c_gt, c_ge, t_bool, t_int, b_add, b_sub, b_mul, b_div, b_mod, GS_ost, p_int, newL_t, newL_f, allPy_cons, allPy_nil, allPy_map, slc_tup, sset_z, sset_s, sto_z, sto_s, mkT, sizeBig, Nat.reduceLeDiff, Int.reduceLT, Int.reduceLE, decide_true, decide_false, ↓reduceIte, tyOk, subTy, List.all_cons, List.all_nil, List.any_cons, List.any_nil, beq_self_eq_true, Bool.true_or, Bool.or_false, Bool.false_or, Bool.and_true, Bool.true_and, Bool.or_true, String.reduceBEq, Bool.and_false, Bool.false_and]
        simp only [List.append_nil] at hgone
        refine fin _ _ rfl ?_
        rcases hgone with e | e
        · rw [e]
        · omega
      | some q =>
        obtain ⟨w, rfl⟩ := hints _ _ _ hw
        simp only [Function.comp, idx_loc hg1, getLast_D hne, un_neg, notin_way hg0, idx_way hg0, hw, Option.isSome_some, Bool.not_true, exec, ev, evs, tst, srcs, GS_seq, GS_thn, GS_nx, GS_bk, GS_ct, GS_rt, Gv_bind, Gv_ok, Gv_give, Gv_nox, Gv_req, GS_req, R.bind_ok, R.thn_ok, RS.thn_nx, giveS_some, start, List.map_cons, List.map_nil, List.length_cons, List.length_nil, List.cons_append, List.nil_append, List.append_nil, List.replicate_succ, List.replicate_zero, Nat.reduceAdd, Nat.reduceSub, env_z, env_s, dl_z, dl_s, selO, set_z, set_s, asg, Option.some.injEq, exists_eq_left', bi1, bi0, isAbs, WW.wipe, setAll, if_true, if_false, Bool.false_eq_true, reduceIte, biO, mtO, pre_upper, pre_join, Option.map_some, Option.bind_some, exists_eq_left, and_true, true_and, c_lt, c_le, c_gt, c_ge, t_bool, t_int, b_add, b_sub, b_mul, b_div, b_mod, GS_ost, p_int, newL_t, newL_f, allPy_cons, allPy_nil, allPy_map, slc_tup, sset_z, sset_s, sto_z, sto_s, mkT, sizeBig, Nat.reduceLeDiff, Int.reduceLT, Int.reduceLE, decide_true, decide_false, ↓reduceIte, tyOk, subTy, List.all_cons, List.all_nil, List.any_cons, List.any_nil, beq_self_eq_true, Bool.true_or, Bool.or_false, Bool.false_or, Bool.and_true, Bool.true_and, Bool.or_true, String.reduceBEq, Bool.and_false, Bool.false_and]
        refine ⟨pre_append hg1, ?_⟩
        rw [mt_app (xs := (goneL W c (row.take j)).map io) rfl (by rw [List.length_map, h1, sizeLine_eq]; omega)]
        simp only [exec, ev, evs, tst, srcs, GS_seq, GS_thn, GS_nx, GS_bk, GS_ct, GS_rt, Gv_bind, Gv_ok, Gv_give, Gv_nox, Gv_req, GS_req, R.bind_ok, R.thn_ok, RS.thn_nx, giveS_some, start, List.map_cons, List.map_nil, List.length_cons, List.length_nil, List.cons_append, List.nil_append, List.append_nil, List.replicate_succ, List.replicate_zero, Nat.reduceAdd, Nat.reduceSub, env_z, env_s, dl_z, dl_s, selO, set_z, set_s, asg, Option.some.injEq, exists_eq_left', bi1, bi0, isAbs, WW.wipe, setAll, if_true, if_false, Bool.false_eq_true, reduceIte, biO, mtO, pre_upper, pre_join, Option.map_some, Option.bind_some, exists_eq_left, and_true, true_and, c_lt, c_le, c_gt, c_ge, t_bool, t_int, b_add, b_sub, b_mul, b_div, b_mod, GS_ost, p_int, newL_t, newL_f, allPy_cons, allPy_nil, allPy_map, slc_tup, sset_z, sset_s, sto_z, sto_s, mkT, sizeBig, Nat.reduceLeDiff, Int.reduceLT, Int.reduceLE, decide_true, decide_false, ↓reduceIte, tyOk, subTy, List.all_cons, List.all_nil, List.any_cons, List.any_nil, beq_self_eq_true, Bool.true_or, Bool.or_false, Bool.false_or, Bool.and_true, Bool.true_and, Bool.or_true, String.reduceBEq, Bool.and_false, Bool.false_and]
        rw [htk, hsn, hw]
        refine ⟨_, ?_, rfl, ?_⟩
        · rw [List.length_append, h1]; rfl
        · rw [List.map_append]; rfl
    · obtain ⟨e4, h1, rfl, rfl⟩ := h
      rw [List.length_map, List.length_map, List.take_length]
      exact ⟨_, rfl, rfl⟩
  · subst e1; subst e2
    simp only [exec, ev, evs, tst, srcs, GS_seq, GS_thn, GS_nx, GS_bk, GS_ct, GS_rt, Gv_bind, Gv_ok, Gv_give, Gv_nox, Gv_req, GS_req, R.bind_ok, R.thn_ok, RS.thn_nx, giveS_some, start, List.map_cons, List.map_nil, List.length_cons, List.length_nil, List.cons_append, List.nil_append, List.append_nil, List.replicate_succ, List.replicate_zero, Nat.reduceAdd, Nat.reduceSub, env_z, env_s, dl_z, dl_s, selO, set_z, set_s, asg, Option.some.injEq, exists_eq_left', bi1, bi0, isAbs, WW.wipe, setAll, if_true, if_false, Bool.false_eq_true, reduceIte, biO, mtO, pre_upper, pre_join, Option.map_some, Option.bind_some, exists_eq_left, and_true, true_and, c_lt, c_le, c_gt, c_ge, t_bool, t_int, b_add, b_sub, b_mul, b_div, b_mod, GS_ost, p_int, newL_t, newL_f, allPy_cons, allPy_nil, allPy_map, slc_tup, sset_z, sset_s, sto_z, sto_s, mkT, sizeBig, Nat.reduceLeDiff, Int.reduceLT, Int.reduceLE, decide_true, decide_false, ↓reduceIte, tyOk, subTy, List.all_cons, List.all_nil, List.any_cons, List.any_nil, beq_self_eq_true, Bool.true_or, Bool.or_false, Bool.false_or, Bool.and_true, Bool.true_and, Bool.or_true, String.reduceBEq, Bool.and_false, Bool.false_and]
    exact fin _ _ rfl rfl
/-! rows -/
def RowP (p : PyData) : Prop := ∃ row : List Str, p = .tuple (row.map .str) ∧ row.length ≤ 400 ∧ ∀ x ∈ row, Nme x
theorem zz_nme : Nme "zz" := ⟨fun c hc => by
  have : ∀ c ∈ ("zz" : Str).cps.toList, 97 ≤ c ∧ c ≤ 122 := by decide +kernel
  exact this c hc, by decide +kernel, by decide +kernel⟩
theorem dr_row : Dr T_law_row 1 3 := ⟨⟨_, rfl⟩, _, _, _, rfl, rfl⟩
def WayOf (v : PyData) (k : Nat) : Prop := ∃ xs, v = .list xs ∧ xs ≠ [] ∧ xs.length ≤ k ∧ ∀ q ∈ xs, ∃ nm w, q = .tuple [.str nm, .int w] ∧ Nme nm
theorem law_row_draw {n : Int} {ps : List Po} {ws : List Int} {names : List Str} {most : Nat} (hN : ∀ x ∈ names, Nme x) (hl : names ≠ []) (hl2 : names.length ≤ 26) (hps : ∀ p ∈ ps, PoOk n names most p) (hz : ps.length ≤ 100000) (hn : 0 < n) (hn2 : n ≤ 1000) :
    DrawF F_law_row [.list (names.map .str), webP n ps, .tuple (ws.map .int)] RowP := ⟨fun a b hp => by
  refine run_gv rfl ?_
  unfold c_law_row
  simp only [exec, ev, evs, tst, srcs, GS_seq, GS_thn, GS_nx, GS_bk, GS_ct, GS_rt, Gv_bind, Gv_ok, Gv_give, Gv_nox, Gv_req, GS_req, R.bind_ok, R.thn_ok, RS.thn_nx, giveS_some, start, List.map_cons, List.map_nil, List.length_cons, List.length_nil, List.cons_append, List.nil_append, List.append_nil, List.replicate_succ, List.replicate_zero, Nat.reduceAdd, Nat.reduceSub, env_z, env_s, dl_z, dl_s, selO, set_z, set_s, asg, Option.some.injEq, exists_eq_left', bi1, bi0, isAbs, WW.wipe, setAll, if_true, if_false, Bool.false_eq_true, reduceIte, biO, mtO, pre_upper, pre_join, Option.map_some, Option.bind_some, exists_eq_left, and_true, true_and, c_lt, c_le, c_gt, c_ge, t_bool, t_int, b_add, b_sub, b_mul, b_div, b_mod, GS_ost, p_int, newL_t, newL_f, allPy_cons, allPy_nil, allPy_map, slc_tup, sset_z, sset_s, sto_z, sto_s, mkT, sizeBig, Nat.reduceLeDiff, Int.reduceLT, Int.reduceLE, decide_true, decide_false, ↓reduceIte, tyOk, subTy, List.all_cons, List.all_nil, List.any_cons, List.any_nil, beq_self_eq_true, Bool.true_or, Bool.or_false, Bool.false_or, Bool.and_true, Bool.true_and, Bool.or_true, String.reduceBEq, Bool.and_false, Bool.false_and]
  refine g_take dr_row.t rfl hp (by decide) (by decide) fun way a2 b2 t0 t1 h2 => ?_
  refine g_of dr_row.o rfl h2 (drawnL (Q := fun q => ∃ r : Int, q = .int r ∧ 0 ≤ r ∧ r ≤ 400) (by simp) (sizeBig (by simp)) ?_) fun y a3 b3 ⟨size, ey, s0, s1⟩ h3 => ?_
  · intro q hq
    simp only [List.mem_cons, List.not_mem_nil, or_false] at hq
    rcases hq with rfl | rfl | rfl | rfl | rfl | rfl | rfl | rfl <;> exact ⟨_, rfl, by decide, by decide⟩
  subst ey
  simp only [eq_int, exec, ev, evs, tst, srcs, GS_seq, GS_thn, GS_nx, GS_bk, GS_ct, GS_rt, Gv_bind, Gv_ok, Gv_give, Gv_nox, Gv_req, GS_req, R.bind_ok, R.thn_ok, RS.thn_nx, giveS_some, start, List.map_cons, List.map_nil, List.length_cons, List.length_nil, List.cons_append, List.nil_append, List.append_nil, List.replicate_succ, List.replicate_zero, Nat.reduceAdd, Nat.reduceSub, env_z, env_s, dl_z, dl_s, selO, set_z, set_s, asg, Option.some.injEq, exists_eq_left', bi1, bi0, isAbs, WW.wipe, setAll, if_true, if_false, Bool.false_eq_true, reduceIte, biO, mtO, pre_upper, pre_join, Option.map_some, Option.bind_some, exists_eq_left, and_true, true_and, c_lt, c_le, c_gt, c_ge, t_bool, t_int, b_add, b_sub, b_mul, b_div, b_mod, GS_ost, p_int, newL_t, newL_f, allPy_cons, allPy_nil, allPy_map, slc_tup, sset_z, sset_s, sto_z, sto_s, mkT, sizeBig, Nat.reduceLeDiff, Int.reduceLT, Int.reduceLE, decide_true, decide_false, ↓reduceIte, tyOk, subTy, List.all_cons, List.all_nil, List.any_cons, List.any_nil, beq_self_eq_true, Bool.true_or, Bool.or_false, Bool.false_or, Bool.and_true, Bool.true_and, Bool.or_true, String.reduceBEq, Bool.and_false, Bool.false_and]
  by_cases w0 : way = 0
  · simp only [w0, exec, ev, evs, tst, srcs, GS_seq, GS_thn, GS_nx, GS_bk, GS_ct, GS_rt, Gv_bind, Gv_ok, Gv_give, Gv_nox, Gv_req, GS_req, R.bind_ok, R.thn_ok, RS.thn_nx, giveS_some, start, List.map_cons, List.map_nil, List.length_cons, List.length_nil, List.cons_append, List.nil_append, List.append_nil, List.replicate_succ, List.replicate_zero, Nat.reduceAdd, Nat.reduceSub, env_z, env_s, dl_z, dl_s, selO, set_z, set_s, asg, Option.some.injEq, exists_eq_left', bi1, bi0, isAbs, WW.wipe, setAll, if_true, if_false, Bool.false_eq_true, reduceIte, biO, mtO, pre_upper, pre_join, Option.map_some, Option.bind_some, exists_eq_left, and_true, true_and, c_lt, c_le, c_gt, c_ge, t_bool, t_int, b_add, b_sub, b_mul, b_div, b_mod, GS_ost, p_int, newL_t, newL_f, allPy_cons, allPy_nil, allPy_map, slc_tup, sset_z, sset_s, sto_z, sto_s, mkT, sizeBig, Nat.reduceLeDiff, Int.reduceLT, Int.reduceLE, decide_true, decide_false, ↓reduceIte, tyOk, subTy, List.all_cons, List.all_nil, List.any_cons, List.any_nil, beq_self_eq_true, Bool.true_or, Bool.or_false, Bool.false_or, Bool.and_true, Bool.true_and, Bool.or_true, String.reduceBEq, Bool.and_false, Bool.false_and]
    unfold l1_law_row
    refine lc_gen ?_
    simp only [bi_min, exec, ev, evs, tst, srcs, GS_seq, GS_thn, GS_nx, GS_bk, GS_ct, GS_rt, Gv_bind, Gv_ok, Gv_give, Gv_nox, Gv_req, GS_req, R.bind_ok, R.thn_ok, RS.thn_nx, giveS_some, start, List.map_cons, List.map_nil, List.length_cons, List.length_nil, List.cons_append, List.nil_append, List.append_nil, List.replicate_succ, List.replicate_zero, Nat.reduceAdd, Nat.reduceSub, env_z, env_s, dl_z, dl_s, selO, set_z, set_s, asg, Option.some.injEq, exists_eq_left', bi1, bi0, isAbs, WW.wipe, setAll, if_true, if_false, Bool.false_eq_true, reduceIte, biO, mtO, pre_upper, pre_join, Option.map_some, Option.bind_some, exists_eq_left, and_true, true_and, c_lt, c_le, c_gt, c_ge, t_bool, t_int, b_add, b_sub, b_mul, b_div, b_mod, GS_ost, p_int, newL_t, newL_f, allPy_cons, allPy_nil, allPy_map, slc_tup, sset_z, sset_s, sto_z, sto_s, mkT, sizeBig, Nat.reduceLeDiff, Int.reduceLT, Int.reduceLE, decide_true, decide_false, ↓reduceIte, tyOk, subTy, List.all_cons, List.all_nil, List.any_cons, List.any_nil, beq_self_eq_true, Bool.true_or, Bool.or_false, Bool.false_or, Bool.and_true, Bool.true_and, Bool.or_true, String.reduceBEq, Bool.and_false, Bool.false_and]
    have hm : ∃ k : Nat, (if (60 : Int) < size then 60 else size) = (k : Int) ∧ k ≤ 60 := ⟨(if (60 : Int) < size then 60 else size).toNat, by split <;> omega, by split <;> omega⟩
    obtain ⟨k, ek, hk⟩ := hm
    rw [ek]
    refine ⟨_, rng_its (by omega) (by omega), rfl, rfl, by rw [rngI_len]; exact sizeBig (by omega), fun i st acc => ∃ row : List Str, acc = row.map .str ∧ row.length ≤ i ∧ (∀ x ∈ row, Nme x) ∧ ∃ a b, potOk a b ∧ st = [.lst [io a, io b]],
      ⟨[], rfl, Nat.le_refl _, (fun _ h => nomatch h), a3, b3, h3, rfl⟩, fun i st acc ⟨row, e, h, _⟩ => by rw [e, List.length_map]; exact h, fun i x st acc hx ⟨row, e, g1, g2, a4, b4, g4, est⟩ => ?_, fun st acc ⟨row, e, g1, g2, a4, b4, g4, est⟩ => ?_⟩
    · subst est; subst e
      have hcat : binO .Add false [SO.lst [io a4, io b4]] (.py (.list (names.map .str))) (.py (.list [.str (Str.ofString "zz")])) = .ok (.py (.list ((names ++ [("zz" : Str)]).map .str))) [SO.lst [io a4, io b4]] := by
        rw [cat_lst (by rw [List.length_map]; simp; omega), List.map_append]; rfl
      simp only [hcat, exec, ev, evs, tst, srcs, GS_seq, GS_thn, GS_nx, GS_bk, GS_ct, GS_rt, Gv_bind, Gv_ok, Gv_give, Gv_nox, Gv_req, GS_req, R.bind_ok, R.thn_ok, RS.thn_nx, giveS_some, start, List.map_cons, List.map_nil, List.length_cons, List.length_nil, List.cons_append, List.nil_append, List.append_nil, List.replicate_succ, List.replicate_zero, Nat.reduceAdd, Nat.reduceSub, env_z, env_s, dl_z, dl_s, selO, set_z, set_s, asg, Option.some.injEq, exists_eq_left', bi1, bi0, isAbs, WW.wipe, setAll, if_true, if_false, Bool.false_eq_true, reduceIte, biO, mtO, pre_upper, pre_join, Option.map_some, Option.bind_some, exists_eq_left, and_true, true_and, c_lt, c_le, c_gt, c_ge, t_bool, t_int, b_add, b_sub, b_mul, b_div, b_mod, GS_ost, p_int, newL_t, newL_f, allPy_cons, allPy_nil, allPy_map, slc_tup, sset_z, sset_s, sto_z, sto_s, mkT, sizeBig, Nat.reduceLeDiff, Int.reduceLT, Int.reduceLE, decide_true, decide_false, ↓reduceIte, tyOk, subTy, List.all_cons, List.all_nil, List.any_cons, List.any_nil, beq_self_eq_true, Bool.true_or, Bool.or_false, Bool.false_or, Bool.and_true, Bool.true_and, Bool.or_true, String.reduceBEq, Bool.and_false, Bool.false_and]
      refine g_of dr_row.o rfl g4 (drawnL (Q := fun q => ∃ x, q = .str x ∧ Nme x) (by simp) (sizeBig (by rw [List.length_map, List.length_append, List.length_singleton]; omega)) fun q hq => ?_) fun y a5 b5 ⟨x, ey, hx⟩ h5 => ?_
      · obtain ⟨x, hx, rfl⟩ := List.mem_map.mp hq
        rcases List.mem_append.mp hx with hx | hx
        · exact ⟨x, rfl, hN x hx⟩
        · rw [List.mem_singleton.mp hx]; exact ⟨_, rfl, zz_nme⟩
      · subst ey
        refine ⟨_, rfl, row ++ [x], by rw [List.map_append]; rfl, by rw [List.length_append, List.length_singleton]; omega, fun z hz => ?_, a5, b5, h5, rfl⟩
        rcases List.mem_append.mp hz with hz | hz
        · exact g2 z hz
        · rw [List.mem_singleton.mp hz]; exact hx
    · subst est; subst e
      simp only [bi_tup_lst, exec, ev, evs, tst, srcs, GS_seq, GS_thn, GS_nx, GS_bk, GS_ct, GS_rt, Gv_bind, Gv_ok, Gv_give, Gv_nox, Gv_req, GS_req, R.bind_ok, R.thn_ok, RS.thn_nx, giveS_some, start, List.map_cons, List.map_nil, List.length_cons, List.length_nil, List.cons_append, List.nil_append, List.append_nil, List.replicate_succ, List.replicate_zero, Nat.reduceAdd, Nat.reduceSub, env_z, env_s, dl_z, dl_s, selO, set_z, set_s, asg, Option.some.injEq, exists_eq_left', bi1, bi0, isAbs, WW.wipe, setAll, if_true, if_false, Bool.false_eq_true, reduceIte, biO, mtO, pre_upper, pre_join, Option.map_some, Option.bind_some, exists_eq_left, and_true, true_and, c_lt, c_le, c_gt, c_ge, t_bool, t_int, b_add, b_sub, b_mul, b_div, b_mod, GS_ost, p_int, newL_t, newL_f, allPy_cons, allPy_nil, allPy_map, slc_tup, sset_z, sset_s, sto_z, sto_s, mkT, sizeBig, Nat.reduceLeDiff, Int.reduceLT, Int.reduceLE, decide_true, decide_false, ↓reduceIte, tyOk, subTy, List.all_cons, List.all_nil, List.any_cons, List.any_nil, beq_self_eq_true, Bool.true_or, Bool.or_false, Bool.false_or, Bool.and_true, Bool.true_and, Bool.or_true, String.reduceBEq, Bool.and_false, Bool.false_and]
      rw [rngI_len] at g1
      exact ⟨_, rfl, ⟨row, rfl, by omega, g2⟩, a4, b4, g4, rfl⟩
  · simp only [w0, exec, ev, evs, tst, srcs, GS_seq, GS_thn, GS_nx, GS_bk, GS_ct, GS_rt, Gv_bind, Gv_ok, Gv_give, Gv_nox, Gv_req, GS_req, R.bind_ok, R.thn_ok, RS.thn_nx, giveS_some, start, List.map_cons, List.map_nil, List.length_cons, List.length_nil, List.cons_append, List.nil_append, List.append_nil, List.replicate_succ, List.replicate_zero, Nat.reduceAdd, Nat.reduceSub, env_z, env_s, dl_z, dl_s, selO, set_z, set_s, asg, Option.some.injEq, exists_eq_left', bi1, bi0, isAbs, WW.wipe, setAll, if_true, if_false, Bool.false_eq_true, reduceIte, biO, mtO, pre_upper, pre_join, Option.map_some, Option.bind_some, exists_eq_left, and_true, true_and, c_lt, c_le, c_gt, c_ge, t_bool, t_int, b_add, b_sub, b_mul, b_div, b_mod, GS_ost, p_int, newL_t, newL_f, allPy_cons, allPy_nil, allPy_map, slc_tup, sset_z, sset_s, sto_z, sto_s, mkT, sizeBig, Nat.reduceLeDiff, Int.reduceLT, Int.reduceLE, decide_true, decide_false, ↓reduceIte, tyOk, subTy, List.all_cons, List.all_nil, List.any_cons, List.any_nil, beq_self_eq_true, Bool.true_or, Bool.or_false, Bool.false_or, Bool.and_true, Bool.true_and, Bool.or_true, String.reduceBEq, Bool.and_false, Bool.false_and]
    by_cases w1 : way = 1
    · simp only [w1, eq_int, exec, ev, evs, tst, srcs, GS_seq, GS_thn, GS_nx, GS_bk, GS_ct, GS_rt, Gv_bind, Gv_ok, Gv_give, Gv_nox, Gv_req, GS_req, R.bind_ok, R.thn_ok, RS.thn_nx, giveS_some, start, List.map_cons, List.map_nil, List.length_cons, List.length_nil, List.cons_append, List.nil_append, List.append_nil, List.replicate_succ, List.replicate_zero, Nat.reduceAdd, Nat.reduceSub, env_z, env_s, dl_z, dl_s, selO, set_z, set_s, asg, Option.some.injEq, exists_eq_left', bi1, bi0, isAbs, WW.wipe, setAll, if_true, if_false, Bool.false_eq_true, reduceIte, biO, mtO, pre_upper, pre_join, Option.map_some, Option.bind_some, exists_eq_left, and_true, true_and, c_lt, c_le, c_gt, c_ge, t_bool, t_int, b_add, b_sub, b_mul, b_div, b_mod, GS_ost, p_int, newL_t, newL_f, allPy_cons, allPy_nil, allPy_map, slc_tup, sset_z, sset_s, sto_z, sto_s, mkT, sizeBig, Nat.reduceLeDiff, Int.reduceLT, Int.reduceLE, decide_true, decide_false, ↓reduceIte, tyOk, subTy, List.all_cons, List.all_nil, List.any_cons, List.any_nil, beq_self_eq_true, Bool.true_or, Bool.or_false, Bool.false_or, Bool.and_true, Bool.true_and, Bool.or_true, String.reduceBEq, Bool.and_false, Bool.false_and]
      refine g_of dr_row.o rfl h3 (drawnL (Q := fun q => ∃ x, q = .str x ∧ Nme x) (by rw [List.length_map]; exact List.length_pos_iff.mpr hl) (sizeBig (by rw [List.length_map]; omega)) fun q hq => ?_) fun y a5 b5 ⟨x, ey, hx⟩ h5 => ?_
      · obtain ⟨x, hx, rfl⟩ := List.mem_map.mp hq
        exact ⟨x, rfl, hN x hx⟩
      · subst ey
        have hmul : ∀ st, binO .Mult false st (.py (.tuple [.str x])) (io size) = .ok (.py (.tuple ((List.replicate size.toNat x).map .str))) st := fun st => by
          rw [mul_tup (by omega) (by omega) (by simp)]
          have : (List.replicate size.toNat [PyData.str x]).flatten = (List.replicate size.toNat x).map .str := by
            rw [List.map_replicate]
            induction size.toNat with
            | zero => rfl
            | succ k ih => rw [List.replicate_succ, List.flatten_cons, ih]; rfl
          rw [this]
        simp only [hmul, exec, ev, evs, tst, srcs, GS_seq, GS_thn, GS_nx, GS_bk, GS_ct, GS_rt, Gv_bind, Gv_ok, Gv_give, Gv_nox, Gv_req, GS_req, R.bind_ok, R.thn_ok, RS.thn_nx, giveS_some, start, List.map_cons, List.map_nil, List.length_cons, List.length_nil, List.cons_append, List.nil_append, List.append_nil, List.replicate_succ, List.replicate_zero, Nat.reduceAdd, Nat.reduceSub, env_z, env_s, dl_z, dl_s, selO, set_z, set_s, asg, Option.some.injEq, exists_eq_left', bi1, bi0, isAbs, WW.wipe, setAll, if_true, if_false, Bool.false_eq_true, reduceIte, biO, mtO, pre_upper, pre_join, Option.map_some, Option.bind_some, exists_eq_left, and_true, true_and, c_lt, c_le, c_gt, c_ge, t_bool, t_int, b_add, b_sub, b_mul, b_div, b_mod, GS_ost, p_int, newL_t, newL_f, allPy_cons, allPy_nil, allPy_map, slc_tup, sset_z, sset_s, sto_z, sto_s, mkT, sizeBig, Nat.reduceLeDiff, Int.reduceLT, Int.reduceLE, decide_true, decide_false, ↓reduceIte, tyOk, subTy, List.all_cons, List.all_nil, List.any_cons, List.any_nil, beq_self_eq_true, Bool.true_or, Bool.or_false, Bool.false_or, Bool.and_true, Bool.true_and, Bool.or_true, String.reduceBEq, Bool.and_false, Bool.false_and]
        refine ⟨_, rfl, ⟨_, rfl, by rw [List.length_replicate]; omega, fun z hz => ?_⟩, a5, b5, h5, rfl⟩
        rw [(List.mem_replicate.mp hz).2]; exact hx
    · simp only [w1, eq_int, pairsO, new1, mergeD, List.foldl_nil, exec, ev, evs, tst, srcs, GS_seq, GS_thn, GS_nx, GS_bk, GS_ct, GS_rt, Gv_bind, Gv_ok, Gv_give, Gv_nox, Gv_req, GS_req, R.bind_ok, R.thn_ok, RS.thn_nx, giveS_some, start, List.map_cons, List.map_nil, List.length_cons, List.length_nil, List.cons_append, List.nil_append, List.append_nil, List.replicate_succ, List.replicate_zero, Nat.reduceAdd, Nat.reduceSub, env_z, env_s, dl_z, dl_s, selO, set_z, set_s, asg, Option.some.injEq, exists_eq_left', bi1, bi0, isAbs, WW.wipe, setAll, if_true, if_false, Bool.false_eq_true, reduceIte, biO, mtO, pre_upper, pre_join, Option.map_some, Option.bind_some, exists_eq_left, and_true, true_and, c_lt, c_le, c_gt, c_ge, t_bool, t_int, b_add, b_sub, b_mul, b_div, b_mod, GS_ost, p_int, newL_t, newL_f, allPy_cons, allPy_nil, allPy_map, slc_tup, sset_z, sset_s, sto_z, sto_s, mkT, sizeBig, Nat.reduceLeDiff, Int.reduceLT, Int.reduceLE, decide_true, decide_false, ↓reduceIte, tyOk, subTy, List.all_cons, List.all_nil, List.any_cons, List.any_nil, beq_self_eq_true, Bool.true_or, Bool.or_false, Bool.false_or, Bool.and_true, Bool.true_and, Bool.or_true, String.reduceBEq, Bool.and_false, Bool.false_and]
      refine ⟨_, rfl, ?_⟩
      refine g_take dr_row.t rfl h3 hn (by omega) fun here a4 b4 q0 q1 h4 => ?_
      refine ⟨_, rfl, _, rfl, ?_⟩
      simp only [lock_no, exec, ev, evs, tst, srcs, GS_seq, GS_thn, GS_nx, GS_bk, GS_ct, GS_rt, Gv_bind, Gv_ok, Gv_give, Gv_nox, Gv_req, GS_req, R.bind_ok, R.thn_ok, RS.thn_nx, giveS_some, start, List.map_cons, List.map_nil, List.length_cons, List.length_nil, List.cons_append, List.nil_append, List.append_nil, List.replicate_succ, List.replicate_zero, Nat.reduceAdd, Nat.reduceSub, env_z, env_s, dl_z, dl_s, selO, set_z, set_s, asg, Option.some.injEq, exists_eq_left', bi1, bi0, isAbs, WW.wipe, setAll, if_true, if_false, Bool.false_eq_true, reduceIte, biO, mtO, pre_upper, pre_join, Option.map_some, Option.bind_some, exists_eq_left, and_true, true_and, c_lt, c_le, c_gt, c_ge, t_bool, t_int, b_add, b_sub, b_mul, b_div, b_mod, GS_ost, p_int, newL_t, newL_f, allPy_cons, allPy_nil, allPy_map, slc_tup, sset_z, sset_s, sto_z, sto_s, mkT, sizeBig, Nat.reduceLeDiff, Int.reduceLT, Int.reduceLE, decide_true, decide_false, ↓reduceIte, tyOk, subTy, List.all_cons, List.all_nil, List.any_cons, List.any_nil, beq_self_eq_true, Bool.true_or, Bool.or_false, Bool.false_or, Bool.and_true, Bool.true_and, Bool.or_true, String.reduceBEq, Bool.and_false, Bool.false_and]
      rw [zipD_py, zip_way, List.map_map]
      refine GS.mid (fun env st1 => ∃ l e9 e10 a b, potOk a b ∧ (∀ k v, look l (.inl k) = some v → WayOf v 100000) ∧ env = [some (.loc 0), some (.py (.list (names.map .str))), some (.py (webP n ps)), some (.py (.tuple (ws.map .int))), some (io way), some (io size), some (.loc 1), some (io here), some (.loc 2), e9, e10, none, none] ∧ st1 = [.lst [io a, io b], .dK (pyv l), .lst []]) ?_ fun env st1 ⟨l, e9, e10, a5, b5, h5, g1, e1, e2⟩ => ?_
      · refine for_ok (fun j env st1 => ∃ l e9 e10 a b, potOk a b ∧ l.length ≤ j ∧ (∀ k v, look l (.inl k) = some v → WayOf v j) ∧ env = [some (.loc 0), some (.py (.list (names.map .str))), some (.py (webP n ps)), some (.py (.tuple (ws.map .int))), some (io way), some (io size), some (.loc 1), some (io here), some (.loc 2), e9, e10, none, none] ∧ st1 = [.lst [io a, io b], .dK (pyv l), .lst []])
          ⟨[], none, none, a4, b4, h4, Nat.le_refl _, (fun _ _ h => nomatch h), rfl, rfl⟩ (fun i env st _ => still_nil _) (fun j x env st1 hx h => ?_) fun env st1 h => ?_
        · obtain ⟨l, e9, e10, a5, b5, h5, g0, g1, rfl, rfl⟩ := h
          have hj : j < (ps.zip ws).length := by have := (List.getElem?_eq_some_iff.mp hx).1; rw [List.length_map] at this; exact this
          have hj2 : j < 100000 := by rw [List.length_zip] at hj; omega
          rw [List.getElem?_map] at hx
          obtain ⟨⟨p, w⟩, hpw, rfl⟩ := Option.map_eq_some_iff.mp hx
          have hp' := hps p (List.of_mem_zip (List.mem_of_getElem? hpw)).1
          refine ⟨_, rfl, ?_⟩
          unfold b1_law_row
          have hg : getS [SO.lst [io a5, io b5], .dK (pyv l), .lst []] 1 = some (.dK (pyv l)) := rfl
          have hcat : ∀ st, binO .Add false st (.py ((look l (.inl p.c)).getD (.list []))) (.py (.list [.tuple [.str p.nm, .int w]])) = .ok (.py (.list ((match look l (.inl p.c) with | some (.list xs) => xs | _ => []) ++ [.tuple [.str p.nm, .int w]]))) st := fun st => by
            cases hl : look l (.inl p.c) with
            | none => exact cat_lst (by simp)
            | some v =>
              obtain ⟨xs, rfl, _, k2, _⟩ := g1 _ _ hl
              exact cat_lst (by simp; omega)
          have hi0 : ∀ st, idxO st (.py p.py) (io 0) = some (io p.c) := fun _ => rfl
          have hi1 : ∀ st, idxO st (.py p.py) (io 1) = some (so p.nm) := fun _ => rfl
          have hset := set_dK (st := [SO.lst [io a5, io b5], .dK (pyv l), .lst []]) (n := 1) (l := l) (i := p.c) (w := .list ((match look l (.inl p.c) with | some (.list xs) => xs | _ => []) ++ [.tuple [.str p.nm, .int w]])) rfl (by omega)
          simp only [Function.comp, hi0, hi1, get2_dK hg, hcat, hset, exec, ev, evs, tst, srcs, GS_seq, GS_thn, GS_nx, GS_bk, GS_ct, GS_rt, Gv_bind, Gv_ok, Gv_give, Gv_nox, Gv_req, GS_req, R.bind_ok, R.thn_ok, RS.thn_nx, giveS_some, start, List.map_cons, List.map_nil, List.length_cons, List.length_nil, List.cons_append, List.nil_append, List.append_nil, List.replicate_succ, List.replicate_zero, Nat.reduceAdd, Nat.reduceSub, env_z, env_s, dl_z, dl_s, selO, set_z, set_s, asg, Option.some.injEq, exists_eq_left', bi1, bi0, isAbs, WW.wipe, setAll, if_true, if_false, Bool.false_eq_true, reduceIte, biO, mtO, pre_upper, pre_join, Option.map_some, Option.bind_some, exists_eq_left, and_true, true_and, c_lt, c_le, c_gt, c_ge, t_bool, t_int, b_add, b_sub, b_mul, b_div, b_mod, GS_ost, p_int, newL_t, newL_f, allPy_cons, allPy_nil, allPy_map, slc_tup, sset_z, sset_s, sto_z, sto_s, mkT, sizeBig, Nat.reduceLeDiff, Int.reduceLT, Int.reduceLE, decide_true, decide_false, ↓reduceIte, tyOk, subTy, List.all_cons, List.all_nil, List.any_cons, List.any_nil, beq_self_eq_true, Bool.true_or, Bool.or_false, Bool.false_or, Bool.and_true, Bool.true_and, Bool.or_true, String.reduceBEq, Bool.and_false, Bool.false_and]
          refine ⟨pre_get hg, _, _, _, a5, b5, h5, ?_, ?_, rfl, rfl⟩
          · have := put_len l (.inl p.c) (.list ((match look l (.inl p.c) with | some (.list xs) => xs | _ => []) ++ [.tuple [.str p.nm, .int w]])); omega
          · intro k v hk
            rw [look_put] at hk
            split at hk
            · cases hk
              refine ⟨_, rfl, by simp, ?_, fun q hq => ?_⟩
              · rw [List.length_append, List.length_singleton]
                cases hl : look l (.inl p.c) with
                | none => simp
                | some v =>
                  obtain ⟨xs, rfl, _, k2, _⟩ := g1 _ _ hl
                  simp only; omega
              · rcases List.mem_append.mp hq with hq | hq
                · cases hl : look l (.inl p.c) with
                  | none => rw [hl] at hq; cases hq
                  | some v =>
                    rw [hl] at hq
                    obtain ⟨xs, rfl, _, k2, k3⟩ := g1 _ _ hl
                    exact k3 q hq
                · rw [List.mem_singleton.mp hq]; exact ⟨_, _, rfl, hN _ hp'.nm⟩
            · obtain ⟨xs, e, k1, k2, k3⟩ := g1 _ _ hk
              exact ⟨xs, e, k1, by omega, k3⟩
        · obtain ⟨l, e9, e10, a5, b5, h5, g0, g1, rfl, rfl⟩ := h
          refine ⟨l, e9, e10, a5, b5, h5, fun k v hk => ?_, rfl, rfl⟩
          obtain ⟨xs, e, k1, k2, k3⟩ := g1 _ _ hk
          refine ⟨xs, e, k1, ?_, k3⟩
          rw [List.length_map, List.length_zip] at k2
          omega
      · subst e1; subst e2
        refine GS.mid (fun env st1 => ∃ (found : List Str) (e7 e9 e10 e11 : Option D) (a b : Int), potOk a b ∧ found.length ≤ 40 ∧ (∀ x ∈ found, Nme x) ∧ env = [some (.loc 0), some (.py (.list (names.map .str))), some (.py (webP n ps)), some (.py (.tuple (ws.map .int))), some (io way), some (io size), some (.loc 1), e7, some (.loc 2), e9, e10, e11, none] ∧ st1 = [.lst [io a, io b], .dK (pyv l), .lst ((found.map .str).map .py)]) ?_ fun env st1 ⟨found, e7, e9, e10, e11, a6, b6, h6, f1, f2, e1, e2⟩ => ?_
        · refine wh_ok (fun m env st1 => ∃ (found : List Str) (h : Int) (e9 e10 e11 : Option D) (a b : Int), m + found.length = 40 ∧ potOk a b ∧ (∀ x ∈ found, Nme x) ∧ env = [some (.loc 0), some (.py (.list (names.map .str))), some (.py (webP n ps)), some (.py (.tuple (ws.map .int))), some (io way), some (io size), some (.loc 1), some (io h), some (.loc 2), e9, e10, e11, none] ∧ st1 = [.lst [io a, io b], .dK (pyv l), .lst ((found.map .str).map .py)]) (fun m env st1 hI => ?_) 40 _ _ ⟨[], here, e9, e10, none, a5, b5, rfl, h5, (fun _ h => nomatch h), rfl, rfl⟩
          obtain ⟨found, h, e9, e10, e11, a6, b6, f0, h6, f1, rfl, rfl⟩ := hI
          have hg1 : getS [SO.lst [io a6, io b6], .dK (pyv l), .lst ((found.map PyData.str).map .py)] 1 = some (.dK (pyv l)) := rfl
          have hg2 : getS [SO.lst [io a6, io b6], .dK (pyv l), .lst ((found.map PyData.str).map .py)] 2 = some (.lst ((found.map PyData.str).map .py)) := rfl
          simp only [len_loc hg2, List.length_map, bi_min, in_dK hg1, exec, ev, evs, tst, srcs, GS_seq, GS_thn, GS_nx, GS_bk, GS_ct, GS_rt, Gv_bind, Gv_ok, Gv_give, Gv_nox, Gv_req, GS_req, R.bind_ok, R.thn_ok, RS.thn_nx, giveS_some, start, List.map_cons, List.map_nil, List.length_cons, List.length_nil, List.cons_append, List.nil_append, List.append_nil, List.replicate_succ, List.replicate_zero, Nat.reduceAdd, Nat.reduceSub, env_z, env_s, dl_z, dl_s, selO, set_z, set_s, asg, Option.some.injEq, exists_eq_left', bi1, bi0, isAbs, WW.wipe, setAll, if_true, if_false, Bool.false_eq_true, reduceIte, biO, mtO, pre_upper, pre_join, Option.map_some, Option.bind_some, exists_eq_left, and_true, true_and, c_lt, c_le, c_gt, c_ge, t_bool, t_int, b_add, b_sub, b_mul, b_div, b_mod, GS_ost, p_int, newL_t, newL_f, allPy_cons, allPy_nil, allPy_map, slc_tup, sset_z, sset_s, sto_z, sto_s, mkT, sizeBig, Nat.reduceLeDiff, Int.reduceLT, Int.reduceLE, decide_true, decide_false, ↓reduceIte, tyOk, subTy, List.all_cons, List.all_nil, List.any_cons, List.any_nil, beq_self_eq_true, Bool.true_or, Bool.or_false, Bool.false_or, Bool.and_true, Bool.true_and, Bool.or_true, String.reduceBEq, Bool.and_false, Bool.false_and]
          by_cases hlt : (found.length : Int) < (if (40 : Int) < size then 40 else size)
          · have hf40 : found.length < 40 := by split at hlt <;> omega
            cases hw : look l (.inl h) with
            | none =>
              simp only [hlt, Option.isSome_none, exec, ev, evs, tst, srcs, GS_seq, GS_thn, GS_nx, GS_bk, GS_ct, GS_rt, Gv_bind, Gv_ok, Gv_give, Gv_nox, Gv_req, GS_req, R.bind_ok, R.thn_ok, RS.thn_nx, giveS_some, start, List.map_cons, List.map_nil, List.length_cons, List.length_nil, List.cons_append, List.nil_append, List.append_nil, List.replicate_succ, List.replicate_zero, Nat.reduceAdd, Nat.reduceSub, env_z, env_s, dl_z, dl_s, selO, set_z, set_s, asg, Option.some.injEq, exists_eq_left', bi1, bi0, isAbs, WW.wipe, setAll, if_true, if_false, Bool.false_eq_true, reduceIte, biO, mtO, pre_upper, pre_join, Option.map_some, Option.bind_some, exists_eq_left, and_true, true_and, c_lt, c_le, c_gt, c_ge, t_bool, t_int, b_add, b_sub, b_mul, b_div, b_mod, GS_ost, p_int, newL_t, newL_f, allPy_cons, allPy_nil, allPy_map, slc_tup, sset_z, sset_s, sto_z, sto_s, mkT, sizeBig, Nat.reduceLeDiff, Int.reduceLT, Int.reduceLE, decide_true, decide_false, ↓reduceIte, tyOk, subTy, List.all_cons, List.all_nil, List.any_cons, List.any_nil, beq_self_eq_true, Bool.true_or, Bool.or_false, Bool.false_or, Bool.and_true, Bool.true_and, Bool.or_true, String.reduceBEq, Bool.and_false, Bool.false_and]
              exact ⟨found, _, _, _, _, a6, b6, h6, by omega, f1, rfl, rfl⟩
            | some v =>
              obtain ⟨xs, rfl, k1, k2, k3⟩ := g1 _ _ hw
              simp only [hlt, Option.isSome_some, idx_dK hg1, hw, exec, ev, evs, tst, srcs, GS_seq, GS_thn, GS_nx, GS_bk, GS_ct, GS_rt, Gv_bind, Gv_ok, Gv_give, Gv_nox, Gv_req, GS_req, R.bind_ok, R.thn_ok, RS.thn_nx, giveS_some, start, List.map_cons, List.map_nil, List.length_cons, List.length_nil, List.cons_append, List.nil_append, List.append_nil, List.replicate_succ, List.replicate_zero, Nat.reduceAdd, Nat.reduceSub, env_z, env_s, dl_z, dl_s, selO, set_z, set_s, asg, Option.some.injEq, exists_eq_left', bi1, bi0, isAbs, WW.wipe, setAll, if_true, if_false, Bool.false_eq_true, reduceIte, biO, mtO, pre_upper, pre_join, Option.map_some, Option.bind_some, exists_eq_left, and_true, true_and, c_lt, c_le, c_gt, c_ge, t_bool, t_int, b_add, b_sub, b_mul, b_div, b_mod, GS_ost, p_int, newL_t, newL_f, allPy_cons, allPy_nil, allPy_map, slc_tup, sset_z, sset_s, sto_z, sto_s, mkT, sizeBig, Nat.reduceLeDiff, Int.reduceLT, Int.reduceLE, decide_true, decide_false, ↓reduceIte, tyOk, subTy, List.all_cons, List.all_nil, List.any_cons, List.any_nil, beq_self_eq_true, Bool.true_or, Bool.or_false, Bool.false_or, Bool.and_true, Bool.true_and, Bool.or_true, String.reduceBEq, Bool.and_false, Bool.false_and]
              refine g_of dr_row.o rfl h6 (drawnL (Q := fun q => ∃ nm w, q = .tuple [.str nm, .int w] ∧ Nme nm) (List.length_pos_iff.mpr k1) (sizeBig (by omega)) k3) fun y a7 b7 ⟨nm, w, ey, hnm⟩ h7 => ?_
              subst ey
              simp only [exec, ev, evs, tst, srcs, GS_seq, GS_thn, GS_nx, GS_bk, GS_ct, GS_rt, Gv_bind, Gv_ok, Gv_give, Gv_nox, Gv_req, GS_req, R.bind_ok, R.thn_ok, RS.thn_nx, giveS_some, start, List.map_cons, List.map_nil, List.length_cons, List.length_nil, List.cons_append, List.nil_append, List.append_nil, List.replicate_succ, List.replicate_zero, Nat.reduceAdd, Nat.reduceSub, env_z, env_s, dl_z, dl_s, selO, set_z, set_s, asg, Option.some.injEq, exists_eq_left', bi1, bi0, isAbs, WW.wipe, setAll, if_true, if_false, Bool.false_eq_true, reduceIte, biO, mtO, pre_upper, pre_join, Option.map_some, Option.bind_some, exists_eq_left, and_true, true_and, c_lt, c_le, c_gt, c_ge, t_bool, t_int, b_add, b_sub, b_mul, b_div, b_mod, GS_ost, p_int, newL_t, newL_f, allPy_cons, allPy_nil, allPy_map, slc_tup, sset_z, sset_s, sto_z, sto_s, mkT, sizeBig, Nat.reduceLeDiff, Int.reduceLT, Int.reduceLE, decide_true, decide_false, ↓reduceIte, tyOk, subTy, List.all_cons, List.all_nil, List.any_cons, List.any_nil, beq_self_eq_true, Bool.true_or, Bool.or_false, Bool.false_or, Bool.and_true, Bool.true_and, Bool.or_true, String.reduceBEq, Bool.and_false, Bool.false_and, asT_py, asgs, bi_min, bi_max, eq_int, ne_int, lock_no, bi_tup_lst, is_non, un_neg, len_tup, len_lst, List.length_map, idx_tup, idx_lst, new0, new1, new2, pairsO, mergeD, List.foldl_nil, Function.comp, list_tup]
              refine ⟨pre_append hg2, ?_⟩
              rw [mt_app (xs := (found.map PyData.str).map .py) rfl (by rw [List.length_map, List.length_map, sizeLine_eq]; omega)]
              simp only [exec, ev, evs, tst, srcs, GS_seq, GS_thn, GS_nx, GS_bk, GS_ct, GS_rt, Gv_bind, Gv_ok, Gv_give, Gv_nox, Gv_req, GS_req, R.bind_ok, R.thn_ok, RS.thn_nx, giveS_some, start, List.map_cons, List.map_nil, List.length_cons, List.length_nil, List.cons_append, List.nil_append, List.append_nil, List.replicate_succ, List.replicate_zero, Nat.reduceAdd, Nat.reduceSub, env_z, env_s, dl_z, dl_s, selO, set_z, set_s, asg, Option.some.injEq, exists_eq_left', bi1, bi0, isAbs, WW.wipe, setAll, if_true, if_false, Bool.false_eq_true, reduceIte, biO, mtO, pre_upper, pre_join, Option.map_some, Option.bind_some, exists_eq_left, and_true, true_and, c_lt, c_le, c_gt, c_ge, t_bool, t_int, b_add, b_sub, b_mul, b_div, b_mod, GS_ost, p_int, newL_t, newL_f, allPy_cons, allPy_nil, allPy_map, slc_tup, sset_z, sset_s, sto_z, sto_s, mkT, sizeBig, Nat.reduceLeDiff, Int.reduceLT, Int.reduceLE, decide_true, decide_false, ↓reduceIte, tyOk, subTy, List.all_cons, List.all_nil, List.any_cons, List.any_nil, beq_self_eq_true, Bool.true_or, Bool.or_false, Bool.false_or, Bool.and_true, Bool.true_and, Bool.or_true, String.reduceBEq, Bool.and_false, Bool.false_and, asT_py, asgs, bi_min, bi_max, eq_int, ne_int, lock_no, bi_tup_lst, is_non, un_neg, len_tup, len_lst, List.length_map, idx_tup, idx_lst, new0, new1, new2, pairsO, mergeD, List.foldl_nil, Function.comp, list_tup]
              refine ⟨m - 1, by omega, found ++ [nm], w, _, _, _, a7, b7, by rw [List.length_append, List.length_singleton]; omega, h7, fun x hx => ?_, rfl, ?_⟩
              · rcases List.mem_append.mp hx with hx | hx
                · exact f1 x hx
                · rw [List.mem_singleton.mp hx]; exact hnm
              · rw [List.map_append, List.map_append]; rfl
          · simp only [hlt, exec, ev, evs, tst, srcs, GS_seq, GS_thn, GS_nx, GS_bk, GS_ct, GS_rt, Gv_bind, Gv_ok, Gv_give, Gv_nox, Gv_req, GS_req, R.bind_ok, R.thn_ok, RS.thn_nx, giveS_some, start, List.map_cons, List.map_nil, List.length_cons, List.length_nil, List.cons_append, List.nil_append, List.append_nil, List.replicate_succ, List.replicate_zero, Nat.reduceAdd, Nat.reduceSub, env_z, env_s, dl_z, dl_s, selO, set_z, set_s, asg, Option.some.injEq, exists_eq_left', bi1, bi0, isAbs, WW.wipe, setAll, if_true, if_false, Bool.false_eq_true, reduceIte, biO, mtO, pre_upper, pre_join, Option.map_some, Option.bind_some, exists_eq_left, and_true, true_and, c_lt, c_le, c_gt, c_ge, t_bool, t_int, b_add, b_sub, b_mul, b_div, b_mod, GS_ost, p_int, newL_t, newL_f, allPy_cons, allPy_nil, allPy_map, slc_tup, sset_z, sset_s, sto_z, sto_s, mkT, sizeBig, Nat.reduceLeDiff, Int.reduceLT, Int.reduceLE, decide_true, decide_false, ↓reduceIte, tyOk, subTy, List.all_cons, List.all_nil, List.any_cons, List.any_nil, beq_self_eq_true, Bool.true_or, Bool.or_false, Bool.false_or, Bool.and_true, Bool.true_and, Bool.or_true, String.reduceBEq, Bool.and_false, Bool.false_and]
            exact ⟨found, _, _, _, _, a6, b6, h6, by omega, f1, rfl, rfl⟩
        · subst e1; subst e2
          have hg2 : getS [SO.lst [io a6, io b6], .dK (pyv l), .lst ((found.map PyData.str).map .py)] 2 = some (.lst ((found.map PyData.str).map .py)) := rfl
          simp only [bi_tup_loc hg2, exec, ev, evs, tst, srcs, GS_seq, GS_thn, GS_nx, GS_bk, GS_ct, GS_rt, Gv_bind, Gv_ok, Gv_give, Gv_nox, Gv_req, GS_req, R.bind_ok, R.thn_ok, RS.thn_nx, giveS_some, start, List.map_cons, List.map_nil, List.length_cons, List.length_nil, List.cons_append, List.nil_append, List.append_nil, List.replicate_succ, List.replicate_zero, Nat.reduceAdd, Nat.reduceSub, env_z, env_s, dl_z, dl_s, selO, set_z, set_s, asg, Option.some.injEq, exists_eq_left', bi1, bi0, isAbs, WW.wipe, setAll, if_true, if_false, Bool.false_eq_true, reduceIte, biO, mtO, pre_upper, pre_join, Option.map_some, Option.bind_some, exists_eq_left, and_true, true_and, c_lt, c_le, c_gt, c_ge, t_bool, t_int, b_add, b_sub, b_mul, b_div, b_mod, GS_ost, p_int, newL_t, newL_f, allPy_cons, allPy_nil, allPy_map, slc_tup, sset_z, sset_s, sto_z, sto_s, mkT, sizeBig, Nat.reduceLeDiff, Int.reduceLT, Int.reduceLE, decide_true, decide_false, ↓reduceIte, tyOk, subTy, List.all_cons, List.all_nil, List.any_cons, List.any_nil, beq_self_eq_true, Bool.true_or, Bool.or_false, Bool.false_or, Bool.and_true, Bool.true_and, Bool.or_true, String.reduceBEq, Bool.and_false, Bool.false_and]
          refine g_take dr_row.t rfl h6 (by decide) (by decide) fun r a7 b7 r0 r1 h7 => ?_
          have hk : ∃ k : Int, (1 + r * (if way = 3 then 1 else 0)) = k ∧ 1 ≤ k ∧ k ≤ 3 := by
            split <;> exact ⟨_, rfl, by omega, by omega⟩
          have e1 : biInt [SO.lst [io a7, io b7], .dK (pyv l), .lst ((found.map PyData.str).map .py)] (bo (decide (way = 3))) = .ok (io (if way = 3 then 1 else 0)) [SO.lst [io a7, io b7], .dK (pyv l), .lst ((found.map PyData.str).map .py)] := by
            by_cases h : way = 3 <;> simp [h, biInt]
          obtain ⟨k, ek, k0, k1⟩ := hk
          have hmk : mulOk r (if way = 3 then 1 else 0) = true := mulOk_of_lt (a := 2) (b := 2) (by omega) (by split <;> omega) (by decide) (by decide) (by decide)
          have hmul : ∀ st, binO .Mult false st (.py (.tuple (found.map .str))) (io k) = .ok (.py (.tuple (((List.replicate k.toNat found).flatten).map .str))) st := fun st => by
            rw [mul_tup (by omega) (by omega) (by rw [List.length_map]; omega), rep_map]
          simp only [e1, hmk, ek, hmul, exec, ev, evs, tst, srcs, GS_seq, GS_thn, GS_nx, GS_bk, GS_ct, GS_rt, Gv_bind, Gv_ok, Gv_give, Gv_nox, Gv_req, GS_req, R.bind_ok, R.thn_ok, RS.thn_nx, giveS_some, start, List.map_cons, List.map_nil, List.length_cons, List.length_nil, List.cons_append, List.nil_append, List.append_nil, List.replicate_succ, List.replicate_zero, Nat.reduceAdd, Nat.reduceSub, env_z, env_s, dl_z, dl_s, selO, set_z, set_s, asg, Option.some.injEq, exists_eq_left', bi1, bi0, isAbs, WW.wipe, setAll, if_true, if_false, Bool.false_eq_true, reduceIte, biO, mtO, pre_upper, pre_join, Option.map_some, Option.bind_some, exists_eq_left, and_true, true_and, c_lt, c_le, c_gt, c_ge, t_bool, t_int, b_add, b_sub, b_mul, b_div, b_mod, GS_ost, p_int, newL_t, newL_f, allPy_cons, allPy_nil, allPy_map, slc_tup, sset_z, sset_s, sto_z, sto_s, mkT, sizeBig, Nat.reduceLeDiff, Int.reduceLT, Int.reduceLE, decide_true, decide_false, ↓reduceIte, tyOk, subTy, List.all_cons, List.all_nil, List.any_cons, List.any_nil, beq_self_eq_true, Bool.true_or, Bool.or_false, Bool.false_or, Bool.and_true, Bool.true_and, Bool.or_true, String.reduceBEq, Bool.and_false, Bool.false_and, asT_py, asgs, bi_min, bi_max, eq_int, ne_int, lock_no, bi_tup_lst, is_non, un_neg, len_tup, len_lst, List.length_map, idx_tup, idx_lst, new0, new1, new2, pairsO, mergeD, List.foldl_nil, Function.comp, list_tup]
          refine ⟨_, rfl, ⟨_, rfl, ?_, fun x hx => f2 x (mem_rep hx)⟩, a7, b7, h7, rfl⟩
          rw [rep_len]
          have : k.toNat * found.length ≤ 3 * 40 := Nat.mul_le_mul (by omega) f1
          omega⟩
theorem dt_right : Dt T_law_right 1 := ⟨_, rfl⟩
theorem dict_ways {st : Store} {l : List (Po × Int)} : biDictT st (.py (.list (l.map fun (pw : Po × Int) => .tuple [.tuple [.int pw.1.c, .str pw.1.nm], .int pw.2]))) = .ok (.loc st.length) (st ++ [.dT (pyv (waysOf l))]) := by
  have e1 : ∀ l : List (Po × Int), ofPT ((l.map fun (pw : Po × Int) => PyData.tuple [.tuple [.int pw.1.c, .str pw.1.nm], .int pw.2]).map D.py) = some (l.map fun (pw : Po × Int) => (wayK pw.1.c pw.1.nm, D.py (.int pw.2))) := by
    intro l
    induction l with
    | nil => rfl
    | cons x l ih =>
      rw [List.map_cons, List.map_cons]
      unfold ofPT
      show (match some (DK.many (wayK x.1.c x.1.nm)) with | some (.many q) => (ofPT ((l.map fun (pw : Po × Int) => PyData.tuple [.tuple [.int pw.1.c, .str pw.1.nm], .int pw.2]).map D.py)).map ((q, D.py (.int x.2)) :: ·) | _ => none) = _
      rw [ih]; rfl
  have e2 : ∀ (l : List (Po × Int)) (acc : List (List Key × PyData)), (l.map fun (pw : Po × Int) => (wayK pw.1.c pw.1.nm, D.py (.int pw.2))).foldl (fun acc kv => put acc kv.1 kv.2) (pyv acc) = pyv (l.foldl (fun acc pw => put acc (wayK pw.1.c pw.1.nm) (.int pw.2)) acc) := by
    intro l
    induction l with
    | nil => intro acc; rfl
    | cons x l ih =>
      intro acc
      rw [List.map_cons, List.foldl_cons, List.foldl_cons, put_pyv, ih]
  simp only [biDictT, asL, Option.bind_some, e1]
  unfold mergeT
  rw [show ([] : List (List Key × D)) = pyv [] from rfl, e2]
  rfl
/-! what is due -/
def wholeL (W : List (List Key × PyData)) (n : Int) (row : List Str) : List Int := ((List.range n.toNat).map fun (i : Nat) => (i : Int)).filter fun c => decide ((goneL W c row).length = row.length + 1)
def dueL (W : List (List Key × PyData)) (n : Int) (row : List Str) (g : Option (List Int)) : List Int := (wholeL W n row).filter fun c => g.isNone || decide ((goneL W c row).getLastD 0 ∈ g.getD [])
theorem getLastD_mem {xs : List Int} (h : xs ≠ []) : xs.getLastD 0 ∈ xs := by
  cases xs with
  | nil => exact absurd rfl h
  | cons a b => rw [List.getLastD_cons]; cases b with
    | nil => simp
    | cons c d => simp only [List.getLastD_cons]; exact List.mem_cons_of_mem _ (by
        have : ∀ (x : Int) (l : List Int), l.getLastD x ∈ x :: l := by
          intro x l
          induction l generalizing x with
          | nil => simp
          | cons y l ih => rw [List.getLastD_cons]; exact List.mem_cons_of_mem _ (ih y)
        exact this c d)
theorem goneL_rng {W : List (List Key × PyData)} {n : Int} (hW : ∀ c nm q, wayAt W c nm = some q → ∃ w, q = .int w ∧ 0 ≤ w ∧ w < n) : ∀ {c : Int} {row : List Str}, 0 ≤ c → c < n → ∀ x ∈ goneL W c row, 0 ≤ x ∧ x < n
  | c, [], h0, h1, x, hx => by rw [List.mem_singleton.mp (show x ∈ [c] from hx)]; exact ⟨h0, h1⟩
  | c, y :: row, h0, h1, x, hx => by
    unfold goneL at hx
    split at hx
    · rw [List.mem_singleton.mp hx]; exact ⟨h0, h1⟩
    · rename_i q hq
      obtain ⟨w, rfl, w0, w1⟩ := hW _ _ _ hq
      rcases List.mem_cons.mp hx with rfl | hx
      · exact ⟨h0, h1⟩
      · exact goneL_rng hW (row := row) w0 w1 x hx
theorem starts_due {W : List (List Key × PyData)} {n : Int} {row : List Str} (hn : 0 ≤ n) (hW : ∀ c nm q, wayAt W c nm = some q → ∃ w, q = .int w ∧ 0 ≤ w ∧ w < n) (g : Option (List Int)) : startsL W n row (endsL n g) = dueL W n row g := by
  unfold startsL dueL wholeL
  rw [List.filter_filter]
  apply List.filter_congr
  intro c hc
  obtain ⟨i, hi, rfl⟩ := List.mem_map.mp hc
  rw [List.mem_range] at hi
  cases g with
  | none =>
    have h1 := goneL_rng hW (c := (i : Int)) (row := row) (by omega) (by omega) _ (getLastD_mem (goneL_ne W (i : Int) row))
    have h2 : (goneL W (i : Int) row).getLastD 0 ∈ endsL n none := by
      unfold endsL
      refine List.mem_map.mpr ⟨((goneL W (i : Int) row).getLastD 0).toNat, List.mem_range.mpr (by omega), by omega⟩
    rw [decide_eq_true h2]; simp
  | some gs => simp [endsL, Bool.and_comm]
theorem due_none (W : List (List Key × PyData)) (n : Int) (row : List Str) : dueL W n row none = wholeL W n row := by
  unfold dueL
  rw [List.filter_eq_self]
  intro a _; rfl
theorem starts_nil (W : List (List Key × PyData)) (n : Int) (row : List Str) : startsL W n row [] = [] := by
  unfold startsL
  rw [List.filter_eq_nil_iff]
  intro a _
  simp
theorem l4_ev {Φ : Nat → Fn} {n : Int} {ps : List Po} {ws : List Int} {e0 e3 e4 e5 e6 e7 e8 e9 e10 e11 e12 e13 : Option D} {st : Store} (hz : ps.length ≤ 100000) :
    ev Φ l4_law_right [e0, some (.py (webP n ps)), some (.py (.tuple (ws.map .int))), e3, e4, e5, e6, e7, e8, e9, e10, e11, e12, e13] st = .ok (.py (.list ((ps.zip ws).map fun pw => .tuple [.tuple [.int pw.1.c, .str pw.1.nm], .int pw.2]))) st := by
  unfold l4_law_right
  refine Gv.val ?_
  refine lc_gen ?_
  simp only [webP, exec, ev, evs, tst, srcs, GS_seq, GS_thn, GS_nx, GS_bk, GS_ct, GS_rt, Gv_bind, Gv_ok, Gv_give, Gv_nox, Gv_req, GS_req, R.bind_ok, R.thn_ok, RS.thn_nx, giveS_some, start, List.map_cons, List.map_nil, List.length_cons, List.length_nil, List.cons_append, List.nil_append, List.append_nil, List.replicate_succ, List.replicate_zero, Nat.reduceAdd, Nat.reduceSub, env_z, env_s, dl_z, dl_s, selO, set_z, set_s, asg, Option.some.injEq, exists_eq_left', bi1, bi0, isAbs, WW.wipe, setAll, if_true, if_false, Bool.false_eq_true, reduceIte, biO, mtO, pre_upper, pre_join, Option.map_some, Option.bind_some, exists_eq_left, and_true, true_and, c_lt, c_le, c_gt, c_ge, t_bool, t_int, b_add, b_sub, b_mul, b_div, b_mod, GS_ost, p_int, newL_t, newL_f, allPy_cons, allPy_nil, allPy_map, slc_tup, sset_z, sset_s, sto_z, sto_s, mkT, sizeBig, Nat.reduceLeDiff, Int.reduceLT, Int.reduceLE, decide_true, decide_false, ↓reduceIte, tyOk, subTy, List.all_cons, List.all_nil, List.any_cons, List.any_nil, beq_self_eq_true, Bool.true_or, Bool.or_false, Bool.false_or, Bool.and_true, Bool.true_and, Bool.or_true, String.reduceBEq, Bool.and_false, Bool.false_and, asT_py, asgs, bi_min, bi_max, eq_int, ne_int, lock_no, bi_tup_lst, is_non, un_neg, len_tup, len_lst, List.length_map, idx_tup, idx_lst, new0, new1, new2, pairsO, mergeD, List.foldl_nil, Function.comp, list_tup]
  refine ⟨_, rfl, _, rfl, rfl, rfl, ?_⟩
  rw [zipD_py, zip_way, List.map_map]
  refine ⟨by rw [List.length_map, List.length_zip]; exact sizeBig (by omega), fun i st1 acc => st1 = st ∧ acc = ((ps.zip ws).take i).map fun pw => .tuple [.tuple [.int pw.1.c, .str pw.1.nm], .int pw.2], ⟨rfl, rfl⟩, fun i st acc ⟨_, e⟩ => by rw [e, List.length_map, List.length_take]; omega, fun i x st1 acc hx ⟨e1, e2⟩ => ?_, fun st1 acc ⟨e1, e2⟩ => ?_⟩
  · rw [List.getElem?_map] at hx
    obtain ⟨⟨p, w⟩, hp, rfl⟩ := Option.map_eq_some_iff.mp hx
    subst e1
    refine ⟨_, rfl, ?_⟩
    have h0 : ∀ st, idxO st (.py p.py) (io 0) = some (io p.c) := fun _ => rfl
    have h1 : ∀ st, idxO st (.py p.py) (io 1) = some (so p.nm) := fun _ => rfl
    simp only [h0, h1, exec, ev, evs, tst, srcs, GS_seq, GS_thn, GS_nx, GS_bk, GS_ct, GS_rt, Gv_bind, Gv_ok, Gv_give, Gv_nox, Gv_req, GS_req, R.bind_ok, R.thn_ok, RS.thn_nx, giveS_some, start, List.map_cons, List.map_nil, List.length_cons, List.length_nil, List.cons_append, List.nil_append, List.append_nil, List.replicate_succ, List.replicate_zero, Nat.reduceAdd, Nat.reduceSub, env_z, env_s, dl_z, dl_s, selO, set_z, set_s, asg, Option.some.injEq, exists_eq_left', bi1, bi0, isAbs, WW.wipe, setAll, if_true, if_false, Bool.false_eq_true, reduceIte, biO, mtO, pre_upper, pre_join, Option.map_some, Option.bind_some, exists_eq_left, and_true, true_and, c_lt, c_le, c_gt, c_ge, t_bool, t_int, b_add, b_sub, b_mul, b_div, b_mod, GS_ost, p_int, newL_t, newL_f, allPy_cons, allPy_nil, allPy_map, slc_tup, sset_z, sset_s, sto_z, sto_s, mkT, sizeBig, Nat.reduceLeDiff, Int.reduceLT, Int.reduceLE, decide_true, decide_false, ↓reduceIte, tyOk, subTy, List.all_cons, List.all_nil, List.any_cons, List.any_nil, beq_self_eq_true, Bool.true_or, Bool.or_false, Bool.false_or, Bool.and_true, Bool.true_and, Bool.or_true, String.reduceBEq, Bool.and_false, Bool.false_and, asT_py, asgs, bi_min, bi_max, eq_int, ne_int, lock_no, bi_tup_lst, is_non, un_neg, len_tup, len_lst, List.length_map, idx_tup, idx_lst, new0, new1, new2, pairsO, mergeD, List.foldl_nil, Function.comp, list_tup]
    refine ⟨_, rfl, ?_⟩
    rw [List.take_add_one, hp, e2, List.map_append]; rfl
  · rw [List.length_map, List.take_length] at e2
    exact ⟨by rw [e2], e1⟩
theorem rng_gen {Φ : Nat → Fn} {n : Int} {ps : List Po} (hn : 0 ≤ n) (hn2 : n ≤ 1000) {a : CE} {env : Env} {st : Store} (ha : ev Φ a env st = .ok (.py (webP n ps)) st) : srcs Φ (.rng (.cons (.idx a (.con (.int 0))) (.nil))) env st = .ok { its := rngI 0 n.toNat } st := by
  refine Gv.val ?_
  simp only [ha, exec, ev, evs, tst, srcs, GS_seq, GS_thn, GS_nx, GS_bk, GS_ct, GS_rt, Gv_bind, Gv_ok, Gv_give, Gv_nox, Gv_req, GS_req, R.bind_ok, R.thn_ok, RS.thn_nx, giveS_some, start, List.map_cons, List.map_nil, List.length_cons, List.length_nil, List.cons_append, List.nil_append, List.append_nil, List.replicate_succ, List.replicate_zero, Nat.reduceAdd, Nat.reduceSub, env_z, env_s, dl_z, dl_s, selO, set_z, set_s, asg, Option.some.injEq, exists_eq_left', bi1, bi0, isAbs, WW.wipe, setAll, if_true, if_false, Bool.false_eq_true, reduceIte, biO, mtO, pre_upper, pre_join, Option.map_some, Option.bind_some, exists_eq_left, and_true, true_and, c_lt, c_le, c_gt, c_ge, t_bool, t_int, b_add, b_sub, b_mul, b_div, b_mod, GS_ost, p_int, newL_t, newL_f, allPy_cons, allPy_nil, allPy_map, slc_tup, sset_z, sset_s, sto_z, sto_s, mkT, sizeBig, Nat.reduceLeDiff, Int.reduceLT, Int.reduceLE, decide_true, decide_false, ↓reduceIte, tyOk, subTy, List.all_cons, List.all_nil, List.any_cons, List.any_nil, beq_self_eq_true, Bool.true_or, Bool.or_false, Bool.false_or, Bool.and_true, Bool.true_and, Bool.or_true, String.reduceBEq, Bool.and_false, Bool.false_and, asT_py, asgs, bi_min, bi_max, eq_int, ne_int, lock_no, bi_tup_lst, is_non, un_neg, len_tup, len_lst, List.length_map, idx_tup, idx_lst, new0, new1, new2, pairsO, mergeD, List.foldl_nil, Function.comp, list_tup]
  exact ⟨_, rfl, _, rng_its hn (by omega), rfl⟩
theorem l3_ev {n : Int} {ps : List Po} {row : List Str} {W : List (List Key × PyData)} {e0 e2 e5 e6 e7 e8 e9 e10 e11 e12 e13 : Option D} {st : Store} (hn : 0 ≤ n) (hn2 : n ≤ 1000) (hr : row.length ≤ 100000) (hints : ∀ c nm q, wayAt W c nm = some q → ∃ w, q = .int w) (hst : st[1]? = some (.dT (pyv W))) :
    ev T_law_right l3_law_right [e0, some (.py (webP n ps)), e2, some (.py (.tuple (row.map .str))), some (.loc 1), e5, e6, e7, e8, e9, e10, e11, e12, e13] st = .ok (.py (.list ((List.range n.toNat).map fun (c : Nat) => .list ((goneL W (c : Int) row).map .int)))) st := by
  unfold l3_law_right
  refine Gv.val ?_
  refine lc_gen ?_
  rw [rng_gen hn hn2 (ps := ps) (by rw [ev]; rfl)]
  refine ⟨rfl, rfl, by rw [rngI_len]; exact sizeBig (by omega), fun i st1 acc => st1 = st ∧ acc = (List.range i).map fun (c : Nat) => .list ((goneL W (c : Int) row).map .int), ⟨rfl, rfl⟩, fun i st acc ⟨_, e⟩ => by rw [e, List.length_map, List.length_range]; omega, fun i x st1 acc hx ⟨e1, e2⟩ => ?_, fun st1 acc ⟨e1, e2⟩ => ?_⟩
  · obtain ⟨hi, rfl⟩ := rngI_get hx
    subst e1
    refine ⟨_, rfl, ?_⟩
    simp only [exec, ev, evs, tst, srcs, GS_seq, GS_thn, GS_nx, GS_bk, GS_ct, GS_rt, Gv_bind, Gv_ok, Gv_give, Gv_nox, Gv_req, GS_req, R.bind_ok, R.thn_ok, RS.thn_nx, giveS_some, start, List.map_cons, List.map_nil, List.length_cons, List.length_nil, List.cons_append, List.nil_append, List.append_nil, List.replicate_succ, List.replicate_zero, Nat.reduceAdd, Nat.reduceSub, env_z, env_s, dl_z, dl_s, selO, set_z, set_s, asg, Option.some.injEq, exists_eq_left', bi1, bi0, isAbs, WW.wipe, setAll, if_true, if_false, Bool.false_eq_true, reduceIte, biO, mtO, pre_upper, pre_join, Option.map_some, Option.bind_some, exists_eq_left, and_true, true_and, c_lt, c_le, c_gt, c_ge, t_bool, t_int, b_add, b_sub, b_mul, b_div, b_mod, GS_ost, p_int, newL_t, newL_f, allPy_cons, allPy_nil, allPy_map, slc_tup, sset_z, sset_s, sto_z, sto_s, mkT, sizeBig, Nat.reduceLeDiff, Int.reduceLT, Int.reduceLE, decide_true, decide_false, ↓reduceIte, tyOk, subTy, List.all_cons, List.all_nil, List.any_cons, List.any_nil, beq_self_eq_true, Bool.true_or, Bool.or_false, Bool.false_or, Bool.and_true, Bool.true_and, Bool.or_true, String.reduceBEq, Bool.and_false, Bool.false_and, asT_py, asgs, bi_min, bi_max, eq_int, ne_int, lock_no, bi_tup_lst, is_non, un_neg, len_tup, len_lst, List.length_map, idx_tup, idx_lst, new0, new1, new2, pairsO, mergeD, List.foldl_nil, Function.comp, list_tup]
    rw [show T_law_right 7 = F_law_gone from rfl, law_gone_call hr hints hst]
    simp only [exec, ev, evs, tst, srcs, GS_seq, GS_thn, GS_nx, GS_bk, GS_ct, GS_rt, Gv_bind, Gv_ok, Gv_give, Gv_nox, Gv_req, GS_req, R.bind_ok, R.thn_ok, RS.thn_nx, giveS_some, start, List.map_cons, List.map_nil, List.length_cons, List.length_nil, List.cons_append, List.nil_append, List.append_nil, List.replicate_succ, List.replicate_zero, Nat.reduceAdd, Nat.reduceSub, env_z, env_s, dl_z, dl_s, selO, set_z, set_s, asg, Option.some.injEq, exists_eq_left', bi1, bi0, isAbs, WW.wipe, setAll, if_true, if_false, Bool.false_eq_true, reduceIte, biO, mtO, pre_upper, pre_join, Option.map_some, Option.bind_some, exists_eq_left, and_true, true_and, c_lt, c_le, c_gt, c_ge, t_bool, t_int, b_add, b_sub, b_mul, b_div, b_mod, GS_ost, p_int, newL_t, newL_f, allPy_cons, allPy_nil, allPy_map, slc_tup, sset_z, sset_s, sto_z, sto_s, mkT, sizeBig, Nat.reduceLeDiff, Int.reduceLT, Int.reduceLE, decide_true, decide_false, ↓reduceIte, tyOk, subTy, List.all_cons, List.all_nil, List.any_cons, List.any_nil, beq_self_eq_true, Bool.true_or, Bool.or_false, Bool.false_or, Bool.and_true, Bool.true_and, Bool.or_true, String.reduceBEq, Bool.and_false, Bool.false_and, asT_py, asgs, bi_min, bi_max, eq_int, ne_int, lock_no, bi_tup_lst, is_non, un_neg, len_tup, len_lst, List.length_map, idx_tup, idx_lst, new0, new1, new2, pairsO, mergeD, List.foldl_nil, Function.comp, list_tup]
    refine ⟨_, rfl, ?_⟩
    rw [e2, List.range_succ, List.map_append]; rfl
  · rw [rngI_len] at e2
    exact ⟨by rw [e2], e1⟩
theorem come_at {W : List (List Key × PyData)} {n : Int} {row : List Str} {i : Nat} (hi : i < n.toNat) (st : Store) : idxO st (.py (.list ((List.range n.toNat).map fun (c : Nat) => .list ((goneL W (c : Int) row).map .int)))) (io (i : Int)) = some (.py (.list ((goneL W (i : Int) row).map .int))) := by
  rw [idx_lst, L2.atI_nat (j := i)]
  rw [List.map_map, List.getElem?_map, List.getElem?_range hi]; rfl
theorem come_atI {W : List (List Key × PyData)} {n : Int} {row : List Str} {i : Nat} (hi : i < n.toNat) : L2.atI (((List.range n.toNat).map fun (c : Nat) => PyData.list ((goneL W (c : Int) row).map .int)).map D.py) (i : Int) = some (.py (.list ((goneL W (i : Int) row).map .int))) := come_at hi []
theorem l2_ev {n : Int} {ps : List Po} {row : List Str} {W : List (List Key × PyData)} {e0 e2 e4 e6 e7 e8 e9 e10 e11 e12 e13 : Option D} {st : Store} (hn : 0 ≤ n) (hn2 : n ≤ 1000) :
    ev T_law_right l2_law_right [e0, some (.py (webP n ps)), e2, some (.py (.tuple (row.map .str))), e4, some (.py (.list ((List.range n.toNat).map fun (c : Nat) => .list ((goneL W (c : Int) row).map .int)))), e6, e7, e8, e9, e10, e11, e12, e13] st = .ok (.py (.list ((wholeL W n row).map .int))) st := by
  unfold l2_law_right
  refine Gv.val ?_
  refine lc_gen ?_
  rw [rng_gen hn hn2 (ps := ps) (by rw [ev]; rfl)]
  refine ⟨rfl, rfl, by rw [rngI_len]; exact sizeBig (by omega), fun i st1 acc => st1 = st ∧ acc = (wholeL W (i : Nat) row).map .int, ⟨rfl, rfl⟩, fun i st acc ⟨_, e⟩ => ?_, fun i x st1 acc hx ⟨e1, e2⟩ => ?_, fun st1 acc ⟨e1, e2⟩ => ?_⟩
  · rw [e, List.length_map]
    refine Nat.le_trans (List.length_filter_le _ _) ?_
    rw [List.length_map, List.length_range, Int.toNat_natCast]; exact Nat.le_refl _
  · obtain ⟨hi, rfl⟩ := rngI_get hx
    subst e1
    have hs : wholeL W ((i + 1 : Nat) : Int) row = wholeL W (i : Int) row ++ if (goneL W (i : Int) row).length = row.length + 1 then [(i : Int)] else [] := by
      unfold wholeL
      rw [Int.toNat_natCast, Int.toNat_natCast, List.range_succ, List.map_append, List.filter_append]
      congr 1
      by_cases h : (goneL W (i : Int) row).length = row.length + 1 <;> simp [h]
    refine ⟨_, rfl, ?_⟩
    simp only [come_at hi, exec, ev, evs, tst, srcs, GS_seq, GS_thn, GS_nx, GS_bk, GS_ct, GS_rt, Gv_bind, Gv_ok, Gv_give, Gv_nox, Gv_req, GS_req, R.bind_ok, R.thn_ok, RS.thn_nx, giveS_some, start, List.map_cons, List.map_nil, List.length_cons, List.length_nil, List.cons_append, List.nil_append, List.append_nil, List.replicate_succ, List.replicate_zero, Nat.reduceAdd, Nat.reduceSub, env_z, env_s, dl_z, dl_s, selO, set_z, set_s, asg, Option.some.injEq, exists_eq_left', bi1, bi0, isAbs, WW.wipe, setAll, if_true, if_false, Bool.false_eq_true, reduceIte, biO, mtO, pre_upper, pre_join, Option.map_some, Option.bind_some, exists_eq_left, and_true, true_and, c_lt, c_le, c_gt, c_ge, t_bool, t_int, b_add, b_sub, b_mul, b_div, b_mod, GS_ost, p_int, newL_t, newL_f, allPy_cons, allPy_nil, allPy_map, slc_tup, sset_z, sset_s, sto_z, sto_s, mkT, sizeBig, Nat.reduceLeDiff, Int.reduceLT, Int.reduceLE, decide_true, decide_false, ↓reduceIte, tyOk, subTy, List.all_cons, List.all_nil, List.any_cons, List.any_nil, beq_self_eq_true, Bool.true_or, Bool.or_false, Bool.false_or, Bool.and_true, Bool.true_and, Bool.or_true, String.reduceBEq, Bool.and_false, Bool.false_and, asT_py, asgs, bi_min, bi_max, eq_int, ne_int, lock_no, bi_tup_lst, is_non, un_neg, len_tup, len_lst, List.length_map, idx_tup, idx_lst, new0, new1, new2, pairsO, mergeD, List.foldl_nil, Function.comp, list_tup]
    by_cases h : (goneL W (i : Int) row).length = row.length + 1
    · have h' : (((goneL W (i : Int) row).length : Nat) : Int) = (row.length : Int) + 1 := by omega
      simp only [h', exec, ev, evs, tst, srcs, GS_seq, GS_thn, GS_nx, GS_bk, GS_ct, GS_rt, Gv_bind, Gv_ok, Gv_give, Gv_nox, Gv_req, GS_req, R.bind_ok, R.thn_ok, RS.thn_nx, giveS_some, start, List.map_cons, List.map_nil, List.length_cons, List.length_nil, List.cons_append, List.nil_append, List.append_nil, List.replicate_succ, List.replicate_zero, Nat.reduceAdd, Nat.reduceSub, env_z, env_s, dl_z, dl_s, selO, set_z, set_s, asg, Option.some.injEq, exists_eq_left', bi1, bi0, isAbs, WW.wipe, setAll, if_true, if_false, Bool.false_eq_true, reduceIte, biO, mtO, pre_upper, pre_join, Option.map_some, Option.bind_some, exists_eq_left, and_true, true_and, c_lt, c_le, c_gt, c_ge, t_bool, t_int, b_add, b_sub, b_mul, b_div, b_mod, GS_ost, p_int, newL_t, newL_f, allPy_cons, allPy_nil, allPy_map, slc_tup, sset_z, sset_s, sto_z, sto_s, mkT, sizeBig, Nat.reduceLeDiff, Int.reduceLT, Int.reduceLE, decide_true, decide_false, ↓reduceIte, tyOk, subTy, List.all_cons, List.all_nil, List.any_cons, List.any_nil, beq_self_eq_true, Bool.true_or, Bool.or_false, Bool.false_or, Bool.and_true, Bool.true_and, Bool.or_true, String.reduceBEq, Bool.and_false, Bool.false_and, asT_py, asgs, bi_min, bi_max, eq_int, ne_int, lock_no, bi_tup_lst, is_non, un_neg, len_tup, len_lst, List.length_map, idx_tup, idx_lst, new0, new1, new2, pairsO, mergeD, List.foldl_nil, Function.comp, list_tup]
      refine ⟨_, rfl, ?_⟩
      rw [e2, hs, if_pos h, List.map_append]; rfl
    · have h' : ¬ (((goneL W (i : Int) row).length : Nat) : Int) = (row.length : Int) + 1 := by omega
      simp only [h', exec, ev, evs, tst, srcs, GS_seq, GS_thn, GS_nx, GS_bk, GS_ct, GS_rt, Gv_bind, Gv_ok, Gv_give, Gv_nox, Gv_req, GS_req, R.bind_ok, R.thn_ok, RS.thn_nx, giveS_some, start, List.map_cons, List.map_nil, List.length_cons, List.length_nil, List.cons_append, List.nil_append, List.append_nil, List.replicate_succ, List.replicate_zero, Nat.reduceAdd, Nat.reduceSub, env_z, env_s, dl_z, dl_s, selO, set_z, set_s, asg, Option.some.injEq, exists_eq_left', bi1, bi0, isAbs, WW.wipe, setAll, if_true, if_false, Bool.false_eq_true, reduceIte, biO, mtO, pre_upper, pre_join, Option.map_some, Option.bind_some, exists_eq_left, and_true, true_and, c_lt, c_le, c_gt, c_ge, t_bool, t_int, b_add, b_sub, b_mul, b_div, b_mod, GS_ost, p_int, newL_t, newL_f, allPy_cons, allPy_nil, allPy_map, slc_tup, sset_z, sset_s, sto_z, sto_s, mkT, sizeBig, Nat.reduceLeDiff, Int.reduceLT, Int.reduceLE, decide_true, decide_false, ↓reduceIte, tyOk, subTy, List.all_cons, List.all_nil, List.any_cons, List.any_nil, beq_self_eq_true, Bool.true_or, Bool.or_false, Bool.false_or, Bool.and_true, Bool.true_and, Bool.or_true, String.reduceBEq, Bool.and_false, Bool.false_and, asT_py, asgs, bi_min, bi_max, eq_int, ne_int, lock_no, bi_tup_lst, is_non, un_neg, len_tup, len_lst, List.length_map, idx_tup, idx_lst, new0, new1, new2, pairsO, mergeD, List.foldl_nil, Function.comp, list_tup]
      rw [hs, if_neg h, List.append_nil]
      exact e2
  · rw [rngI_len, Int.toNat_of_nonneg hn] at e2
    exact ⟨by rw [e2], e1⟩
theorem wholeL_mem {W : List (List Key × PyData)} {n : Int} {row : List Str} {c : Int} (h : c ∈ wholeL W n row) : ∃ i : Nat, i < n.toNat ∧ c = (i : Int) := by
  obtain ⟨h1, _⟩ := List.mem_filter.mp h
  obtain ⟨i, hi, rfl⟩ := List.mem_map.mp h1
  exact ⟨i, List.mem_range.mp hi, rfl⟩
theorem l1_ev {n : Int} {row : List Str} {g : Option (List Int)} {W : List (List Key × PyData)} {e0 e1 e2 e3 e4 e6 e8 e9 e11 e12 e13 : Option D} {st : Store} (hn2 : n ≤ 1000) :
    ev T_law_right l1_law_right [e0, e1, e2, e3, e4, some (.py (.list ((List.range n.toNat).map fun (c : Nat) => .list ((goneL W (c : Int) row).map .int)))), e6, some (.py (.list ((wholeL W n row).map .int))), e8, e9, some (.py (aimP g)), e11, e12, e13] st = .ok (.py (.list ((dueL W n row g).map .int))) st := by
  unfold l1_law_right
  refine Gv.val ?_
  refine lc_gen ?_
  have hwl : (wholeL W n row).length ≤ 1000 := by
    refine Nat.le_trans (List.length_filter_le _ _) ?_
    rw [List.length_map, List.length_range]; omega
  simp only [exec, ev, evs, tst, srcs, GS_seq, GS_thn, GS_nx, GS_bk, GS_ct, GS_rt, Gv_bind, Gv_ok, Gv_give, Gv_nox, Gv_req, GS_req, R.bind_ok, R.thn_ok, RS.thn_nx, giveS_some, start, List.map_cons, List.map_nil, List.length_cons, List.length_nil, List.cons_append, List.nil_append, List.append_nil, List.replicate_succ, List.replicate_zero, Nat.reduceAdd, Nat.reduceSub, env_z, env_s, dl_z, dl_s, selO, set_z, set_s, asg, Option.some.injEq, exists_eq_left', bi1, bi0, isAbs, WW.wipe, setAll, if_true, if_false, Bool.false_eq_true, reduceIte, biO, mtO, pre_upper, pre_join, Option.map_some, Option.bind_some, exists_eq_left, and_true, true_and, c_lt, c_le, c_gt, c_ge, t_bool, t_int, b_add, b_sub, b_mul, b_div, b_mod, GS_ost, p_int, newL_t, newL_f, allPy_cons, allPy_nil, allPy_map, slc_tup, sset_z, sset_s, sto_z, sto_s, mkT, sizeBig, Nat.reduceLeDiff, Int.reduceLT, Int.reduceLE, decide_true, decide_false, ↓reduceIte, tyOk, subTy, List.all_cons, List.all_nil, List.any_cons, List.any_nil, beq_self_eq_true, Bool.true_or, Bool.or_false, Bool.false_or, Bool.and_true, Bool.true_and, Bool.or_true, String.reduceBEq, Bool.and_false, Bool.false_and, asT_py, asgs, bi_min, bi_max, eq_int, ne_int, lock_no, bi_tup_lst, is_non, un_neg, len_tup, len_lst, List.length_map, idx_tup, idx_lst, new0, new1, new2, pairsO, mergeD, List.foldl_nil, Function.comp, list_tup]
  refine ⟨_, rfl, rfl, rfl, by rw [List.length_map, List.length_map]; exact sizeBig (by omega), fun i st1 acc => st1 = st ∧ acc = (((wholeL W n row).take i).filter fun c => g.isNone || decide ((goneL W c row).getLastD 0 ∈ g.getD [])).map .int, ⟨rfl, rfl⟩, fun i st acc ⟨_, e⟩ => ?_, fun i x st1 acc hx ⟨e1, e2⟩ => ?_, fun st1 acc ⟨e1, e2⟩ => ?_⟩
  · rw [e, List.length_map]
    refine Nat.le_trans (List.length_filter_le _ _) ?_
    rw [List.length_take]; omega
  · rw [List.map_map, List.getElem?_map] at hx
    obtain ⟨c, hc, rfl⟩ := Option.map_eq_some_iff.mp hx
    obtain ⟨j, hj, rfl⟩ := wholeL_mem (List.mem_of_getElem? hc)
    subst e1
    have hs : (((wholeL W n row).take (i + 1)).filter fun c => g.isNone || decide ((goneL W c row).getLastD 0 ∈ g.getD [])) = (((wholeL W n row).take i).filter fun c => g.isNone || decide ((goneL W c row).getLastD 0 ∈ g.getD [])) ++ (if (g.isNone || decide ((goneL W (j : Int) row).getLastD 0 ∈ g.getD [])) = true then [(j : Int)] else []) := by
      rw [List.take_add_one, hc, Option.toList_some, List.filter_append, List.filter_cons, List.filter_nil]
    cases g with
    | none =>
      simp only [aimP, isN, exec, ev, evs, tst, srcs, GS_seq, GS_thn, GS_nx, GS_bk, GS_ct, GS_rt, Gv_bind, Gv_ok, Gv_give, Gv_nox, Gv_req, GS_req, R.bind_ok, R.thn_ok, RS.thn_nx, giveS_some, start, List.map_cons, List.map_nil, List.length_cons, List.length_nil, List.cons_append, List.nil_append, List.append_nil, List.replicate_succ, List.replicate_zero, Nat.reduceAdd, Nat.reduceSub, env_z, env_s, dl_z, dl_s, selO, set_z, set_s, asg, Option.some.injEq, exists_eq_left', bi1, bi0, isAbs, WW.wipe, setAll, if_true, if_false, Bool.false_eq_true, reduceIte, biO, mtO, pre_upper, pre_join, Option.map_some, Option.bind_some, exists_eq_left, and_true, true_and, c_lt, c_le, c_gt, c_ge, t_bool, t_int, b_add, b_sub, b_mul, b_div, b_mod, GS_ost, p_int, newL_t, newL_f, allPy_cons, allPy_nil, allPy_map, slc_tup, sset_z, sset_s, sto_z, sto_s, mkT, sizeBig, Nat.reduceLeDiff, Int.reduceLT, Int.reduceLE, decide_true, decide_false, ↓reduceIte, tyOk, subTy, List.all_cons, List.all_nil, List.any_cons, List.any_nil, beq_self_eq_true, Bool.true_or, Bool.or_false, Bool.false_or, Bool.and_true, Bool.true_and, Bool.or_true, String.reduceBEq, Bool.and_false, Bool.false_and, asT_py, asgs, bi_min, bi_max, eq_int, ne_int, lock_no, bi_tup_lst, is_non, un_neg, len_tup, len_lst, List.length_map, idx_tup, idx_lst, new0, new1, new2, pairsO, mergeD, List.foldl_nil, Function.comp, list_tup]
      refine ⟨_, rfl, ?_⟩
      rw [hs, e2, List.map_append]; rfl
    | some gs =>
      have hl : ∀ st, idxO st (.py (.list ((goneL W (j : Int) row).map .int))) (io (-1)) = some (io ((goneL W (j : Int) row).getLastD 0)) := fun st => by
        rw [idx_lst, ← ints_py, getLast_D (goneL_ne W (j : Int) row)]
      have hin : ∀ st, cmpO .In st (io ((goneL W (j : Int) row).getLastD 0)) (.py (.tuple (gs.map .int))) = some (decide ((goneL W (j : Int) row).getLastD 0 ∈ gs)) := fun st => in_ints (st := st)
      simp only [Option.isNone_some, Option.getD_some, Bool.false_or] at hs e2 ⊢
      simp only [aimP, isN, come_at hj, hl, hin, exec, ev, evs, tst, srcs, GS_seq, GS_thn, GS_nx, GS_bk, GS_ct, GS_rt, Gv_bind, Gv_ok, Gv_give, Gv_nox, Gv_req, GS_req, R.bind_ok, R.thn_ok, RS.thn_nx, giveS_some, start, List.map_cons, List.map_nil, List.length_cons, List.length_nil, List.cons_append, List.nil_append, List.append_nil, List.replicate_succ, List.replicate_zero, Nat.reduceAdd, Nat.reduceSub, env_z, env_s, dl_z, dl_s, selO, set_z, set_s, asg, Option.some.injEq, exists_eq_left', bi1, bi0, isAbs, WW.wipe, setAll, if_true, if_false, Bool.false_eq_true, reduceIte, biO, mtO, pre_upper, pre_join, Option.map_some, Option.bind_some, exists_eq_left, and_true, true_and, c_lt, c_le, c_gt, c_ge, t_bool, t_int, b_add, b_sub, b_mul, b_div, b_mod, GS_ost, p_int, newL_t, newL_f, allPy_cons, allPy_nil, allPy_map, slc_tup, sset_z, sset_s, sto_z, sto_s, mkT, sizeBig, Nat.reduceLeDiff, Int.reduceLT, Int.reduceLE, decide_true, decide_false, ↓reduceIte, tyOk, subTy, List.all_cons, List.all_nil, List.any_cons, List.any_nil, beq_self_eq_true, Bool.true_or, Bool.or_false, Bool.false_or, Bool.and_true, Bool.true_and, Bool.or_true, String.reduceBEq, Bool.and_false, Bool.false_and, asT_py, asgs, bi_min, bi_max, eq_int, ne_int, lock_no, bi_tup_lst, is_non, un_neg, len_tup, len_lst, List.length_map, idx_tup, idx_lst, new0, new1, new2, pairsO, mergeD, List.foldl_nil, Function.comp, list_tup]
      by_cases h : (goneL W (j : Int) row).getLastD 0 ∈ gs
      · simp only [h, exec, ev, evs, tst, srcs, GS_seq, GS_thn, GS_nx, GS_bk, GS_ct, GS_rt, Gv_bind, Gv_ok, Gv_give, Gv_nox, Gv_req, GS_req, R.bind_ok, R.thn_ok, RS.thn_nx, giveS_some, start, List.map_cons, List.map_nil, List.length_cons, List.length_nil, List.cons_append, List.nil_append, List.append_nil, List.replicate_succ, List.replicate_zero, Nat.reduceAdd, Nat.reduceSub, env_z, env_s, dl_z, dl_s, selO, set_z, set_s, asg, Option.some.injEq, exists_eq_left', bi1, bi0, isAbs, WW.wipe, setAll, if_true, if_false, Bool.false_eq_true, reduceIte, biO, mtO, pre_upper, pre_join, Option.map_some, Option.bind_some, exists_eq_left, and_true, true_and, c_lt, c_le, c_gt, c_ge, t_bool, t_int, b_add, b_sub, b_mul, b_div, b_mod, GS_ost, p_int, newL_t, newL_f, allPy_cons, allPy_nil, allPy_map, slc_tup, sset_z, sset_s, sto_z, sto_s, mkT, sizeBig, Nat.reduceLeDiff, Int.reduceLT, Int.reduceLE, decide_true, decide_false, ↓reduceIte, tyOk, subTy, List.all_cons, List.all_nil, List.any_cons, List.any_nil, beq_self_eq_true, Bool.true_or, Bool.or_false, Bool.false_or, Bool.and_true, Bool.true_and, Bool.or_true, String.reduceBEq, Bool.and_false, Bool.false_and, asT_py, asgs, bi_min, bi_max, eq_int, ne_int, lock_no, bi_tup_lst, is_non, un_neg, len_tup, len_lst, List.length_map, idx_tup, idx_lst, new0, new1, new2, pairsO, mergeD, List.foldl_nil, Function.comp, list_tup]
        refine ⟨_, rfl, ?_⟩
        rw [hs, if_pos (decide_eq_true h), e2, List.map_append]; rfl
      · simp only [h, exec, ev, evs, tst, srcs, GS_seq, GS_thn, GS_nx, GS_bk, GS_ct, GS_rt, Gv_bind, Gv_ok, Gv_give, Gv_nox, Gv_req, GS_req, R.bind_ok, R.thn_ok, RS.thn_nx, giveS_some, start, List.map_cons, List.map_nil, List.length_cons, List.length_nil, List.cons_append, List.nil_append, List.append_nil, List.replicate_succ, List.replicate_zero, Nat.reduceAdd, Nat.reduceSub, env_z, env_s, dl_z, dl_s, selO, set_z, set_s, asg, Option.some.injEq, exists_eq_left', bi1, bi0, isAbs, WW.wipe, setAll, if_true, if_false, Bool.false_eq_true, reduceIte, biO, mtO, pre_upper, pre_join, Option.map_some, Option.bind_some, exists_eq_left, and_true, true_and, c_lt, c_le, c_gt, c_ge, t_bool, t_int, b_add, b_sub, b_mul, b_div, b_mod, GS_ost, p_int, newL_t, newL_f, allPy_cons, allPy_nil, allPy_map, slc_tup, sset_z, sset_s, sto_z, sto_s, mkT, sizeBig, Nat.reduceLeDiff, Int.reduceLT, Int.reduceLE, decide_true, decide_false, ↓reduceIte, tyOk, subTy, List.all_cons, List.all_nil, List.any_cons, List.any_nil, beq_self_eq_true, Bool.true_or, Bool.or_false, Bool.false_or, Bool.and_true, Bool.true_and, Bool.or_true, String.reduceBEq, Bool.and_false, Bool.false_and, asT_py, asgs, bi_min, bi_max, eq_int, ne_int, lock_no, bi_tup_lst, is_non, un_neg, len_tup, len_lst, List.length_map, idx_tup, idx_lst, new0, new1, new2, pairsO, mergeD, List.foldl_nil, Function.comp, list_tup]
        rw [hs, if_neg (by rw [decide_eq_false h]; simp), List.append_nil]
        exact e2
  · rw [List.length_map, List.length_map, List.take_length] at e2
    exact ⟨by rw [e2]; rfl, e1⟩
theorem law_right_draw {n : Int} {ps : List Po} {ws : List Int} {row names : List Str} {most : Nat} (hn : 0 < n) (hn2 : n ≤ 40) (hN : ∀ x ∈ names, Nme x) (hNl : names.length ≤ 12) (hm : most ≤ 40) (hw : WebOk n names most ps) (hws : Paired (fun (p : Po) w => w ∈ p.arms) ps ws) (hr : row.length ≤ 400) (hrn : ∀ x ∈ row, Nme x) :
    DrawF F_law_right [webP n ps, .tuple (ws.map .int), .tuple (row.map .str)] fun p => p = .bool true := ⟨fun a b hp => by
  have hzl : ps.length ≤ 480 := by
    have : n.toNat * names.length ≤ 40 * 12 := Nat.mul_le_mul (by omega) hNl
    have := hw.len; omega
  have hWr : ∀ c nm q, wayAt (waysOf (ps.zip ws)) c nm = some q → ∃ w, q = .int w ∧ 0 ≤ w ∧ w < n := fun c nm q h => by
    obtain ⟨p, w, h1, _, _, rfl⟩ := wayAt_of _ h
    have hmem : ∀ {ps : List Po} {ws : List Int}, Paired (fun (p : Po) w => w ∈ p.arms) ps ws → (p, w) ∈ ps.zip ws → w ∈ p.arms := by
      intro ps ws h
      induction h with
      | nil => intro h; cases h
      | cons h t ih =>
        intro z
        rcases List.mem_cons.mp z with e | z
        · cases e; exact h
        · exact ih z
    have := (hw.all p (List.of_mem_zip h1).1).rng w (hmem hws h1)
    exact ⟨w, rfl, this.1, this.2⟩
  have hints : ∀ c nm q, wayAt (waysOf (ps.zip ws)) c nm = some q → ∃ w, q = .int w := fun c nm q h => let ⟨w, e, _⟩ := hWr c nm q h; ⟨w, e⟩
  have hz : ps.length ≤ 100000 := by omega
  refine run_gv rfl ?_
  unfold c_law_right
  simp only [exec, ev, evs, tst, srcs, GS_seq, GS_thn, GS_nx, GS_bk, GS_ct, GS_rt, Gv_bind, Gv_ok, Gv_give, Gv_nox, Gv_req, GS_req, R.bind_ok, R.thn_ok, RS.thn_nx, giveS_some, start, List.map_cons, List.map_nil, List.length_cons, List.length_nil, List.cons_append, List.nil_append, List.append_nil, List.replicate_succ, List.replicate_zero, Nat.reduceAdd, Nat.reduceSub, env_z, env_s, dl_z, dl_s, selO, set_z, set_s, asg, Option.some.injEq, exists_eq_left', bi1, bi0, isAbs, WW.wipe, setAll, if_true, if_false, Bool.false_eq_true, reduceIte, biO, mtO, pre_upper, pre_join, Option.map_some, Option.bind_some, exists_eq_left, and_true, true_and, c_lt, c_le, c_gt, c_ge, t_bool, t_int, b_add, b_sub, b_mul, b_div, b_mod, GS_ost, p_int, newL_t, newL_f, allPy_cons, allPy_nil, allPy_map, slc_tup, sset_z, sset_s, sto_z, sto_s, mkT, sizeBig, Nat.reduceLeDiff, Int.reduceLT, Int.reduceLE, decide_true, decide_false, ↓reduceIte, tyOk, subTy, List.all_cons, List.all_nil, List.any_cons, List.any_nil, beq_self_eq_true, Bool.true_or, Bool.or_false, Bool.false_or, Bool.and_true, Bool.true_and, Bool.or_true, String.reduceBEq, Bool.and_false, Bool.false_and, asT_py, asgs, bi_min, bi_max, eq_int, ne_int, lock_no, bi_tup_lst, is_non, un_neg, len_tup, len_lst, List.length_map, idx_tup, idx_lst, new0, new1, new2, pairsO, mergeD, List.foldl_nil, Function.comp, list_tup]
  refine ⟨_, rfl, ?_⟩
  refine (goals_draw (Φ := T_law_goals) (t := 1) ⟨_, rfl⟩ (n := n) (by omega) (by omega)).at (n := 0) rfl hp fun pg a2 b2 ⟨g, eg, hg⟩ h2 => ?_
  subst eg
  have hwsr : ∀ w ∈ ws, 0 ≤ w ∧ w ≤ 1000 := by
    have : ∀ {ps : List Po} {ws : List Int}, Paired (fun (p : Po) w => w ∈ p.arms) ps ws → (∀ p ∈ ps, PoOk n names most p) → ∀ w ∈ ws, 0 ≤ w ∧ w ≤ 1000 := by
      intro ps ws h
      induction h with
      | nil => intro _ w hw; cases hw
      | cons h t ih =>
        intro ha w hw
        rcases List.mem_cons.mp hw with rfl | hw
        · have := (ha _ (List.mem_cons_self ..)).rng _ h; omega
        · exact ih (fun p hp => ha p (List.mem_cons_of_mem _ hp)) w hw
    exact this hws hw.all
  have hwl : ws.length = ps.length := (Paired.length hws).symm
  have hK : showOk (.tuple [webP n ps, .tuple (ws.map .int), .tuple (row.map .str)]) = true := by
    have s1 := sh_web hw (by omega) (by omega) hNl hm hN
    have s2 := sh_ints (gs := ws) 480 (by omega) hwsr
    have s3 := sh_names (xs := row) 400 hr hrn
    refine (sh_tup (K := 2500000) (D := 4) 3 (by simp) fun q hq => ?_).ok (by decide) (by decide)
    simp only [List.mem_cons, List.not_mem_nil, or_false] at hq
    rcases hq with rfl | rfl | rfl
    · exact s1
    · exact s2.mono (by decide) (by decide)
    · exact s3.mono (by decide) (by decide)
  simp only [repr_of hK, exec, ev, evs, tst, srcs, GS_seq, GS_thn, GS_nx, GS_bk, GS_ct, GS_rt, Gv_bind, Gv_ok, Gv_give, Gv_nox, Gv_req, GS_req, R.bind_ok, R.thn_ok, RS.thn_nx, giveS_some, start, List.map_cons, List.map_nil, List.length_cons, List.length_nil, List.cons_append, List.nil_append, List.append_nil, List.replicate_succ, List.replicate_zero, Nat.reduceAdd, Nat.reduceSub, env_z, env_s, dl_z, dl_s, selO, set_z, set_s, asg, Option.some.injEq, exists_eq_left', bi1, bi0, isAbs, WW.wipe, setAll, if_true, if_false, Bool.false_eq_true, reduceIte, biO, mtO, pre_upper, pre_join, Option.map_some, Option.bind_some, exists_eq_left, and_true, true_and, c_lt, c_le, c_gt, c_ge, t_bool, t_int, b_add, b_sub, b_mul, b_div, b_mod, GS_ost, p_int, newL_t, newL_f, allPy_cons, allPy_nil, allPy_map, slc_tup, sset_z, sset_s, sto_z, sto_s, mkT, sizeBig, Nat.reduceLeDiff, Int.reduceLT, Int.reduceLE, decide_true, decide_false, ↓reduceIte, tyOk, subTy, List.all_cons, List.all_nil, List.any_cons, List.any_nil, beq_self_eq_true, Bool.true_or, Bool.or_false, Bool.false_or, Bool.and_true, Bool.true_and, Bool.or_true, String.reduceBEq, Bool.and_false, Bool.false_and, asT_py, asgs, bi_min, bi_max, eq_int, ne_int, lock_no, bi_tup_lst, is_non, un_neg, len_tup, len_lst, List.length_map, idx_tup, idx_lst, new0, new1, new2, pairsO, mergeD, List.foldl_nil, Function.comp, list_tup]
  generalize hkept : (PyData.tuple [webP n ps, .tuple (ws.map .int), .tuple (row.map .str)]).shown = kept
  rw [l4_ev hz]
  simp only [exec, ev, evs, tst, srcs, GS_seq, GS_thn, GS_nx, GS_bk, GS_ct, GS_rt, Gv_bind, Gv_ok, Gv_give, Gv_nox, Gv_req, GS_req, R.bind_ok, R.thn_ok, RS.thn_nx, giveS_some, start, List.map_cons, List.map_nil, List.length_cons, List.length_nil, List.cons_append, List.nil_append, List.append_nil, List.replicate_succ, List.replicate_zero, Nat.reduceAdd, Nat.reduceSub, env_z, env_s, dl_z, dl_s, selO, set_z, set_s, asg, Option.some.injEq, exists_eq_left', bi1, bi0, isAbs, WW.wipe, setAll, if_true, if_false, Bool.false_eq_true, reduceIte, biO, mtO, pre_upper, pre_join, Option.map_some, Option.bind_some, exists_eq_left, and_true, true_and, c_lt, c_le, c_gt, c_ge, t_bool, t_int, b_add, b_sub, b_mul, b_div, b_mod, GS_ost, p_int, newL_t, newL_f, allPy_cons, allPy_nil, allPy_map, slc_tup, sset_z, sset_s, sto_z, sto_s, mkT, sizeBig, Nat.reduceLeDiff, Int.reduceLT, Int.reduceLE, decide_true, decide_false, ↓reduceIte, tyOk, subTy, List.all_cons, List.all_nil, List.any_cons, List.any_nil, beq_self_eq_true, Bool.true_or, Bool.or_false, Bool.false_or, Bool.and_true, Bool.true_and, Bool.or_true, String.reduceBEq, Bool.and_false, Bool.false_and, asT_py, asgs, bi_min, bi_max, eq_int, ne_int, lock_no, bi_tup_lst, is_non, un_neg, len_tup, len_lst, List.length_map, idx_tup, idx_lst, new0, new1, new2, pairsO, mergeD, List.foldl_nil, Function.comp, list_tup]
  rw [dict_ways]
  simp only [exec, ev, evs, tst, srcs, GS_seq, GS_thn, GS_nx, GS_bk, GS_ct, GS_rt, Gv_bind, Gv_ok, Gv_give, Gv_nox, Gv_req, GS_req, R.bind_ok, R.thn_ok, RS.thn_nx, giveS_some, start, List.map_cons, List.map_nil, List.length_cons, List.length_nil, List.cons_append, List.nil_append, List.append_nil, List.replicate_succ, List.replicate_zero, Nat.reduceAdd, Nat.reduceSub, env_z, env_s, dl_z, dl_s, selO, set_z, set_s, asg, Option.some.injEq, exists_eq_left', bi1, bi0, isAbs, WW.wipe, setAll, if_true, if_false, Bool.false_eq_true, reduceIte, biO, mtO, pre_upper, pre_join, Option.map_some, Option.bind_some, exists_eq_left, and_true, true_and, c_lt, c_le, c_gt, c_ge, t_bool, t_int, b_add, b_sub, b_mul, b_div, b_mod, GS_ost, p_int, newL_t, newL_f, allPy_cons, allPy_nil, allPy_map, slc_tup, sset_z, sset_s, sto_z, sto_s, mkT, sizeBig, Nat.reduceLeDiff, Int.reduceLT, Int.reduceLE, decide_true, decide_false, ↓reduceIte, tyOk, subTy, List.all_cons, List.all_nil, List.any_cons, List.any_nil, beq_self_eq_true, Bool.true_or, Bool.or_false, Bool.false_or, Bool.and_true, Bool.true_and, Bool.or_true, String.reduceBEq, Bool.and_false, Bool.false_and, asT_py, asgs, bi_min, bi_max, eq_int, ne_int, lock_no, bi_tup_lst, is_non, un_neg, len_tup, len_lst, List.length_map, idx_tup, idx_lst, new0, new1, new2, pairsO, mergeD, List.foldl_nil, Function.comp, list_tup]
  generalize hWW : waysOf (ps.zip ws) = W at *
  rw [l3_ev (W := W) (by omega) (by omega) (by omega) hints (by rfl)]
  simp only [exec, ev, evs, tst, srcs, GS_seq, GS_thn, GS_nx, GS_bk, GS_ct, GS_rt, Gv_bind, Gv_ok, Gv_give, Gv_nox, Gv_req, GS_req, R.bind_ok, R.thn_ok, RS.thn_nx, giveS_some, start, List.map_cons, List.map_nil, List.length_cons, List.length_nil, List.cons_append, List.nil_append, List.append_nil, List.replicate_succ, List.replicate_zero, Nat.reduceAdd, Nat.reduceSub, env_z, env_s, dl_z, dl_s, selO, set_z, set_s, asg, Option.some.injEq, exists_eq_left', bi1, bi0, isAbs, WW.wipe, setAll, if_true, if_false, Bool.false_eq_true, reduceIte, biO, mtO, pre_upper, pre_join, Option.map_some, Option.bind_some, exists_eq_left, and_true, true_and, c_lt, c_le, c_gt, c_ge, t_bool, t_int, b_add, b_sub, b_mul, b_div, b_mod, GS_ost, p_int, newL_t, newL_f, allPy_cons, allPy_nil, allPy_map, slc_tup, sset_z, sset_s, sto_z, sto_s, mkT, sizeBig, Nat.reduceLeDiff, Int.reduceLT, Int.reduceLE, decide_true, decide_false, ↓reduceIte, tyOk, subTy, List.all_cons, List.all_nil, List.any_cons, List.any_nil, beq_self_eq_true, Bool.true_or, Bool.or_false, Bool.false_or, Bool.and_true, Bool.true_and, Bool.or_true, String.reduceBEq, Bool.and_false, Bool.false_and, asT_py, asgs, bi_min, bi_max, eq_int, ne_int, lock_no, bi_tup_lst, is_non, un_neg, len_tup, len_lst, List.length_map, idx_tup, idx_lst, new0, new1, new2, pairsO, mergeD, List.foldl_nil, Function.comp, list_tup]
  have hi0 : ∀ st, idxO st (.py (webP n ps)) (io 0) = some (io n) := fun _ => rfl
  simp only [hi0, exec, ev, evs, tst, srcs, GS_seq, GS_thn, GS_nx, GS_bk, GS_ct, GS_rt, Gv_bind, Gv_ok, Gv_give, Gv_nox, Gv_req, GS_req, R.bind_ok, R.thn_ok, RS.thn_nx, giveS_some, start, List.map_cons, List.map_nil, List.length_cons, List.length_nil, List.cons_append, List.nil_append, List.append_nil, List.replicate_succ, List.replicate_zero, Nat.reduceAdd, Nat.reduceSub, env_z, env_s, dl_z, dl_s, selO, set_z, set_s, asg, Option.some.injEq, exists_eq_left', bi1, bi0, isAbs, WW.wipe, setAll, if_true, if_false, Bool.false_eq_true, reduceIte, biO, mtO, pre_upper, pre_join, Option.map_some, Option.bind_some, exists_eq_left, and_true, true_and, c_lt, c_le, c_gt, c_ge, t_bool, t_int, b_add, b_sub, b_mul, b_div, b_mod, GS_ost, p_int, newL_t, newL_f, allPy_cons, allPy_nil, allPy_map, slc_tup, sset_z, sset_s, sto_z, sto_s, mkT, sizeBig, Nat.reduceLeDiff, Int.reduceLT, Int.reduceLE, decide_true, decide_false, ↓reduceIte, tyOk, subTy, List.all_cons, List.all_nil, List.any_cons, List.any_nil, beq_self_eq_true, Bool.true_or, Bool.or_false, Bool.false_or, Bool.and_true, Bool.true_and, Bool.or_true, String.reduceBEq, Bool.and_false, Bool.false_and, asT_py, asgs, bi_min, bi_max, eq_int, ne_int, lock_no, bi_tup_lst, is_non, un_neg, len_tup, len_lst, List.length_map, idx_tup, idx_lst, new0, new1, new2, pairsO, mergeD, List.foldl_nil, Function.comp, list_tup]
  refine ⟨_, rng_its (by omega) (by omega), ?_⟩
  simp only [exec, ev, evs, tst, srcs, GS_seq, GS_thn, GS_nx, GS_bk, GS_ct, GS_rt, Gv_bind, Gv_ok, Gv_give, Gv_nox, Gv_req, GS_req, R.bind_ok, R.thn_ok, RS.thn_nx, giveS_some, start, List.map_cons, List.map_nil, List.length_cons, List.length_nil, List.cons_append, List.nil_append, List.append_nil, List.replicate_succ, List.replicate_zero, Nat.reduceAdd, Nat.reduceSub, env_z, env_s, dl_z, dl_s, selO, set_z, set_s, asg, Option.some.injEq, exists_eq_left', bi1, bi0, isAbs, WW.wipe, setAll, if_true, if_false, Bool.false_eq_true, reduceIte, biO, mtO, pre_upper, pre_join, Option.map_some, Option.bind_some, exists_eq_left, and_true, true_and, c_lt, c_le, c_gt, c_ge, t_bool, t_int, b_add, b_sub, b_mul, b_div, b_mod, GS_ost, p_int, newL_t, newL_f, allPy_cons, allPy_nil, allPy_map, slc_tup, sset_z, sset_s, sto_z, sto_s, mkT, sizeBig, Nat.reduceLeDiff, Int.reduceLT, Int.reduceLE, decide_true, decide_false, ↓reduceIte, tyOk, subTy, List.all_cons, List.all_nil, List.any_cons, List.any_nil, beq_self_eq_true, Bool.true_or, Bool.or_false, Bool.false_or, Bool.and_true, Bool.true_and, Bool.or_true, String.reduceBEq, Bool.and_false, Bool.false_and, asT_py, asgs, bi_min, bi_max, eq_int, ne_int, lock_no, bi_tup_lst, is_non, un_neg, len_tup, len_lst, List.length_map, idx_tup, idx_lst, new0, new1, new2, pairsO, mergeD, List.foldl_nil, Function.comp, list_tup]
  refine GS.mid (fun env st => ∃ e6, env = [some (.loc 0), some (.py (webP n ps)), some (.py (.tuple (ws.map .int))), some (.py (.tuple (row.map .str))), some (.loc 1), some (.py (.list ((List.range n.toNat).map fun (c : Nat) => .list ((goneL W (c : Int) row).map .int)))), e6, none, none, none, some (.py (aimP g)), some (so kept), none, none] ∧ st = [.lst [io a2, io b2], .dT (pyv W)]) ?_ fun env st ⟨e6, e1, e2⟩ => ?_
  · refine for_ok (fun j env st => ∃ e6, env = [some (.loc 0), some (.py (webP n ps)), some (.py (.tuple (ws.map .int))), some (.py (.tuple (row.map .str))), some (.loc 1), some (.py (.list ((List.range n.toNat).map fun (c : Nat) => .list ((goneL W (c : Int) row).map .int)))), e6, none, none, none, some (.py (aimP g)), some (so kept), none, none] ∧ st = [.lst [io a2, io b2], .dT (pyv W)])
      ⟨none, rfl, rfl⟩ (fun i env st _ => still_nil _) (fun j x env st hx h => ?_) fun env st h => h
    obtain ⟨e6, rfl, rfl⟩ := h
    obtain ⟨hj, rfl⟩ := rngI_get hx
    refine ⟨_, rfl, ?_⟩
    unfold b1_law_right
    have hsh : showOk (.tuple ((goneL W (j : Int) row).map .int)) = true := by
      refine (sh_ints (gs := goneL W (j : Int) row) 401 (Nat.le_trans (goneL_len _ _ _) (by omega)) fun x hx => ?_).ok (by decide) (by decide)
      have := goneL_rng hWr (c := (j : Int)) (row := row) (by omega) (by omega) x hx
      omega
    simp only [exec, ev, evs, tst, srcs, GS_seq, GS_thn, GS_nx, GS_bk, GS_ct, GS_rt, Gv_bind, Gv_ok, Gv_give, Gv_nox, Gv_req, GS_req, R.bind_ok, R.thn_ok, RS.thn_nx, giveS_some, start, List.map_cons, List.map_nil, List.length_cons, List.length_nil, List.cons_append, List.nil_append, List.append_nil, List.replicate_succ, List.replicate_zero, Nat.reduceAdd, Nat.reduceSub, env_z, env_s, dl_z, dl_s, selO, set_z, set_s, asg, Option.some.injEq, exists_eq_left', bi1, bi0, isAbs, WW.wipe, setAll, if_true, if_false, Bool.false_eq_true, reduceIte, biO, mtO, pre_upper, pre_join, Option.map_some, Option.bind_some, exists_eq_left, and_true, true_and, c_lt, c_le, c_gt, c_ge, t_bool, t_int, b_add, b_sub, b_mul, b_div, b_mod, GS_ost, p_int, newL_t, newL_f, allPy_cons, allPy_nil, allPy_map, slc_tup, sset_z, sset_s, sto_z, sto_s, mkT, sizeBig, Nat.reduceLeDiff, Int.reduceLT, Int.reduceLE, decide_true, decide_false, ↓reduceIte, tyOk, subTy, List.all_cons, List.all_nil, List.any_cons, List.any_nil, beq_self_eq_true, Bool.true_or, Bool.or_false, Bool.false_or, Bool.and_true, Bool.true_and, Bool.or_true, String.reduceBEq, Bool.and_false, Bool.false_and, asT_py, asgs, bi_min, bi_max, eq_int, ne_int, lock_no, bi_tup_lst, is_non, un_neg, len_tup, len_lst, List.length_map, idx_tup, idx_lst, new0, new1, new2, pairsO, mergeD, List.foldl_nil, Function.comp, list_tup]
    rw [show T_law_right 10 = run T_gone (gc_gone 9) from rfl, gone_call (Φ' := T_ways_in) rfl hz (by omega), hWW]
    simp only [come_atI hj, repr_of hsh, ne_refl_str, exec, ev, evs, tst, srcs, GS_seq, GS_thn, GS_nx, GS_bk, GS_ct, GS_rt, Gv_bind, Gv_ok, Gv_give, Gv_nox, Gv_req, GS_req, R.bind_ok, R.thn_ok, RS.thn_nx, giveS_some, start, List.map_cons, List.map_nil, List.length_cons, List.length_nil, List.cons_append, List.nil_append, List.append_nil, List.replicate_succ, List.replicate_zero, Nat.reduceAdd, Nat.reduceSub, env_z, env_s, dl_z, dl_s, selO, set_z, set_s, asg, Option.some.injEq, exists_eq_left', bi1, bi0, isAbs, WW.wipe, setAll, if_true, if_false, Bool.false_eq_true, reduceIte, biO, mtO, pre_upper, pre_join, Option.map_some, Option.bind_some, exists_eq_left, and_true, true_and, c_lt, c_le, c_gt, c_ge, t_bool, t_int, b_add, b_sub, b_mul, b_div, b_mod, GS_ost, p_int, newL_t, newL_f, allPy_cons, allPy_nil, allPy_map, slc_tup, sset_z, sset_s, sto_z, sto_s, mkT, sizeBig, Nat.reduceLeDiff, Int.reduceLT, Int.reduceLE, decide_true, decide_false, ↓reduceIte, tyOk, subTy, List.all_cons, List.all_nil, List.any_cons, List.any_nil, beq_self_eq_true, Bool.true_or, Bool.or_false, Bool.false_or, Bool.and_true, Bool.true_and, Bool.or_true, String.reduceBEq, Bool.and_false, Bool.false_and, asT_py, asgs, bi_min, bi_max, eq_int, ne_int, lock_no, bi_tup_lst, is_non, un_neg, len_tup, len_lst, List.length_map, idx_tup, idx_lst, new0, new1, new2, pairsO, mergeD, List.foldl_nil, Function.comp, list_tup]
    exact ⟨_, rfl⟩
  · subst e1; subst e2
    rw [l2_ev (by omega) (by omega)]
    simp only [exec, ev, evs, tst, srcs, GS_seq, GS_thn, GS_nx, GS_bk, GS_ct, GS_rt, Gv_bind, Gv_ok, Gv_give, Gv_nox, Gv_req, GS_req, R.bind_ok, R.thn_ok, RS.thn_nx, giveS_some, start, List.map_cons, List.map_nil, List.length_cons, List.length_nil, List.cons_append, List.nil_append, List.append_nil, List.replicate_succ, List.replicate_zero, Nat.reduceAdd, Nat.reduceSub, env_z, env_s, dl_z, dl_s, selO, set_z, set_s, asg, Option.some.injEq, exists_eq_left', bi1, bi0, isAbs, WW.wipe, setAll, if_true, if_false, Bool.false_eq_true, reduceIte, biO, mtO, pre_upper, pre_join, Option.map_some, Option.bind_some, exists_eq_left, and_true, true_and, c_lt, c_le, c_gt, c_ge, t_bool, t_int, b_add, b_sub, b_mul, b_div, b_mod, GS_ost, p_int, newL_t, newL_f, allPy_cons, allPy_nil, allPy_map, slc_tup, sset_z, sset_s, sto_z, sto_s, mkT, sizeBig, Nat.reduceLeDiff, Int.reduceLT, Int.reduceLE, decide_true, decide_false, ↓reduceIte, tyOk, subTy, List.all_cons, List.all_nil, List.any_cons, List.any_nil, beq_self_eq_true, Bool.true_or, Bool.or_false, Bool.false_or, Bool.and_true, Bool.true_and, Bool.or_true, String.reduceBEq, Bool.and_false, Bool.false_and, asT_py, asgs, bi_min, bi_max, eq_int, ne_int, lock_no, bi_tup_lst, is_non, un_neg, len_tup, len_lst, List.length_map, idx_tup, idx_lst, new0, new1, new2, pairsO, mergeD, List.foldl_nil, Function.comp, list_tup]
    rw [l1_ev (by omega)]
    simp only [exec, ev, evs, tst, srcs, GS_seq, GS_thn, GS_nx, GS_bk, GS_ct, GS_rt, Gv_bind, Gv_ok, Gv_give, Gv_nox, Gv_req, GS_req, R.bind_ok, R.thn_ok, RS.thn_nx, giveS_some, start, List.map_cons, List.map_nil, List.length_cons, List.length_nil, List.cons_append, List.nil_append, List.append_nil, List.replicate_succ, List.replicate_zero, Nat.reduceAdd, Nat.reduceSub, env_z, env_s, dl_z, dl_s, selO, set_z, set_s, asg, Option.some.injEq, exists_eq_left', bi1, bi0, isAbs, WW.wipe, setAll, if_true, if_false, Bool.false_eq_true, reduceIte, biO, mtO, pre_upper, pre_join, Option.map_some, Option.bind_some, exists_eq_left, and_true, true_and, c_lt, c_le, c_gt, c_ge, t_bool, t_int, b_add, b_sub, b_mul, b_div, b_mod, GS_ost, p_int, newL_t, newL_f, allPy_cons, allPy_nil, allPy_map, slc_tup, sset_z, sset_s, sto_z, sto_s, mkT, sizeBig, Nat.reduceLeDiff, Int.reduceLT, Int.reduceLE, decide_true, decide_false, ↓reduceIte, tyOk, subTy, List.all_cons, List.all_nil, List.any_cons, List.any_nil, beq_self_eq_true, Bool.true_or, Bool.or_false, Bool.false_or, Bool.and_true, Bool.true_and, Bool.or_true, String.reduceBEq, Bool.and_false, Bool.false_and, asT_py, asgs, bi_min, bi_max, eq_int, ne_int, lock_no, bi_tup_lst, is_non, un_neg, len_tup, len_lst, List.length_map, idx_tup, idx_lst, new0, new1, new2, pairsO, mergeD, List.foldl_nil, Function.comp, list_tup]
    have hs : ∀ g st, callM 0 (T_law_right 11) [.py (webP n ps), .py (.tuple (ws.map .int)), .py (.tuple (row.map .str)), .py (aimP g)] st = .ok (.py (.tuple ((dueL W n row g).map .int))) st := fun g st => by
      rw [show T_law_right 11 = run T_starts (gc_starts 8 10) from rfl, starts_call (Φe := T_ends_of) (Φg := T_gone) (Φw := T_ways_in) rfl rfl rfl (by omega) (by omega) hz (by omega), hWW, starts_due (by omega) hWr]
    have hs0 : ∀ st, callM 0 (T_law_right 11) [.py (webP n ps), .py (.tuple (ws.map .int)), .py (.tuple (row.map .str)), .py .none] st = .ok (.py (.tuple ((wholeL W n row).map .int))) st := fun st => by
      have := hs none st
      rw [due_none] at this; exact this
    have hsn : ∀ st, callM 0 (T_law_right 11) [.py (webP n ps), .py (.tuple (ws.map .int)), .py (.tuple (row.map .str)), .py (.tuple [])] st = .ok (.py (.tuple [])) st := fun st => by
      have := hs (some []) st
      rw [← starts_due (by omega) hWr, show endsL n (some []) = [] from rfl, starts_nil] at this
      exact this
    have hwr : ∀ c ∈ wholeL W n row, 0 ≤ c ∧ c ≤ 1000 := fun c hc => by
      obtain ⟨i, hi, rfl⟩ := wholeL_mem hc; omega
    have hwlen : (wholeL W n row).length ≤ 40 := by
      refine Nat.le_trans (List.length_filter_le _ _) ?_
      rw [List.length_map, List.length_range]; omega
    have hdlen : (dueL W n row g).length ≤ 40 := Nat.le_trans (List.length_filter_le _ _) hwlen
    have hdr : ∀ c ∈ dueL W n row g, 0 ≤ c ∧ c ≤ 1000 := fun c hc => hwr c (List.mem_filter.mp hc).1
    have hT : showOk (.list [.tuple ((dueL W n row g).map .int), .tuple ((wholeL W n row).map .int), .tuple ((wholeL W n row).map .int)]) = true := by
      have s1 := sh_ints 40 hdlen hdr
      have s2 := sh_ints 40 hwlen hwr
      refine (sh_lst (K := 3 + 40 * 6) (D := 1) 3 (by simp) fun q hq => ?_).ok (by decide) (by decide)
      simp only [List.mem_cons, List.not_mem_nil, or_false] at hq
      rcases hq with rfl | rfl | rfl
      · exact s1
      · exact s2
      · exact s2
    have hE : showOk (.tuple []) = true := by decide +kernel
    have hE2 : (PyData.tuple []).shown = Str.ofString "()" := by decide +kernel
    simp only [hs, hs0, hsn, repr_of hT, repr_of hE, repr_of hK, ne_refl_str, hE2, eq_refl_str, hkept, exec, ev, evs, tst, srcs, GS_seq, GS_thn, GS_nx, GS_bk, GS_ct, GS_rt, Gv_bind, Gv_ok, Gv_give, Gv_nox, Gv_req, GS_req, R.bind_ok, R.thn_ok, RS.thn_nx, giveS_some, start, List.map_cons, List.map_nil, List.length_cons, List.length_nil, List.cons_append, List.nil_append, List.append_nil, List.replicate_succ, List.replicate_zero, Nat.reduceAdd, Nat.reduceSub, env_z, env_s, dl_z, dl_s, selO, set_z, set_s, asg, Option.some.injEq, exists_eq_left', bi1, bi0, isAbs, WW.wipe, setAll, if_true, if_false, Bool.false_eq_true, reduceIte, biO, mtO, pre_upper, pre_join, Option.map_some, Option.bind_some, exists_eq_left, and_true, true_and, c_lt, c_le, c_gt, c_ge, t_bool, t_int, b_add, b_sub, b_mul, b_div, b_mod, GS_ost, p_int, newL_t, newL_f, allPy_cons, allPy_nil, allPy_map, slc_tup, sset_z, sset_s, sto_z, sto_s, mkT, sizeBig, Nat.reduceLeDiff, Int.reduceLT, Int.reduceLE, decide_true, decide_false, ↓reduceIte, tyOk, subTy, List.all_cons, List.all_nil, List.any_cons, List.any_nil, beq_self_eq_true, Bool.true_or, Bool.or_false, Bool.false_or, Bool.and_true, Bool.true_and, Bool.or_true, String.reduceBEq, Bool.and_false, Bool.false_and, asT_py, asgs, bi_min, bi_max, eq_int, ne_int, lock_no, bi_tup_lst, is_non, un_neg, len_tup, len_lst, List.length_map, idx_tup, idx_lst, new0, new1, new2, pairsO, mergeD, List.foldl_nil, Function.comp, list_tup]
    exact ⟨_, rfl, rfl, a2, b2, h2, rfl⟩⟩
theorem dr_law : Dr T_law 1 3 := ⟨⟨_, rfl⟩, _, _, _, rfl, rfl⟩
theorem law_true : ∀ ns : List Int, ns.length ≤ 63 → ∃ st, F_law [.loc 0] [.lck (.lst (ioS ns))] = .ok (bo true) st := by
  refine law_cells (Φ := T_law) (c := 3) (b := b2_law) (m := 6) (by decide) ?_
  intro ns k tail s k0 k1 ht hs
  obtain ⟨y2, y3, y4, y5, y6, y7, rfl⟩ := tail6 ht
  unfold b2_law
  simp only [exec, ev, evs, tst, srcs, GS_seq, GS_thn, GS_nx, GS_bk, GS_ct, GS_rt, Gv_bind, Gv_ok, Gv_give, Gv_nox, Gv_req, GS_req, R.bind_ok, R.thn_ok, RS.thn_nx, giveS_some, start, List.map_cons, List.map_nil, List.length_cons, List.length_nil, List.cons_append, List.nil_append, List.append_nil, List.replicate_succ, List.replicate_zero, Nat.reduceAdd, Nat.reduceSub, env_z, env_s, dl_z, dl_s, selO, set_z, set_s, asg, Option.some.injEq, exists_eq_left', bi1, bi0, isAbs, WW.wipe, setAll, if_true, if_false, Bool.false_eq_true, reduceIte, biO, mtO, pre_upper, pre_join, Option.map_some, Option.bind_some, exists_eq_left, and_true, true_and, c_lt, c_le, c_gt, c_ge, t_bool, t_int, b_add, b_sub, b_mul, b_div, b_mod, GS_ost, p_int, newL_t, newL_f, allPy_cons, allPy_nil, allPy_map, slc_tup, sset_z, sset_s, sto_z, sto_s, mkT, sizeBig, Nat.reduceLeDiff, Int.reduceLT, Int.reduceLE, decide_true, decide_false, ↓reduceIte, tyOk, subTy, List.all_cons, List.all_nil, List.any_cons, List.any_nil, beq_self_eq_true, Bool.true_or, Bool.or_false, Bool.false_or, Bool.and_true, Bool.true_and, Bool.or_true, String.reduceBEq, Bool.and_false, Bool.false_and, asT_py, asgs, bi_min, bi_max, eq_int, ne_int, lock_no, bi_tup_lst, is_non, un_neg, len_tup, len_lst, List.length_map, idx_tup, idx_lst, new0, new1, new2, pairsO, mergeD, List.foldl_nil, Function.comp, list_tup]
  refine pot_call (Φ := T_law_pot) hs k0 (by omega) fun a b hp => ?_
  have hlt : s.length < (s ++ [SO.lst [io a, io b]]).length := by simp
  have hn0 : s.length ≠ 0 := fun z => by
    rw [List.length_eq_zero_iff.mp z] at hs; cases hs
  have h0 : ∀ s', PotAt s.length (s ++ [SO.lst [io a, io b]]) s' → s'[0]? = some (.lck (.lst (ioS ns))) := fun s' h => by
    rw [h.other hn0, List.getElem?_append_left (by omega)]; exact hs
  have P0 : PotAt s.length (s ++ [SO.lst [io a, io b]]) (s ++ [SO.lst [io a, io b]]) := PotAt.refl (app_at _ _) hp
  generalize s ++ [SO.lst [io a, io b]] = st0 at *
  generalize s.length = n at *
  refine p_of dr_law.o hlt P0 (drawnL (Q := fun q => ∃ r : Int, q = .int r ∧ 1 ≤ r ∧ r ≤ 40) (by simp) (sizeBig (by simp)) ?_) fun y s1 ⟨m, em, m0, m1⟩ P1 => ?_
  · intro q hq
    simp only [List.mem_cons, List.not_mem_nil, or_false] at hq
    rcases hq with rfl | rfl | rfl | rfl | rfl | rfl | rfl <;> exact ⟨_, rfl, by decide, by decide⟩
  subst em
  refine p_take dr_law.t hlt P1 (by decide) (by decide) fun r s2 r0 r1 P2 => ?_
  simp only [exec, ev, evs, tst, srcs, GS_seq, GS_thn, GS_nx, GS_bk, GS_ct, GS_rt, Gv_bind, Gv_ok, Gv_give, Gv_nox, Gv_req, GS_req, R.bind_ok, R.thn_ok, RS.thn_nx, giveS_some, start, List.map_cons, List.map_nil, List.length_cons, List.length_nil, List.cons_append, List.nil_append, List.append_nil, List.replicate_succ, List.replicate_zero, Nat.reduceAdd, Nat.reduceSub, env_z, env_s, dl_z, dl_s, selO, set_z, set_s, asg, Option.some.injEq, exists_eq_left', bi1, bi0, isAbs, WW.wipe, setAll, if_true, if_false, Bool.false_eq_true, reduceIte, biO, mtO, pre_upper, pre_join, Option.map_some, Option.bind_some, exists_eq_left, and_true, true_and, c_lt, c_le, c_gt, c_ge, t_bool, t_int, b_add, b_sub, b_mul, b_div, b_mod, GS_ost, p_int, newL_t, newL_f, allPy_cons, allPy_nil, allPy_map, slc_tup, sset_z, sset_s, sto_z, sto_s, mkT, sizeBig, Nat.reduceLeDiff, Int.reduceLT, Int.reduceLE, decide_true, decide_false, ↓reduceIte, tyOk, subTy, List.all_cons, List.all_nil, List.any_cons, List.any_nil, beq_self_eq_true, Bool.true_or, Bool.or_false, Bool.false_or, Bool.and_true, Bool.true_and, Bool.or_true, String.reduceBEq, Bool.and_false, Bool.false_and, asT_py, asgs, bi_min, bi_max, eq_int, ne_int, lock_no, bi_tup_lst, is_non, un_neg, len_tup, len_lst, List.length_map, idx_tup, idx_lst, new0, new1, new2, pairsO, mergeD, List.foldl_nil, Function.comp, list_tup]
  refine (names_draw (Φ := T_law_names) (t := 1) (o := 3) ⟨⟨_, rfl⟩, _, _, _, rfl, rfl⟩ (m := 1 + r) (by omega) (by omega)).call hlt P2 fun pn s3 ⟨names, en, hN⟩ P3 => ?_
  subst en
  refine p_take dr_law.t hlt P3 (by decide) (by decide) fun r2 s4 q0 q1 P4 => ?_
  simp only [exec, ev, evs, tst, srcs, GS_seq, GS_thn, GS_nx, GS_bk, GS_ct, GS_rt, Gv_bind, Gv_ok, Gv_give, Gv_nox, Gv_req, GS_req, R.bind_ok, R.thn_ok, RS.thn_nx, giveS_some, start, List.map_cons, List.map_nil, List.length_cons, List.length_nil, List.cons_append, List.nil_append, List.append_nil, List.replicate_succ, List.replicate_zero, Nat.reduceAdd, Nat.reduceSub, env_z, env_s, dl_z, dl_s, selO, set_z, set_s, asg, Option.some.injEq, exists_eq_left', bi1, bi0, isAbs, WW.wipe, setAll, if_true, if_false, Bool.false_eq_true, reduceIte, biO, mtO, pre_upper, pre_join, Option.map_some, Option.bind_some, exists_eq_left, and_true, true_and, c_lt, c_le, c_gt, c_ge, t_bool, t_int, b_add, b_sub, b_mul, b_div, b_mod, GS_ost, p_int, newL_t, newL_f, allPy_cons, allPy_nil, allPy_map, slc_tup, sset_z, sset_s, sto_z, sto_s, mkT, sizeBig, Nat.reduceLeDiff, Int.reduceLT, Int.reduceLE, decide_true, decide_false, ↓reduceIte, tyOk, subTy, List.all_cons, List.all_nil, List.any_cons, List.any_nil, beq_self_eq_true, Bool.true_or, Bool.or_false, Bool.false_or, Bool.and_true, Bool.true_and, Bool.or_true, String.reduceBEq, Bool.and_false, Bool.false_and, asT_py, asgs, bi_min, bi_max, eq_int, ne_int, lock_no, bi_tup_lst, is_non, un_neg, len_tup, len_lst, List.length_map, idx_tup, idx_lst, new0, new1, new2, pairsO, mergeD, List.foldl_nil, Function.comp, list_tup]
  have hNl : names.length ≤ 3 := by rw [hN.len]; omega
  have hNl2 : 1 ≤ names.length := by rw [hN.len]; omega
  refine (web_draw (Φ := T_law_web) (t := 1) ⟨_, rfl⟩ (n := m) (most := 1 + r2) (names := names) (by omega) (by omega) (by omega) (by omega) (by omega) hN.ris).call hlt P4 fun pw s5 ⟨ps, ew, hW⟩ P5 => ?_
  subst ew
  have hzl : ps.length ≤ 120 := by
    have : m.toNat * names.length ≤ 40 * 3 := Nat.mul_le_mul (by omega) hNl
    have := hW.len; omega
  refine (world_draw (Φ := T_law_world) (o := 3) ⟨_, _, _, rfl, rfl⟩ (n := m) (ps := ps) (fun p hp => (hW.all p hp).ne) (fun p hp => by have := (hW.all p hp).len; omega) (by omega)).call hlt P5 fun pv s6 ⟨ws, ev, hv⟩ P6 => ?_
  subst ev
  refine ⟨_, rng_its (by decide) (by decide), ?_⟩
  simp only [exec, ev, evs, tst, srcs, GS_seq, GS_thn, GS_nx, GS_bk, GS_ct, GS_rt, Gv_bind, Gv_ok, Gv_give, Gv_nox, Gv_req, GS_req, R.bind_ok, R.thn_ok, RS.thn_nx, giveS_some, start, List.map_cons, List.map_nil, List.length_cons, List.length_nil, List.cons_append, List.nil_append, List.append_nil, List.replicate_succ, List.replicate_zero, Nat.reduceAdd, Nat.reduceSub, env_z, env_s, dl_z, dl_s, selO, set_z, set_s, asg, Option.some.injEq, exists_eq_left', bi1, bi0, isAbs, WW.wipe, setAll, if_true, if_false, Bool.false_eq_true, reduceIte, biO, mtO, pre_upper, pre_join, Option.map_some, Option.bind_some, exists_eq_left, and_true, true_and, c_lt, c_le, c_gt, c_ge, t_bool, t_int, b_add, b_sub, b_mul, b_div, b_mod, GS_ost, p_int, newL_t, newL_f, allPy_cons, allPy_nil, allPy_map, slc_tup, sset_z, sset_s, sto_z, sto_s, mkT, sizeBig, Nat.reduceLeDiff, Int.reduceLT, Int.reduceLE, decide_true, decide_false, ↓reduceIte, tyOk, subTy, List.all_cons, List.all_nil, List.any_cons, List.any_nil, beq_self_eq_true, Bool.true_or, Bool.or_false, Bool.false_or, Bool.and_true, Bool.true_and, Bool.or_true, String.reduceBEq, Bool.and_false, Bool.false_and, asT_py, asgs, bi_min, bi_max, eq_int, ne_int, lock_no, bi_tup_lst, is_non, un_neg, len_tup, len_lst, List.length_map, idx_tup, idx_lst, new0, new1, new2, pairsO, mergeD, List.foldl_nil, Function.comp, list_tup]
  refine for_ok (fun i env s => PotAt n st0 s ∧ ∃ y5, env = [some (.loc 0), some (io k), some (.loc n), some (.py (webP m ps)), some (.py (.tuple (ws.map .int))), y5, some (io m), some (.py (.list (names.map .str)))]) ⟨P6, y5, rfl⟩ (fun _ _ _ _ => still_nil _) (fun i x env s7 hx hI => ?_) fun env s7 ⟨P7, y5, e⟩ => ?_
  · obtain ⟨P7, y5, rfl⟩ := hI
    obtain ⟨hi, rfl⟩ := rngI_get hx
    refine ⟨_, rfl, ?_⟩
    unfold b1_law
    simp only [exec, ev, evs, tst, srcs, GS_seq, GS_thn, GS_nx, GS_bk, GS_ct, GS_rt, Gv_bind, Gv_ok, Gv_give, Gv_nox, Gv_req, GS_req, R.bind_ok, R.thn_ok, RS.thn_nx, giveS_some, start, List.map_cons, List.map_nil, List.length_cons, List.length_nil, List.cons_append, List.nil_append, List.append_nil, List.replicate_succ, List.replicate_zero, Nat.reduceAdd, Nat.reduceSub, env_z, env_s, dl_z, dl_s, selO, set_z, set_s, asg, Option.some.injEq, exists_eq_left', bi1, bi0, isAbs, WW.wipe, setAll, if_true, if_false, Bool.false_eq_true, reduceIte, biO, mtO, pre_upper, pre_join, Option.map_some, Option.bind_some, exists_eq_left, and_true, true_and, c_lt, c_le, c_gt, c_ge, t_bool, t_int, b_add, b_sub, b_mul, b_div, b_mod, GS_ost, p_int, newL_t, newL_f, allPy_cons, allPy_nil, allPy_map, slc_tup, sset_z, sset_s, sto_z, sto_s, mkT, sizeBig, Nat.reduceLeDiff, Int.reduceLT, Int.reduceLE, decide_true, decide_false, ↓reduceIte, tyOk, subTy, List.all_cons, List.all_nil, List.any_cons, List.any_nil, beq_self_eq_true, Bool.true_or, Bool.or_false, Bool.false_or, Bool.and_true, Bool.true_and, Bool.or_true, String.reduceBEq, Bool.and_false, Bool.false_and, asT_py, asgs, bi_min, bi_max, eq_int, ne_int, lock_no, bi_tup_lst, is_non, un_neg, len_tup, len_lst, List.length_map, idx_tup, idx_lst, new0, new1, new2, pairsO, mergeD, List.foldl_nil, Function.comp, list_tup]
    refine (law_row_draw (n := m) (ps := ps) (ws := ws) (names := names) (fun x hx => hN.nme x hx) (fun z => by rw [z] at hNl2; simp at hNl2) (by omega) hW.all (by omega) (by omega) (by omega)).call hlt P7 fun pr s8 ⟨row, er, l1, l2⟩ P8 => ?_
    subst er
    refine (law_right_draw (n := m) (ps := ps) (ws := ws) (names := names) (row := row) (most := (1 + r2).toNat) (by omega) (by omega) (fun x hx => hN.nme x hx) (by omega) (by omega) hW hv l1 l2).call hlt P8 fun pt s9 e9 P9 => ?_
    subst e9
    simp only [Bool.not_true, exec, ev, evs, tst, srcs, GS_seq, GS_thn, GS_nx, GS_bk, GS_ct, GS_rt, Gv_bind, Gv_ok, Gv_give, Gv_nox, Gv_req, GS_req, R.bind_ok, R.thn_ok, RS.thn_nx, giveS_some, start, List.map_cons, List.map_nil, List.length_cons, List.length_nil, List.cons_append, List.nil_append, List.append_nil, List.replicate_succ, List.replicate_zero, Nat.reduceAdd, Nat.reduceSub, env_z, env_s, dl_z, dl_s, selO, set_z, set_s, asg, Option.some.injEq, exists_eq_left', bi1, bi0, isAbs, WW.wipe, setAll, if_true, if_false, Bool.false_eq_true, reduceIte, biO, mtO, pre_upper, pre_join, Option.map_some, Option.bind_some, exists_eq_left, and_true, true_and, c_lt, c_le, c_gt, c_ge, t_bool, t_int, b_add, b_sub, b_mul, b_div, b_mod, GS_ost, p_int, newL_t, newL_f, allPy_cons, allPy_nil, allPy_map, slc_tup, sset_z, sset_s, sto_z, sto_s, mkT, sizeBig, Nat.reduceLeDiff, Int.reduceLT, Int.reduceLE, decide_true, decide_false, ↓reduceIte, tyOk, subTy, List.all_cons, List.all_nil, List.any_cons, List.any_nil, beq_self_eq_true, Bool.true_or, Bool.or_false, Bool.false_or, Bool.and_true, Bool.true_and, Bool.or_true, String.reduceBEq, Bool.and_false, Bool.false_and, asT_py, asgs, bi_min, bi_max, eq_int, ne_int, lock_no, bi_tup_lst, is_non, un_neg, len_tup, len_lst, List.length_map, idx_tup, idx_lst, new0, new1, new2, pairsO, mergeD, List.foldl_nil, Function.comp, list_tup]
    exact ⟨P9, _, rfl⟩
  · subst e
    exact ⟨h0 _ P7, _, _, rfl, rfl⟩
end WW


open PySem PySem.W PyProof.Rows
set_option maxHeartbeats 0 in
theorem PySem.Challenge.cw_woundwalks_k23_rows_gone_holds : PySem.Challenge.rw_woundwalks_k23_rows_gone.Holds := by
  w_on; o_law; k_head; (case hw => w_witness2)
  k_fill
  refine WW.walk_ofG (l := PySem.Challenge.rw_woundwalks_k23_rows_gone) (n := 63) (k := 5) (x := "_law_script") (cl := fun _ _ => none) (φ := WW.F_law) rfl (by decide) rfl ⟨rfl, by decide, by decide⟩ (fun w h Y => PySem.W.kIn_of Y) ?L ?F WW.law_true
  case L => exact fun w => by first | rfl | decide +kernel
  case F =>
    intro w mg fa h KX G hmg
    refine' WW.all_mk KX G hmg ?nst ?a_law_pot ?l_law_pot ?e_law_pot ?k_law_pot ?a_law_take ?l_law_take ?e_law_take ?k_law_take ?a_law_web ?l_law_web ?e_law_web ?k_law_web ?a_law_of ?l_law_of ?e_law_of ?k_law_of ?a_law_world ?l_law_world ?e_law_world ?k_law_world ?a_law_names ?l_law_names ?e_law_names ?k_law_names ?a_law_goals ?l_law_goals ?e_law_goals ?k_law_goals ?a_law_gone ?l_law_gone ?e_law_gone ?k_law_gone ?a_ends_of ?l_ends_of ?e_ends_of ?k_ends_of ?a_ways_in ?l_ways_in ?e_ways_in ?k_ways_in ?a_gone ?l_gone ?e_gone ?k_gone ?a_starts ?l_starts ?e_starts ?k_starts ?kd_starts_goals ?a_law_right ?l_law_right ?e_law_right ?k_law_right ?a_law_row ?l_law_row ?e_law_row ?k_law_row ?a_law ?l_law ?e_law ?k_law ?z_abs ?z_int ?z_len ?z_tuple ?z_sorted ?z_range ?z_list ?z_zip ?z_repr ?z_dict ?z_min ?z_max
    (case nst => k_is); (case a_law_pot => k_is); (case l_law_pot => k_is); (case e_law_pot => k_is); (case k_law_pot => k_is); (case a_law_take => k_is); (case l_law_take => k_is); (case e_law_take => k_is); (case k_law_take => k_is); (case a_law_web => k_is); (case l_law_web => k_is); (case e_law_web => k_is); (case k_law_web => k_is); (case a_law_of => k_is); (case l_law_of => k_is); (case e_law_of => k_is); (case k_law_of => k_is); (case a_law_world => k_is); (case l_law_world => k_is); (case e_law_world => k_is); (case k_law_world => k_is); (case a_law_names => k_is); (case l_law_names => k_is); (case e_law_names => k_is); (case k_law_names => k_is); (case a_law_goals => k_is); (case l_law_goals => k_is); (case e_law_goals => k_is); (case k_law_goals => k_is); (case a_law_gone => k_is); (case l_law_gone => k_is); (case e_law_gone => k_is); (case k_law_gone => k_is); (case a_ends_of => k_is); (case l_ends_of => k_is); (case e_ends_of => k_is); (case k_ends_of => k_is); (case a_ways_in => k_is); (case l_ways_in => k_is); (case e_ways_in => k_is); (case k_ways_in => k_is); (case a_gone => k_is); (case l_gone => k_is); (case e_gone => k_is); (case k_gone => k_is); (case a_starts => k_is); (case l_starts => k_is); (case e_starts => k_is); (case k_starts => k_is); (case kd_starts_goals => k_is); (case a_law_right => k_is); (case l_law_right => k_is); (case e_law_right => k_is); (case k_law_right => k_is); (case a_law_row => k_is); (case l_law_row => k_is); (case e_law_row => k_is); (case k_law_row => k_is); (case a_law => k_is); (case l_law => k_is); (case e_law => k_is); (case k_law => k_is); (case z_abs => k_is); (case z_int => k_is); (case z_len => k_is); (case z_tuple => k_is); (case z_sorted => k_is); (case z_range => k_is); (case z_list => k_is); (case z_zip => k_is); (case z_repr => k_is); (case z_dict => k_is); (case z_min => k_is); (case z_max => k_is)
