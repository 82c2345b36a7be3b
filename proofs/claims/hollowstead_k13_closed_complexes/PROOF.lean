import PyProof.Rows.All
import HandS.ForMost
import HandS.Walk
import HandS.TupAny
import HandS.TupMul
import HandS.Zip
import HandS.TupLen
import HandS.IsInst
import HandS.Wide
import HandS.Flow
import HandS.DictComp
import HandS.DictTup
import HandS.TupSets
import HandS.SetKeys
import HandS.Conv
import HandS.RevTup
import HandS.RevRange
import KE.SortData
import KE.DataCmp
import HandS.Deep
import KE.KeyNested
import KE.KDictKeyed
import KE.KDictWalk
import KE.GoesDict
import Wide.All
import HandS.Style
import HandS.SetFor
import HandS.Codes
import HandS.NoneIn
import HandS.Ends
import HandS.EndBits
import PySem.Challenge.RW_hollowstead_k13_closed_complexes
set_option Elab.async false
set_option linter.all false
set_option autoImplicit false
set_option maxRecDepth 100000
/-! HwA: values, heap, the small language and its evaluator. -/
namespace HW
open PySem

/-- a value of the evaluator: lst, dct, set are never written any more; ref is a cell of the evaluator's heap -/
inductive PV where
  | non | bl (b : Bool) | int (i : Int) | str (s : Str)
  | tup (xs : List PV) | lst (xs : List PV) | dct (es : List (PV × PV)) | scr (ns : List Int) | ref (n : Nat)
  deriving Inhabited

mutual
def PV.beq : PV → PV → Bool
  | .non, .non => true
  | .bl a, .bl b => a == b
  | .int a, .int b => decide (a = b)
  | .str a, .str b => decide (a = b)
  | .tup a, .tup b => PV.beqs a b
  | .lst a, .lst b => PV.beqs a b
  | .scr a, .scr b => decide (a = b)
  | .dct a, .dct b => PV.beqp a b
  | .ref a, .ref b => decide (a = b)
  | _, _ => false
def PV.beqs : List PV → List PV → Bool
  | [], [] => true
  | a :: as, b :: bs => PV.beq a b && PV.beqs as bs
  | _, _ => false
def PV.beqp : List (PV × PV) → List (PV × PV) → Bool
  | [], [] => true
  | (a, c) :: as, (b, d) :: bs => PV.beq a b && PV.beq c d && PV.beqp as bs
  | _, _ => false
end
mutual
theorem PV.beq_refl : ∀ a : PV, PV.beq a a = true
  | .non => rfl
  | .bl a => by simp [PV.beq]
  | .int a => by simp [PV.beq]
  | .str a => by simp [PV.beq]
  | .ref a => by simp [PV.beq]
  | .tup a => by rw [PV.beq]; exact PV.beqs_refl a
  | .lst a => by rw [PV.beq]; exact PV.beqs_refl a
  | .scr a => by simp [PV.beq]
  | .dct a => by rw [PV.beq]; exact PV.beqp_refl a
theorem PV.beqs_refl : ∀ a : List PV, PV.beqs a a = true
  | [] => rfl
  | a :: as => by rw [PV.beqs, PV.beq_refl a, PV.beqs_refl as]; rfl
theorem PV.beqp_refl : ∀ a : List (PV × PV), PV.beqp a a = true
  | [] => rfl
  | (a, b) :: as => by rw [PV.beqp, PV.beq_refl a, PV.beq_refl b, PV.beqp_refl as]; rfl
end
mutual
theorem PV.eq_of_beq : ∀ a b : PV, PV.beq a b = true → a = b
  | .non, b, h => by cases b <;> simp_all [PV.beq]
  | .bl a, b, h => by cases b <;> simp_all [PV.beq]
  | .int a, b, h => by cases b <;> simp_all [PV.beq]
  | .str a, b, h => by cases b <;> simp_all [PV.beq]
  | .ref a, b, h => by cases b <;> simp_all [PV.beq]
  | .tup a, b, h => by
    cases b with
    | tup b => rw [PV.beq] at h; rw [PV.eq_of_beqs a b h]
    | _ => simp [PV.beq] at h
  | .lst a, b, h => by
    cases b with
    | lst b => rw [PV.beq] at h; rw [PV.eq_of_beqs a b h]
    | _ => simp [PV.beq] at h
  | .scr a, b, h => by cases b <;> simp_all [PV.beq]
  | .dct a, b, h => by
    cases b with
    | dct b => rw [PV.beq] at h; rw [PV.eq_of_beqp a b h]
    | _ => simp [PV.beq] at h
theorem PV.eq_of_beqs : ∀ a b : List PV, PV.beqs a b = true → a = b
  | [], b, h => by cases b <;> simp_all [PV.beqs]
  | a :: as, b, h => by
    cases b with
    | nil => simp [PV.beqs] at h
    | cons b bs =>
      rw [PV.beqs, Bool.and_eq_true] at h
      rw [PV.eq_of_beq a b h.1, PV.eq_of_beqs as bs h.2]
theorem PV.eq_of_beqp : ∀ a b : List (PV × PV), PV.beqp a b = true → a = b
  | [], b, h => by cases b <;> simp_all [PV.beqp]
  | (a, c) :: as, b, h => by
    cases b with
    | nil => simp [PV.beqp] at h
    | cons b bs =>
      obtain ⟨b, d⟩ := b
      rw [PV.beqp, Bool.and_eq_true, Bool.and_eq_true] at h
      rw [PV.eq_of_beq a b h.1.1, PV.eq_of_beq c d h.1.2, PV.eq_of_beqp as bs h.2]
end
instance : DecidableEq PV := fun a b => if h : PV.beq a b = true then .isTrue (PV.eq_of_beq a b h) else .isFalse fun e => h (e ▸ PV.beq_refl a)

/-- what is written -/
inductive Cell where
  | lst (xs : List PV) | dct (es : List (PV × PV)) | dctL (es : List (PV × PV)) | obj (c : Str) (fs : List (Str × PV))
  deriving Inhabited, DecidableEq
abbrev PHeap := List Cell
abbrev Env := List (Option PV)

/-- an answer: a value and the heap; an exception (by its class's name); or nothing known -/
inductive R (α : Type) where
  | ok (a : α) (h : PHeap) | exc (e : Str) (h : PHeap) | bad
def R.bind {α β : Type} : R α → (α → PHeap → R β) → R β
  | .ok a h, f => f a h
  | .exc e h, _ => .exc e h
  | .bad, _ => .bad
@[simp] theorem R.bind_ok {α β : Type} (a : α) (h : PHeap) (f : α → PHeap → R β) : (R.ok a h).bind f = f a h := rfl
@[simp] theorem R.bind_bad {α β : Type} (f : α → PHeap → R β) : (R.bad : R α).bind f = .bad := rfl
@[simp] theorem R.bind_exc {α β : Type} (e : Str) (h : PHeap) (f : α → PHeap → R β) : (R.exc e h : R α).bind f = .exc e h := rfl
/-- an answer that may not be -/
def R.of {α : Type} : Option α → PHeap → R α
  | some a, h => .ok a h
  | none, _ => .bad
@[simp] theorem R.of_some {α : Type} (a : α) (h : PHeap) : R.of (some a) h = .ok a h := rfl
@[simp] theorem R.of_none {α : Type} (h : PHeap) : (R.of none h : R α) = .bad := rfl
theorem R.bind_eq_ok {α β : Type} {r : R α} {f : α → PHeap → R β} {b : β} {h : PHeap} (e : r.bind f = .ok b h) : ∃ a h1, r = .ok a h1 ∧ f a h1 = .ok b h := by
  cases r with
  | ok a h1 => exact ⟨a, h1, rfl, e⟩
  | exc _ _ => cases e
  | bad => cases e
theorem R.of_eq_ok {α : Type} {o : Option α} {h h' : PHeap} {a : α} (e : R.of o h = .ok a h') : o = some a ∧ h' = h := by
  cases o with
  | none => cases e
  | some x => simp only [R.of_some, R.ok.injEq] at e; exact ⟨by rw [e.1], e.2.symm⟩
theorem R.of_bind {α β : Type} {o : Option α} {h h' : PHeap} {f : α → PHeap → R β} {b : β} (e : (R.of o h).bind f = .ok b h') : ∃ a, o = some a ∧ f a h = .ok b h' := by
  cases o with
  | none => cases e
  | some a => exact ⟨a, rfl, e⟩
/-- a call's meaning -/
abbrev Sem := List PV → PHeap → R PV

inductive BOp where | add | sub | mul | fdiv | mod | pow
  deriving DecidableEq, Inhabited
inductive COp where | eq | ne | lt | le | gt | ge | is | isnot | isin | notin
  deriving DecidableEq, Inhabited
/-- built-in functions of values -/
inductive Blt where
  | len | abs | max2 | min2 | int | isi (T : String) | isiT (ts : List String) | repr
  deriving DecidableEq, Inhabited
/-- methods of built-in types -/
inductive Mth where
  | dget | dget1 | dpop | dpop2 | dsetd | lapp | lext | lpop | lpopAt | lins | lidx | tidx | lcount | tcount
  deriving DecidableEq, Inhabited
/-- what a walk is made into -/
inductive Cnv where
  | list | tuple | sorted | sum | all | any | max | min | dict | sortedSet | lenSet | sortedItems
  deriving DecidableEq, Inhabited
/-- a target of names -/
inductive Tg where
  | nm (i : Nat) | tp (ts : List Tg)
  deriving Inhabited

mutual
inductive IE where
  | var (i : Nat)
  | cst (v : PV)
  | glob (x : Str) (v : PV)
  | tup (es : IEs)
  | lst (al : Bool) (es : IEs)
  | dct (al : Bool) (kvs : IEs)
  | bin (op : BOp) (a b : IE)
  | neg (a : IE)
  | not (a : IE)
  | cmp (op : COp) (a b : IE)
  | cmp2 (op op' : COp) (a b c : IE)
  | and (a b : IE)
  | or (a b : IE)
  | ife (c a b : IE)
  | sub (a i : IE)
  | slice (a : IE) (lo hi : IO)
  | rev (a st : IE)
  | call (f : Nat) (es : IEs)
  | blt (f : Blt) (es : IEs)
  | meth (m : Mth) (o : IE) (es : IEs)
  | conv (k : Cnv) (al : Bool) (e : IE)
  | convI (k : Cnv) (al : Bool) (it : II)
  | comp (al : Bool) (own : List Nat) (tg : Tg) (it : II) (ifs : IEs) (elt : IE)
  | comp2 (al : Bool) (own : List Nat) (tg : Tg) (it : II) (ifs : IEs) (own1 : List Nat) (tg1 : Tg) (it1 : II) (ifs1 : IEs) (elt : IE)
  | dcomp (al : Bool) (own : List Nat) (tg : Tg) (it : II) (ifs : IEs) (k v : IE)
inductive IEs where
  | nil | cons (e : IE) (es : IEs)
inductive IO where
  | none | some (e : IE)
/-- what is walked -/
inductive II where
  | ex (e : IE) | rng1 (a : IE) | rng2 (a b : IE) | enum (e : IE) | zip (a b : IE) | items (d : IE) | values (d : IE)
end
instance : Inhabited IE := ⟨.var 0⟩

inductive ITgt where
  | tg (t : Tg) | sub (o i : IE)
  deriving Inhabited
mutual
inductive IS where
  | expr (e : IE)
  | asg (t : ITgt) (e : IE)
  | par (ts : List ITgt) (es : IEs)
  | aug (i : Nat) (op : BOp) (e : IE)
  | augS (o i : IE) (op : BOp) (e : IE)
  | ret (e : IE)
  | retN
  | pass
  | brk
  | cont
  | ifs (c : IE) (a b : ISs)
  | for_ (tg : Tg) (it : II) (b : ISs)
  | while_ (fuel : Nat) (c : IE) (b : ISs)
  | raise_ (x : Str)
inductive ISs where
  | nil | cons (s : IS) (ss : ISs)
end
/-- how a statement ends -/
inductive Out where
  | nx (e : Env) | rt (v : PV) | bk (e : Env) | ct (e : Env)

/-! ### values -/
mutual
def toD : PV → Option PyData
  | .non => some .none
  | .bl b => some (.bool b)
  | .int i => some (.int i)
  | .str s => some (.str s)
  | .tup xs => (toDs xs).map .tuple
  | .lst xs => (toDs xs).map .list
  | _ => none
def toDs : List PV → Option (List PyData)
  | [] => some []
  | x :: xs => match toD x, toDs xs with
    | some d, some ds => some (d :: ds)
    | _, _ => none
end
/-- the key of a dict that a value is: whole numbers and texts; tuples of such, nested, with None -/
inductive PKey where
  | k (k : L2.Key) | t (ks : List NestedKey)
mutual
def toN : PV → Option NestedKey
  | .non => some .none
  | .int i => some (.num i)
  | .str s => some (.text s)
  | .tup xs => (toNs xs).map .tup
  | _ => none
def toNs : List PV → Option (List NestedKey)
  | [] => some []
  | x :: xs => match toN x, toNs xs with
    | some d, some ds => some (d :: ds)
    | _, _ => none
end
/-- is a key by value -/
def keyV : PV → Bool
  | .int _ => true
  | .str _ => true
  | _ => false
/-- is a key that is a tuple -/
def keyT : PV → Bool
  | .tup xs => match toN (.tup xs) with
    | some k => decide (k.depth ≤ 8)
    | none => false
  | _ => false

/-- the list, tuple that is read -/
def asList (h : PHeap) : PV → Option (List PV)
  | .lst xs => some xs
  | .ref n => match h[n]? with
    | some (.lst xs) => some xs
    | _ => none
  | _ => none
def asSeq (h : PHeap) : PV → Option (List PV)
  | .tup xs => some xs
  | v => asList h v
def asDict (h : PHeap) : PV → Option (List (PV × PV))
  | .dct es => some es
  | .ref n => match h[n]? with
    | some (.dct es) => some es
    | some (.dctL es) => some es
    | _ => none
  | _ => none
/-- a live list as a frozen one, for == and such -/
def res (h : PHeap) (v : PV) : PV := match v with
  | .ref n => match h[n]? with
    | some (.lst xs) => .lst xs
    | _ => v
  | _ => v
/-- == of data -/
def pyEq (h : PHeap) (a b : PV) : Option Bool := match toD (res h a), toD (res h b) with
  | some d, some e => if SeqAt.shaped d && SeqAt.shaped e then some (PyData.eqv d e) else none
  | _, _ => none
def tru (h : PHeap) : PV → Option Bool
  | .non => some false
  | .bl b => some b
  | .int i => some (i != 0)
  | .str s => if s.length ≤ sizeLine then some ((s.length : Int) != 0) else none
  | v => match asSeq h v with
    | some xs => some (!xs.isEmpty)
    | none => match asDict h v with
      | some es => some (!es.isEmpty)
      | none => none
def dFind (es : List (PV × PV)) (k : PV) : Option PV := (es.find? fun e => decide (e.1 = k)).map (·.2)
def dPut (es : List (PV × PV)) (k v : PV) : List (PV × PV) :=
  if es.any (fun e => decide (e.1 = k)) then es.map (fun e => if e.1 = k then (e.1, v) else e) else es ++ [(k, v)]
def dDel (es : List (PV × PV)) (k : PV) : List (PV × PV) := es.filter fun e => !decide (e.1 = k)
/-- may be asked by the key -/
def keyOk (es : List (PV × PV)) (k : PV) : Bool :=
  (keyV k && es.all fun e => keyV e.1) || (keyT k && es.all fun e => keyT e.1)
def small (i : Int) : Bool := decide (-(2 ^ 64) < i ∧ i < 2 ^ 64)
def wide62 (i : Int) : Bool := decide (-(2 ^ 62) ≤ i ∧ i < 2 ^ 62)
def LIM : Nat := 16777216

def binop (op : BOp) (a b : PV) (h : PHeap) : Option PV := match op, a, b with
  | .add, .int i, .int j => some (.int (i + j))
  | .sub, .int i, .int j => some (.int (i - j))
  | .mul, .int i, .int j => if small i || small j then some (.int (i * j)) else none
  | .fdiv, .int i, .int j => if j ≠ 0 ∧ j.natAbs < 1073741824 then some (.int (i.fdiv j)) else none
  | .mod, .int i, .int j => if j ≠ 0 then some (.int (i.fmod j)) else none
  | .pow, .int i, .int j => if 0 ≤ j ∧ j ≤ 1000000 ∧ i.natAbs < 2 ^ 64 then some (.int (i ^ j.toNat)) else none
  | .add, .tup x, .tup y => if x.length + y.length ≤ LIM then some (.tup (x ++ y)) else none
  | .add, x, y => match asList h x, asList h y with
    | some x, some y => if x.length + y.length ≤ LIM then some (.lst (x ++ y)) else none
    | _, _ => none
  | .mul, x, .int k => match asList h x with
    | some x => if k < 2 ^ 62 ∧ -(2 ^ 62) < k ∧ x.length * k.toNat ≤ LIM then some (.lst (List.replicate k.toNat x).flatten) else none
    | none => none
  | _, _, _ => none

/-- the order of alike data -/
def ordD (op : COp) (d e : PyData) : Bool := match op with
  | .lt => PySem.W.dataLt d e
  | .gt => PySem.W.dataLt e d
  | .le => !PySem.W.dataLt e d
  | _ => !PySem.W.dataLt d e
def isNone : PyData → Bool
  | .none => true
  | _ => false
def pyOrd (op : COp) (h : PHeap) (a b : PV) : Option Bool := match a, b with
  | .int i, .int j => some (match op with
    | .lt => decide (i < j)
    | .gt => decide (j < i)
    | .le => decide (i ≤ j)
    | _ => decide (j ≤ i))
  | a, b => match toD (res h a), toD (res h b) with
    | some d, some e => if PySem.W.alike d e && !isNone d && SeqAt.shaped d && SeqAt.shaped e then some (ordD op d e) else none
    | _, _ => none
def isIn (h : PHeap) (a b : PV) : Option Bool := match asDict h b with
  | some es => if keyOk es a then some (es.any fun e => decide (e.1 = a)) else none
  | none => match asSeq h b with
    | some xs => match toD (res h a), toDs xs with
      | some d, some ds => if SeqAt.shaped d && SeqAt.shaped (.list ds) then some (ds.any fun e => PyData.eqv e d) else none
      | _, _ => none
    | none => none
def cmpop (op : COp) (a b : PV) (h : PHeap) : Option Bool := match op with
  | .eq => pyEq h a b
  | .ne => (pyEq h a b).map (!·)
  | .lt => pyOrd .lt h a b
  | .gt => pyOrd .gt h a b
  | .le => pyOrd .le h a b
  | .ge => pyOrd .ge h a b
  | .is => match b with
    | .non => some (decide (a = .non))
    | .bl c => match a with
      | .bl d => some (decide (d = c))
      | _ => none
    | _ => none
  | .isnot => match b with
    | .non => some (!decide (a = .non))
    | .bl c => match a with
      | .bl d => some (!decide (d = c))
      | _ => none
    | _ => none
  | .isin => isIn h a b
  | .notin => (isIn h a b).map (!·)

def itemOf (h : PHeap) (a i : PV) : Option PV := match asDict h a with
  | some es => if keyOk es i then dFind es i else none
  | none => match asSeq h a, i with
    | some xs, .int i => L2.atI xs i
    | _, _ => none
def cut (xs : List PV) (lo hi : Option Int) : List PV := (xs.drop (HT.sIx xs.length 0 lo)).take (HT.sIx xs.length xs.length hi - HT.sIx xs.length 0 lo)
def sliceOf (h : PHeap) (a : PV) (lo hi : Option Int) : Option PV := match a with
  | .tup xs => some (.tup (cut xs lo hi))
  | .scr ns => some (.lst (cut (ns.map .int) lo hi))
  | a => (asList h a).map fun xs => .lst (cut xs lo hi)
def revOf (h : PHeap) (a : PV) : Option PV := match a with
  | .tup xs => some (.tup xs.reverse)
  | a => (asList h a).map fun xs => .lst xs.reverse

/-- the built-in type of a value, where it is known -/
def tyOf (h : PHeap) : PV → Option String
  | .non => some "NoneType"
  | .bl _ => some "bool"
  | .int _ => some "int"
  | .str _ => some "str"
  | .tup _ => some "tuple"
  | v => (asList h v).map fun _ => "list"
def tyNames : List String := ["int", "bool", "str", "tuple", "list", "dict", "set"]
def isTy (t T : String) : Bool := t == T || (t == "bool" && T == "int")

def bLen (h : PHeap) : List PV → Option PV
  | [.str s] => if s.length ≤ sizeLine then some (.int s.length) else none
  | [v] => match asSeq h v with
    | some xs => some (.int xs.length)
    | none => match asDict h v with
      | some es => some (.int es.length)
      | none => none
  | _ => none
def bAbs : List PV → Option PV
  | [.int i] => some (.int (if i < 0 then -i else i))
  | _ => none
def bMax2 : List PV → Option PV
  | [.int i, .int j] => some (.int (if j > i then j else i))
  | _ => none
def bMin2 : List PV → Option PV
  | [.int i, .int j] => some (.int (if j < i then j else i))
  | _ => none
def bInt : List PV → Option PV
  | [.int i] => some (.int i)
  | [.bl b] => some (.int (if b then 1 else 0))
  | _ => none
def bIsi (h : PHeap) (T : String) : List PV → Option PV
  | [v] => if tyNames.contains T then (tyOf h v).map fun t => .bl (isTy t T) else none
  | _ => none
def bIsiT (h : PHeap) (ts : List String) : List PV → Option PV
  | [v] => if ts.all (tyNames.contains ·) then (tyOf h v).map fun t => .bl (ts.any (isTy t)) else none
  | _ => none
def bltop (f : Blt) (as : List PV) (h : PHeap) : Option PV := match f with
  | .len => bLen h as
  | .abs => bAbs as
  | .max2 => bMax2 as
  | .min2 => bMin2 as
  | .int => bInt as
  | .isi T => bIsi h T as
  | .isiT ts => bIsiT h ts as
  | .repr => none

/-- a live cell is written -/
def store (h : PHeap) (n : Nat) (c : Cell) : PHeap := h.set n c

def putItem (h : PHeap) (o i v : PV) : Option PHeap := match o with
  | .ref n => match h[n]?, i with
    | some (.lst xs), .int k => match L2.ixN xs.length k with
      | some j => some (h.set n (.lst (xs.set j v)))
      | none => none
    | some (.dct es), k => if keyOk es k && decide (es.length < LIM) then some (h.set n (.dct (dPut es k v))) else none
    | _, _ => none
  | _ => none

def mGet (o : PV) (as : List PV) (h : PHeap) : R PV := match as with
  | [k, x] => match asDict h o with
    | some es => if keyOk es k then .ok ((dFind es k).getD x) h else .bad
    | none => .bad
  | _ => .bad
def mGet1 (o : PV) (as : List PV) (h : PHeap) : R PV := match as with
  | [k] => match asDict h o with
    | some es => if keyOk es k then .ok ((dFind es k).getD .non) h else .bad
    | none => .bad
  | _ => .bad
def mApp (o : PV) (as : List PV) (h : PHeap) : R PV := match o, as with
  | .ref n, [v] => match h[n]? with
    | some (.lst xs) => if xs.length < LIM then .ok .non (h.set n (.lst (xs ++ [v]))) else .bad
    | _ => .bad
  | _, _ => .bad
def mExt (o : PV) (as : List PV) (h : PHeap) : R PV := match o, as with
  | .ref n, [v] => match h[n]?, asList h v with
    | some (.lst xs), some ys => if xs.length + ys.length ≤ LIM then .ok .non (h.set n (.lst (xs ++ ys))) else .bad
    | _, _ => .bad
  | _, _ => .bad
def mPop (o : PV) (as : List PV) (h : PHeap) : R PV := match o, as with
  | .ref n, [] => match h[n]? with
    | some (.lst xs) => match xs[xs.length - 1]? with
      | some v => .ok v (h.set n (.lst xs.dropLast))
      | none => .bad
    | _ => .bad
  | _, _ => .bad
def mPopAt (o : PV) (as : List PV) (h : PHeap) : R PV := match o, as with
  | .ref n, [.int i] => match h[n]? with
    | some (.lst xs) => if wide62 i then match seqIndex? i xs.length with
      | some k => match xs[k]? with
        | some v => .ok v (h.set n (.lst (xs.eraseIdx k)))
        | none => .bad
      | none => .bad else .bad
    | _ => .bad
  | _, _ => .bad
def mIdx (o : PV) (as : List PV) (h : PHeap) : R PV := match as with
  | [v] => match asList h o with
    | some xs => match toDs xs, toD (res h v) with
      | some ds, some d => if SeqAt.shaped (.list ds) && SeqAt.shaped d then match ds.findIdx? (fun e => PyData.eqv e d) with
          | some j => .ok (.int (j : Nat)) h
          | none => .bad
        else .bad
      | _, _ => .bad
    | none => .bad
  | _ => .bad
def mCnt (o : PV) (as : List PV) (h : PHeap) : R PV := match as with
  | [v] => match asList h o with
    | some xs => match toDs xs, toD (res h v) with
      | some ds, some d => if SeqAt.shaped (.list ds) && SeqAt.shaped d then .ok (.int (ds.countP fun e => PyData.eqv e d : Nat)) h else .bad
      | _, _ => .bad
    | none => .bad
  | _ => .bad
def methop (m : Mth) (o : PV) (as : List PV) (h : PHeap) : R PV := match m with
  | .dget => mGet o as h
  | .dget1 => mGet1 o as h
  | .lapp => mApp o as h
  | .lext => mExt o as h
  | .lpop => mPop o as h
  | .lpopAt => mPopAt o as h
  | .lidx => mIdx o as h
  | .lcount => mCnt o as h
  | _ => .bad
/-- the receiver is of the method's type -/
def recv (m : Mth) (h : PHeap) (o : PV) : Bool := match m with
  | .dget => (asDict h o).isSome
  | .dget1 => (asDict h o).isSome
  | .dpop => (asDict h o).isSome
  | .dpop2 => (asDict h o).isSome
  | .dsetd => (asDict h o).isSome
  | .tidx => match o with
    | .tup _ => true
    | _ => false
  | .tcount => match o with
    | .tup _ => true
    | _ => false
  | _ => (asList h o).isSome
end HW
/-! HwB: what the small language's terms do. -/
namespace HW
open PySem

mutual
/-- all cells named in it lie below n -/
def below (n : Nat) : PV → Bool
  | .ref m => decide (m < n)
  | .tup xs => belows n xs
  | .lst xs => belows n xs
  | .dct es => belowp n es
  | _ => true
def belows (n : Nat) : List PV → Bool
  | [] => true
  | x :: xs => below n x && belows n xs
def belowp (n : Nat) : List (PV × PV) → Bool
  | [] => true
  | (x, y) :: xs => below n x && below n y && belowp n xs
end
def belowC (n : Nat) : Cell → Bool
  | .lst xs => belows n xs
  | .dct es => belowp n es
  | .dctL es => belowp n es
  | .obj _ fs => fs.all fun f => below n f.2
/-- the cells that stood ahead name none of the later ones -/
def okOuter (h : PHeap) : PHeap → Bool := fun g => (List.range h.length).all fun m => decide (g[m]? = h[m]?) || (match g[m]? with
  | some c => belowC h.length c
  | none => false)
mutual
/-- a value that leaves: what lies behind n is frozen -/
def frz (h : PHeap) (n : Nat) : Nat → PV → Option PV
  | 0, _ => none
  | k + 1, v => if below n v then some v else match v with
    | .ref m => match h[m]? with
      | some (.lst xs) => (frzs h n k xs).map .lst
      | some (.dct es) => if belows n (es.map (·.1)) then (frzs h n k (es.map (·.2))).map fun b => .dct ((es.map (·.1)).zip b) else none
      | _ => none
    | .tup xs => (frzs h n k xs).map .tup
    | .lst xs => (frzs h n k xs).map .lst
    | _ => none
def frzs (h : PHeap) (n : Nat) : Nat → List PV → Option (List PV)
  | 0, _ => none
  | k + 1, xs => xs.mapM (frz h n k)
end

def wipeE (env : Env) : List Nat → Env
  | [] => env
  | v :: vs => (wipeE env vs).set v none
mutual
def tgSet : Tg → PV → Env → Option Env
  | .nm i, v, env => if i < env.length then some (env.set i (some v)) else none
  | .tp ts, v, env => match v with
    | .tup xs => if xs.length = ts.length then tgSets ts xs env else none
    | .lst xs => if xs.length = ts.length then tgSets ts xs env else none
    | _ => none
def tgSets : List Tg → List PV → Env → Option Env
  | [], _, env => some env
  | t :: ts, x :: xs, env => match tgSet t x env with
    | some env1 => tgSets ts xs env1
    | none => none
  | _ :: _, [], _ => none
end

def mkList (al : Bool) (vs : List PV) (h : PHeap) : R PV := if al then .ok (.ref h.length) (h ++ [.lst vs]) else .ok (.lst vs) h
def mkDict (al : Bool) (es : List (PV × PV)) (h : PHeap) : R PV := if al then .ok (.ref h.length) (h ++ [.dct es]) else .ok (.dct es) h
abbrev Chk := PHeap → Bool
/-- what a value gives when it is walked, and whether it still stands as it did -/
def srcOf (h : PHeap) : PV → Option (List PV × Chk)
  | .tup xs => some (xs, fun _ => true)
  | .lst xs => some (xs, fun _ => true)
  | .dct es => some (es.map (·.1), fun _ => true)
  | .ref n => match h[n]? with
    | some (.lst xs) => some (xs, fun g => decide (g[n]? = some (.lst xs)))
    | some (.dct es) => some (es.map (·.1), fun _ => false)
    | some (.dctL es) => some (es.map (·.1), fun g => decide (g[n]? = some (.dctL es)))
    | _ => none
  | _ => none
def dictSrc (h : PHeap) : PV → Option (List (PV × PV) × Chk)
  | .dct es => some (es, fun _ => true)
  | .ref n => match h[n]? with
    | some (.dctL es) => some (es, fun g => decide (g[n]? = some (.dctL es)))
    | _ => none
  | _ => none
def seqSrc (h : PHeap) : PV → Option (List PV × Chk)
  | .tup xs => some (xs, fun _ => true)
  | .lst xs => some (xs, fun _ => true)
  | .ref n => match h[n]? with
    | some (.lst xs) => some (xs, fun g => decide (g[n]? = some (.lst xs)))
    | _ => none
  | _ => none
/-- what a loop walks: an unlocked dict of one's own isn't *)-/
def walkSrc (h : PHeap) (v : PV) : Option (List PV × Chk) := match v with
  | .tup xs => some (xs, fun _ => true)
  | .lst xs => some (xs, fun _ => true)
  | .dct es => some (es.map (·.1), fun _ => true)
  | .ref n => match h[n]? with
    | some (.lst xs) => some (xs, fun g => decide (g[n]? = some (.lst xs)))
    | some (.dctL es) => some (es.map (·.1), fun g => decide (g[n]? = some (.dctL es)))
    | _ => none
  | _ => none
def listSrc (h : PHeap) (v : PV) : Option (List PV × Chk) := match v with
  | .lst xs => some (xs, fun _ => true)
  | .ref n => match h[n]? with
    | some (.lst xs) => some (xs, fun g => decide (g[n]? = some (.lst xs)))
    | _ => none
  | _ => none
def zipSrc (h : PHeap) (v w : PV) : Option ((List PV × List PV) × Chk) := match v, w with
  | .tup xs, .tup ys => some ((xs, ys), fun _ => true)
  | v, w => match listSrc h v, listSrc h w with
    | some p, some q => some ((p.1, q.1), fun g => p.2 g && q.2 g)
    | _, _ => none
def pairUp : List PV → Option (List (PV × PV))
  | [] => some []
  | k :: v :: r => (pairUp r).map ((k, v) :: ·)
  | _ => none
def putAll (es : List (PV × PV)) : List (PV × PV) → Option (List (PV × PV))
  | [] => some es
  | (k, v) :: r => if keyOk es k && decide (es.length < LIM) then putAll (dPut es k v) r else none
/-- a display's entries: texts and whole numbers as keys -/
def dispOf (es : List (PV × PV)) : Option (List (PV × PV)) := if es.all (fun e => keyV e.1) then putAll [] es else none
def pairOf : PV → Option (PV × PV)
  | .tup [k, v] => some (k, v)
  | _ => none

def tests (ts : List (Env → PHeap → R Bool)) (env : Env) (h : PHeap) : R Bool := match ts with
  | [] => .ok true h
  | t :: r => (t env h).bind fun b h => if b then tests r env h else .ok false h
/-- a list comprehension's turns -/
def compGo (chk : Chk) (tg : PV → Env → Option Env) (ok : Env → PHeap → R Bool) (elt : Env → PHeap → R PV) (env : Env) : List PV → PHeap → List PV → R (List PV)
  | [], h, acc => if chk h then .ok acc h else .bad
  | x :: xs, h, acc => if chk h then match tg x env with
      | some env1 => (ok env1 h).bind fun b h1 => if b then (elt env1 h1).bind fun y h2 => if acc.length < LIM then compGo chk tg ok elt env xs h2 (acc ++ [y]) else .bad
          else compGo chk tg ok elt env xs h1 acc
      | none => .bad
    else .bad
/-- two clauses; the inner turns by the one-clause ones -/
def comp2Go (chk : Chk) (tg : PV → Env → Option Env) (ok : Env → PHeap → R Bool) (src : Env → PHeap → R (List PV × Chk)) (tg1 : PV → Env → Option Env) (ok1 : Env → PHeap → R Bool) (elt : Env → PHeap → R PV) (vs1 : List Nat) (env : Env) : List PV → PHeap → List PV → R (List PV)
  | [], h, acc => if chk h then .ok acc h else .bad
  | x :: xs, h, acc => if chk h then match tg x env with
      | some env1 => (ok env1 h).bind fun b h1 => if b then (src env1 h1).bind fun p h2 => (compGo p.2 tg1 ok1 elt (wipeE env1 vs1) p.1 h2 acc).bind fun acc h3 => comp2Go chk tg ok src tg1 ok1 elt vs1 env xs h3 acc
          else comp2Go chk tg ok src tg1 ok1 elt vs1 env xs h1 acc
      | none => .bad
    else .bad
def dcompGo (chk : Chk) (tg : PV → Env → Option Env) (ok : Env → PHeap → R Bool) (kx vx : Env → PHeap → R PV) (env : Env) : List PV → PHeap → List (PV × PV) → R (List (PV × PV))
  | [], h, acc => if chk h then .ok acc h else .bad
  | x :: xs, h, acc => if chk h then match tg x env with
      | some env1 => (ok env1 h).bind fun b h1 => if b then (kx env1 h1).bind fun k h2 => (vx env1 h2).bind fun v h3 =>
            if keyOk acc k && decide (acc.length < LIM) then dcompGo chk tg ok kx vx env xs h3 (dPut acc k v) else .bad
          else dcompGo chk tg ok kx vx env xs h1 acc
      | none => .bad
    else .bad
def asInts : List PV → Option (List Int)
  | [] => some []
  | .int i :: r => (asInts r).map (i :: ·)
  | _ => none
def asBools : List PV → Option (List Bool)
  | [] => some []
  | .bl b :: r => (asBools r).map (b :: ·)
  | _ => none
def dOf (v : PV) : PyData := (toD v).getD .none
/-- sorted: the items, if they can be compared -/
def sortOk (xs : List PV) : Bool := match toDs xs with
  | some ds => ds.all (fun d => ds.all fun e => PySem.W.alike d e) && ds.all (fun d => decide (d.depth ≤ 32)) &&
      (ds.all (fun d => match d with
        | .tuple (_ :: _) => true
        | _ => false) || ds.all fun d => match d with
        | .none => false
        | .tuple _ => false
        | _ => true)
  | none => false
def sortV (xs : List PV) : List PV := xs.mergeSort (PySem.W.dataLe false dOf)
/-- the first ones of equal items -/
def dedup : List PV → List PV
  | [] => []
  | x :: xs => x :: (dedup xs).filter fun y => !decide (y = x)
def plainSet (xs : List PV) : Bool := xs.all (fun x => match x with
    | .int _ => true
    | _ => false) || xs.all fun x => match x with
    | .tup ys => (asInts ys).isSome
    | _ => false
def maxI : List Int → Option Int
  | [] => none
  | x :: xs => some (xs.foldl (fun a b => if b > a then b else a) x)
def minI : List Int → Option Int
  | [] => none
  | x :: xs => some (xs.foldl (fun a b => if b < a then b else a) x)
def anySrc (h : PHeap) (v : PV) : Option (List PV) := (srcOf h v).map (·.1)
/-- an entry as a tuple -/
def pairP (e : PV × PV) : PV := .tup [e.1, e.2]
def convop (k : Cnv) (al : Bool) (v : PV) (h : PHeap) : R PV := match k with
  | .list => (R.of (anySrc h v) h).bind fun xs h => mkList al xs h
  | .tuple => (R.of (asSeq h v) h).bind fun xs h => .ok (.tup xs) h
  | .sorted => (R.of (anySrc h v) h).bind fun xs h => if sortOk xs then mkList al (sortV xs) h else .bad
  | .sum => R.of ((asList h v).bind fun xs => (asInts xs).map fun ns => .int ns.sum) h
  | .all => R.of ((asList h v).bind fun xs => (asBools xs).map fun bs => .bl (bs.all id)) h
  | .any => R.of ((asList h v).bind fun xs => (asBools xs).map fun bs => .bl (bs.any id)) h
  | .max => R.of ((asList h v).bind fun xs => ((asInts xs).bind maxI).map .int) h
  | .min => R.of ((asList h v).bind fun xs => ((asInts xs).bind minI).map .int) h
  | .dict => (R.of ((asSeq h v).bind fun xs => (xs.mapM pairOf).bind (putAll [])) h).bind fun es h => mkDict al es h
  | .sortedSet => (R.of (asSeq h v) h).bind fun xs h => if plainSet xs && sortOk xs && decide (xs.length < 64) then mkList al (sortV (dedup xs)) h else .bad
  | .lenSet => (R.of (asSeq h v) h).bind fun xs h => if plainSet xs && decide (xs.length < 64) then .ok (.int (dedup xs).length) h else .bad
  | .sortedItems => (R.of (asDict h v) h).bind fun es h => if sortOk (es.map pairP) && decide (es.length ≤ LIM) then mkList al (sortV (es.map pairP)) h else .bad
/-- of what isn't a value *)-/
def convI (k : Cnv) (al : Bool) (xs : List PV) (h : PHeap) : R PV := match k with
  | .list => if xs.length ≤ LIM then mkList al xs h else .bad
  | .tuple => if xs.length ≤ LIM then .ok (.tup xs) h else .bad
  | .sorted => if sortOk xs && decide (xs.length ≤ LIM) then mkList al (sortV xs) h else .bad
  | _ => .bad
def rangeOf (lo hi : Int) : Option (List PV) := if wide62 lo && wide62 hi then some ((List.range (hi - lo).toNat).map fun (i : Nat) => .int (lo + i)) else none
def intOf : PV → Option Int
  | .int i => some i
  | _ => none
def enumOf (xs : List PV) : List PV := xs.mapIdx fun i x => .tup [.int (i : Nat), x]
def zipOf (xs ys : List PV) : List PV := List.zipWith (fun x y => .tup [x, y]) xs ys

/-- a live dict that is walked by its name is locked as long -/
def lockV (i : Nat) (env : Env) (h : PHeap) : Option Nat := match env[i]? with
  | some (some (.ref n)) => match h[n]? with
    | some (.dct _) => some n
    | _ => none
  | _ => none
def lockE (e : IE) (env : Env) (h : PHeap) : Option Nat := match e with
  | .var i => lockV i env h
  | _ => none
def lockI (it : II) (env : Env) (h : PHeap) : Option Nat := match it with
  | .ex e => lockE e env h
  | .items e => lockE e env h
  | .values e => lockE e env h
  | _ => none
def withLock {α : Type} (lk : Option Nat) (f : PHeap → R α) (h : PHeap) : R α := match lk with
  | none => f h
  | some n => match h[n]? with
    | some (.dct es) => (f (h.set n (.dctL es))).bind fun r g => if g[n]? = some (.dctL es) then .ok r (g.set n (.dct es)) else .bad
    | _ => .bad
section
variable (ctx : List Sem)
mutual
def dE : IE → Env → PHeap → R PV
  | .var i, env, h => match env[i]? with
    | some (some v) => .ok v h
    | _ => .bad
  | .cst v, _, h => .ok v h
  | .glob _ v, _, h => .ok v h
  | .tup es, env, h => (dEs es env h).bind fun vs h => .ok (.tup vs) h
  | .lst al es, env, h => (dEs es env h).bind fun vs h => mkList al vs h
  | .dct al kvs, env, h => (dEs kvs env h).bind fun vs h => (R.of ((pairUp vs).bind dispOf) h).bind fun es h => mkDict al es h
  | .bin op a b, env, h => (dE a env h).bind fun x h => (dE b env h).bind fun y h => R.of (binop op x y h) h
  | .neg a, env, h => (dE a env h).bind fun x h => R.of ((intOf x).map fun i => .int (-i)) h
  | .not a, env, h => (dE a env h).bind fun x h => R.of ((tru h x).map fun c => .bl (!c)) h
  | .cmp op a b, env, h => (dE a env h).bind fun x h => (dE b env h).bind fun y h => R.of ((cmpop op x y h).map .bl) h
  | .cmp2 op op' a b c, env, h => (dE a env h).bind fun x h => (dE b env h).bind fun y h => (R.of (cmpop op x y h) h).bind fun t h =>
      if t then (dE c env h).bind fun z h => R.of ((cmpop op' y z h).map .bl) h else .ok (.bl false) h
  | .and a b, env, h => (dE a env h).bind fun x h => (R.of (tru h x) h).bind fun t h => if t then dE b env h else .ok x h
  | .or a b, env, h => (dE a env h).bind fun x h => (R.of (tru h x) h).bind fun t h => if t then .ok x h else dE b env h
  | .ife c a b, env, h => (dE c env h).bind fun x h => (R.of (tru h x) h).bind fun t h => if t then dE a env h else dE b env h
  | .sub a i, env, h => (dE a env h).bind fun x h => (dE i env h).bind fun y h => R.of (itemOf h x y) h
  | .slice a lo hi, env, h => (dE a env h).bind fun x h => (dO lo env h).bind fun l h => (dO hi env h).bind fun u h => R.of (sliceOf h x l u) h
  | .rev a st, env, h => (dE a env h).bind fun x h => (dE st env h).bind fun y h => R.of (if y = .int (-1) then revOf h x else none) h
  | .call f es, env, h => (dEs es env h).bind fun vs h => (ctx.getD f fun _ _ => .bad) vs h
  | .blt f es, env, h => (dEs es env h).bind fun vs h => R.of (bltop f vs h) h
  | .meth m o es, env, h => (dE o env h).bind fun x h => if recv m h x then (dEs es env h).bind fun vs h => methop m x vs h else .bad
  | .conv k al e, env, h => (dE e env h).bind fun v h => convop k al v h
  | .convI k al it, env, h => withLock (lockI it env h) (fun h => (dI it env h).bind fun p h => convI k al p.1 h) h
  | .comp al own tg it ifs elt, env, h => withLock (lockI it env h) (fun h => (dI it env h).bind fun p h =>
      (compGo p.2 (tgSet tg) (dIfs ifs) (dE elt) (wipeE env own) p.1 h []).bind fun acc h => mkList al acc h) h
  | .comp2 al own tg it ifs own1 tg1 it1 ifs1 elt, env, h => withLock (lockI it env h) (fun h => (dI it env h).bind fun p h =>
      (comp2Go p.2 (tgSet tg) (dIfs ifs) (dI it1) (tgSet tg1) (dIfs ifs1) (dE elt) own1 (wipeE env own) p.1 h []).bind fun acc h => mkList al acc h) h
  | .dcomp al own tg it ifs k v, env, h => withLock (lockI it env h) (fun h => (dI it env h).bind fun p h =>
      (dcompGo p.2 (tgSet tg) (dIfs ifs) (dE k) (dE v) (wipeE env own) p.1 h []).bind fun acc h => mkDict al acc h) h
def dEs : IEs → Env → PHeap → R (List PV)
  | .nil, _, h => .ok [] h
  | .cons e es, env, h => (dE e env h).bind fun v h => (dEs es env h).bind fun vs h => .ok (v :: vs) h
def dIfs : IEs → Env → PHeap → R Bool
  | .nil, _, h => .ok true h
  | .cons e es, env, h => (dE e env h).bind fun v h => (R.of (tru h v) h).bind fun t h => if t then dIfs es env h else .ok false h
def dO : IO → Env → PHeap → R (Option Int)
  | .none, _, h => .ok none h
  | .some e, env, h => (dE e env h).bind fun v h => (R.of (intOf v) h).bind fun i h => .ok (some i) h
def dI : II → Env → PHeap → R (List PV × Chk)
  | .ex e, env, h => (dE e env h).bind fun v h => R.of (walkSrc h v) h
  | .rng1 a, env, h => (dE a env h).bind fun v h => (R.of ((intOf v).bind (rangeOf 0)) h).bind fun xs h => .ok (xs, fun _ => true) h
  | .rng2 a b, env, h => (dE a env h).bind fun v h => (dE b env h).bind fun w h => (R.of ((intOf v).bind fun i => (intOf w).bind (rangeOf i)) h).bind fun xs h => .ok (xs, fun _ => true) h
  | .enum e, env, h => (dE e env h).bind fun v h => (R.of (listSrc h v) h).bind fun p h => .ok (enumOf p.1, p.2) h
  | .zip a b, env, h => (dE a env h).bind fun v h => (dE b env h).bind fun w h => (R.of (zipSrc h v w) h).bind fun p h => .ok (zipOf p.1.1 p.1.2, p.2) h
  | .items d, env, h => (dE d env h).bind fun v h => (R.of (dictSrc h v) h).bind fun p h => .ok (p.1.map fun e => .tup [e.1, e.2], p.2) h
  | .values d, env, h => (dE d env h).bind fun v h => (R.of (dictSrc h v) h).bind fun p h => .ok (p.1.map (·.2), p.2) h
end
def dT (e : IE) (env : Env) (h : PHeap) : R Bool := (dE ctx e env h).bind fun v h => R.of (tru h v) h

/-- to a target -/
def dTg : ITgt → PV → Env → PHeap → R Env
  | .tg t, v, env, h => R.of (tgSet t v env) h
  | .sub o i, v, env, h => (dE ctx o env h).bind fun x h => (dE ctx i env h).bind fun y h => match putItem h x y v with
    | some h' => .ok env h'
    | none => .bad
def dTgs : List ITgt → List PV → Env → PHeap → R Env
  | [], [], env, h => .ok env h
  | t :: ts, v :: vs, env, h => (dTg ctx t v env h).bind fun env h => dTgs ts vs env h
  | _, _, _, _ => .bad
/-- a for's turns -/
def forGo (chk : Chk) (tg : PV → Env → Option Env) (body : Env → PHeap → R Out) : List PV → Env → PHeap → R Out
  | [], env, h => if chk h then .ok (.nx env) h else .bad
  | x :: xs, env, h => if chk h then match tg x env with
      | some env1 => (body env1 h).bind fun o h1 => match o with
        | .nx e => forGo chk tg body xs e h1
        | .ct e => forGo chk tg body xs e h1
        | .bk e => .ok (.nx e) h1
        | .rt v => .ok (.rt v) h1
      | none => .bad
    else .bad
def whileGo (test : Env → PHeap → R Bool) (body : Env → PHeap → R Out) : Nat → Env → PHeap → R Out
  | 0, _, _ => .bad
  | n + 1, env, h => (test env h).bind fun t h => if t then (body env h).bind fun o h1 => match o with
      | .nx e => whileGo test body n e h1
      | .ct e => whileGo test body n e h1
      | .bk e => .ok (.nx e) h1
      | .rt v => .ok (.rt v) h1
    else .ok (.nx env) h
mutual
def dS : IS → Env → PHeap → R Out
  | .expr e, env, h => (dE ctx e env h).bind fun _ h => .ok (.nx env) h
  | .asg t e, env, h => (dE ctx e env h).bind fun v h => (dTg ctx t v env h).bind fun env h => .ok (.nx env) h
  | .par ts es, env, h => (dEs ctx es env h).bind fun vs h => (dTgs ctx ts vs env h).bind fun env h => .ok (.nx env) h
  | .aug i op e, env, h => match env[i]? with
    | some (some x) => (dE ctx e env h).bind fun y h => (R.of (match x, y with
        | .int _, .int _ => binop op x y h
        | _, _ => none) h).bind fun z h => .ok (.nx (env.set i (some z))) h
    | _ => .bad
  | .augS o i op e, env, h => (dE ctx o env h).bind fun x h => (dE ctx i env h).bind fun k h => (R.of (itemOf h x k) h).bind fun old h => (dE ctx e env h).bind fun y h =>
      (R.of (match old, y with
        | .int _, .int _ => binop op old y h
        | _, _ => none) h).bind fun z h => match putItem h x k z with
        | some h' => .ok (.nx env) h'
        | none => .bad
  | .ret e, env, h => (dE ctx e env h).bind fun v h => .ok (.rt v) h
  | .retN, _, h => .ok (.rt .non) h
  | .pass, env, h => .ok (.nx env) h
  | .brk, env, h => .ok (.bk env) h
  | .cont, env, h => .ok (.ct env) h
  | .ifs c a b, env, h => (dT ctx c env h).bind fun t h => if t then dSs a env h else dSs b env h
  | .for_ tg it b, env, h => withLock (lockI it env h) (fun h => (dI ctx it env h).bind fun p h => forGo p.2 (tgSet tg) (dSs b) p.1 env h) h
  | .while_ n c b, env, h => whileGo (dT ctx c) (dSs b) n env h
  | .raise_ x, _, h => .exc x h
def dSs : ISs → Env → PHeap → R Out
  | .nil, env, h => .ok (.nx env) h
  | .cons s ss, env, h => (dS s env h).bind fun o h => match o with
    | .nx env => dSs ss env h
    | o => .ok o h
end
end
/-- a def: how many parameters, how many names, what it does, whether the cells that it makes are kept -/
structure IFun where
  np : Nat
  n : Nat
  body : ISs
  keep : Bool := false
def finish (keep : Bool) (h : PHeap) (v : PV) (h1 : PHeap) : R PV := if keep then .ok v h1 else if okOuter h h1 && decide (h.length ≤ h1.length) then match frz h1 h.length 12 v with
    | some v' => .ok v' (h1.take h.length)
    | none => .bad
  else .bad
def runFn (f : IFun) (ctx : List Sem) : Sem := fun args h => if args.length = f.np then
    (dSs ctx f.body (args.map some ++ List.replicate (f.n - f.np) none) h).bind fun o h1 => match o with
      | .rt v => finish f.keep h v h1
      | .nx _ => finish f.keep h .non h1
      | _ => .bad
  else .bad
end HW
/-! HwC: how the evaluator's values and heap stand in the model's. -/
namespace HW
open PySem PySem.Spec PyProof.Rows L2

structure Wd where
  P : Program
  w : World
  K : PySem.W.Frag
abbrev wd (X : Cx) : Wd := ⟨X.prog, X.w, X.K⟩

def kP : L2.Key → PV
  | .inl i => .int i
  | .inr s => .str s
/-- a dict whose keys are tuples, nested -/
def dictB (P : Program) (w : World) (a : Addr) (xs : List (NestedKey × Addr × V)) : HO := .ext fun h => ∃ ys : List (NestedKey × Addr × Value), Paired (fun (p : NestedKey × Addr × V) (q : NestedKey × Addr × Value) => p.1 = q.1 ∧ p.2.1 = q.2.1 ∧ RelV p.2.2 q.2.2) xs ys ∧
  xs.length ≤ sizeLine ∧ (a == sysModules) = false ∧ (xs.map (·.1)).Nodup ∧ ∃ o es ep, h.get? a = some o ∧ o.ExactDict ∧ o.data = .dict es ep ∧ es.toList = ys.map (entryOfKey (nestedKind P w))

/-- a tuple stands at a: its object has no dict of its own -/
def TupAt (H : Hp) (a : Addr) (vs : List V) : Prop := ∃ o : Obj, H a = some (.frz o (.tup vs)) ∧ o.dict = none
theorem TupAt.sq {K : PySem.W.Frag} {H : Hp} {a : Addr} {vs : List V} (x : TupAt H a vs) : SqT K H a vs := let ⟨o, h, _⟩ := x; .inl (.inr ⟨o, h⟩)
/-- what is known there, its object fixed -/
def FzAt (H : Hp) (a : Addr) (u : HO) : Prop := ∃ o : Obj, H a = some (.frz o u)
mutual
inductive VR (Z : Wd) (L : List Addr) (H : Hp) : PV → V → Prop
  | non : VR Z L H .non .non
  | bl (b : Bool) : VR Z L H (.bl b) (.bl b)
  | int (i : Int) : VR Z L H (.int i) (.int i)
  | str (s : Str) : VR Z L H (.str s) (.str s)
  | tup {a : Addr} {xs : List PV} {vs : List V} : TupAt H a vs → a ∉ L → VRs Z L H xs vs → VR Z L H (.tup xs) (.ref a)
  | lst {a : Addr} {xs : List PV} {vs : List V} : FzAt H a (.lst vs) → a ∉ L → VRs Z L H xs vs → VR Z L H (.lst xs) (.ref a)
  | scr {a : Addr} {ns : List Int} : FzAt H a (.lst (ns.map V.int)) → a ∉ L → VR Z L H (.scr ns) (.ref a)
  | scrK {a : Addr} {ns : List Int} : (∀ G, SqL Z.K G a (ns.map V.int)) → VR Z L H (.scr ns) (.ref a)
  | dctK {a : Addr} {es : List (PV × PV)} {kvs : List (Key × V)} : FzAt H a (.dK kvs) → a ∉ L → es.map (·.1) = kvs.map (fun p => kP p.1) → VRs Z L H (es.map (·.2)) (kvs.map (·.2)) → VR Z L H (.dct es) (.ref a)
  | dctT {a : Addr} {es : List (PV × PV)} {xs : List (NestedKey × Addr × V)} : FzAt H a (dictB Z.P Z.w a xs) → a ∉ L → es ≠ [] → toNs (es.map (·.1)) = some (xs.map (·.1)) → (es.all fun e => keyT e.1) = true →
      VRs Z L H (es.map (·.1)) (xs.map fun x => .ref x.2.1) → VRs Z L H (es.map (·.2)) (xs.map (·.2.2)) → VR Z L H (.dct es) (.ref a)
  | ref {n : Nat} {a : Addr} : L[n]? = some a → VR Z L H (.ref n) (.ref a)
inductive VRs (Z : Wd) (L : List Addr) (H : Hp) : List PV → List V → Prop
  | nil : VRs Z L H [] []
  | cons {x : PV} {v : V} {xs : List PV} {vs : List V} : VR Z L H x v → VRs Z L H xs vs → VRs Z L H (x :: xs) (v :: vs)
end
/-- the dict at a, by its entries -/
inductive DP (Z : Wd) (L : List Addr) (H : Hp) (a : Addr) (W : HO → Prop) (es : List (PV × PV)) : Prop
  | k {kvs : List (Key × V)} : W (.dK kvs) → es.map (·.1) = kvs.map (fun p => kP p.1) → VRs Z L H (es.map (·.2)) (kvs.map (·.2)) → DP Z L H a W es
  | t {xs : List (NestedKey × Addr × V)} : W (dictB Z.P Z.w a xs) → es ≠ [] → toNs (es.map (·.1)) = some (xs.map (·.1)) → (es.all fun e => keyT e.1) = true →
      VRs Z L H (es.map (·.1)) (xs.map fun x => .ref x.2.1) → VRs Z L H (es.map (·.2)) (xs.map (·.2.2)) → DP Z L H a W es
/-- .. read; written; locked -/
abbrev DR (Z : Wd) (L : List Addr) (H : Hp) (a : Addr) (es : List (PV × PV)) : Prop := DP Z L H a (Rd H a) es
abbrev DX (Z : Wd) (L : List Addr) (H : Hp) (a : Addr) (es : List (PV × PV)) : Prop := DP Z L H a (fun u => H a = some u) es
abbrev DL (Z : Wd) (L : List Addr) (H : Hp) (a : Addr) (es : List (PV × PV)) : Prop := DP Z L H a (FzAt H a) es
theorem DP.imp {Z : Wd} {L : List Addr} {H : Hp} {a : Addr} {W W' : HO → Prop} {es : List (PV × PV)} (h : ∀ u, W u → W' u) : DP Z L H a W es → DP Z L H a W' es
  | .k h1 h2 h3 => .k (h _ h1) h2 h3
  | .t h1 h0 h2 h3 h4 h5 => .t (h _ h1) h0 h2 h3 h4 h5
theorem DP.rd {Z : Wd} {L : List Addr} {H : Hp} {a : Addr} {es : List (PV × PV)} (h : DX Z L H a es) : DR Z L H a es := h.imp fun _ => .inl
theorem DP.rdL {Z : Wd} {L : List Addr} {H : Hp} {a : Addr} {es : List (PV × PV)} (h : DL Z L H a es) : DR Z L H a es := h.imp fun _ => .inr
def CR (Z : Wd) (L : List Addr) (H : Hp) (a : Addr) : Cell → Prop
  | .lst xs => ∃ vs, H a = some (.lst vs) ∧ VRs Z L H xs vs
  | .dct es => DX Z L H a es
  | .dctL es => DL Z L H a es
  | .obj _ _ => False
structure Ext (L : List Addr) (H : Hp) (L' : List Addr) (H' : Hp) : Prop where
  pre : ∃ M, L' = L ++ M ∧ ∀ a ∈ M, H a = none
  keep : ∀ a o, a ∉ L → H a = some o → H' a = some o
  dom : ∀ a, H a ≠ none → H' a ≠ none
  frz : ∀ a o u, H a = some (.frz o u) → H' a = some (.frz o u)
structure HR (Z : Wd) (L : List Addr) (h : PHeap) (H : Hp) : Prop where
  len : L.length = h.length
  nd : L.Nodup
  cell : ∀ (n : Nat) (c : Cell) (a : Addr), h[n]? = some c → L[n]? = some a → CR Z L H a c

section
variable {Z : Wd} {L L' L'' : List Addr} {H H' H'' : Hp} {h h' : PHeap}
theorem Ext.refl : Ext L H L H := ⟨⟨[], by simp, by simp⟩, fun _ _ _ e => e, fun _ e => e, fun _ _ _ e => e⟩
theorem Ext.trans (e : Ext L H L' H') (f : Ext L' H' L'' H'') (hl : ∀ a ∈ L, H a ≠ none) : Ext L H L'' H'' := by
  obtain ⟨M, rfl, hM⟩ := e.pre
  obtain ⟨N, rfl, hN⟩ := f.pre
  refine ⟨⟨M ++ N, by simp, fun a ha => ?_⟩, fun a o hn ho => ?_, fun a x => f.dom a (e.dom a x), fun a o u x => f.frz a o u (e.frz a o u x)⟩
  · rcases List.mem_append.mp ha with q | q
    · exact hM a q
    · have := hN a q
      cases hh : H a with
      | none => rfl
      | some o => exact absurd this (e.dom a (by rw [hh]; simp))
  · refine f.keep a o (fun q => ?_) (e.keep a o hn ho)
    rcases List.mem_append.mp q with q | q
    · exact hn q
    · rw [hM a q] at ho; cases ho
theorem Ext.mem (e : Ext L H L' H') {a : Addr} {o : HO} (hn : a ∉ L) (ho : H a = some o) : a ∉ L' := by
  obtain ⟨M, rfl, hM⟩ := e.pre
  intro q
  rcases List.mem_append.mp q with q | q
  · exact hn q
  · rw [hM a q] at ho; cases ho
theorem Ext.get (e : Ext L H L' H') {n : Nat} {a : Addr} (x : L[n]? = some a) : L'[n]? = some a := by
  obtain ⟨M, rfl, hM⟩ := e.pre
  obtain ⟨hl, rfl⟩ := List.getElem?_eq_some_iff.mp x
  rw [List.getElem?_append_left hl]
  exact x
theorem Ext.rd (e : Ext L H L' H') {a : Addr} {u : HO} (hn : a ∉ L) (x : Rd H a u) : Rd H' a u ∧ a ∉ L' := by
  rcases x with x | ⟨o, x⟩
  · exact ⟨.inl (e.keep _ _ hn x), e.mem hn x⟩
  · exact ⟨.inr ⟨o, e.keep _ _ hn x⟩, e.mem hn x⟩
theorem Ext.tup (e : Ext L H L' H') {a : Addr} {vs : List V} (hn : a ∉ L) (x : TupAt H a vs) : TupAt H' a vs ∧ a ∉ L' := by
  obtain ⟨o, h1, h2⟩ := x
  exact ⟨⟨o, e.keep _ _ hn h1, h2⟩, e.mem hn h1⟩
theorem Ext.fz (e : Ext L H L' H') {a : Addr} {u : HO} (hn : a ∉ L) (x : FzAt H a u) : FzAt H' a u ∧ a ∉ L' := let ⟨o, h⟩ := x; ⟨⟨o, e.keep _ _ hn h⟩, e.mem hn h⟩
mutual
theorem VR.mono (e : Ext L H L' H') : ∀ {p : PV} {v : V}, VR Z L H p v → VR Z L' H' p v
  | _, _, .non => .non
  | _, _, .bl b => .bl b
  | _, _, .int b => .int b
  | _, _, .str b => .str b
  | _, _, .tup h1 h2 h3 => .tup (e.tup h2 h1).1 (e.tup h2 h1).2 (VRs.mono e h3)
  | _, _, .lst h1 h2 h3 => .lst (e.fz h2 h1).1 (e.fz h2 h1).2 (VRs.mono e h3)
  | _, _, .scr h1 h2 => .scr (e.fz h2 h1).1 (e.fz h2 h1).2
  | _, _, .scrK h1 => .scrK h1
  | _, _, .dctK h1 h2 h3 h4 => .dctK (e.fz h2 h1).1 (e.fz h2 h1).2 h3 (VRs.mono e h4)
  | _, _, .dctT h1 h2 h0 h3 h4 h5 h6 => .dctT (e.fz h2 h1).1 (e.fz h2 h1).2 h0 h3 h4 (VRs.mono e h5) (VRs.mono e h6)
  | _, _, .ref h1 => .ref (e.get h1)
theorem VRs.mono (e : Ext L H L' H') : ∀ {p : List PV} {v : List V}, VRs Z L H p v → VRs Z L' H' p v
  | _, _, .nil => .nil
  | _, _, .cons h1 h2 => .cons (VR.mono e h1) (VRs.mono e h2)
end
theorem VRs.length : ∀ {p : List PV} {v : List V}, VRs Z L H p v → v.length = p.length
  | _, _, .nil => rfl
  | _, _, .cons _ h2 => by simp [VRs.length h2]
theorem VRs.append : ∀ {p q : List PV} {v u : List V}, VRs Z L H p v → VRs Z L H q u → VRs Z L H (p ++ q) (v ++ u)
  | _, _, _, _, .nil, x => x
  | _, _, _, _, .cons h1 h2, x => .cons h1 (VRs.append h2 x)
theorem VRs.get : ∀ {p : List PV} {v : List V} {i : Nat} {x : V}, VRs Z L H p v → v[i]? = some x → ∃ y, p[i]? = some y ∧ VR Z L H y x
  | _, _, _, _, .nil, e => by simp at e
  | _, _, 0, x, .cons h1 _, e => by simp at e; subst e; exact ⟨_, rfl, h1⟩
  | _, _, i + 1, x, .cons _ h2, e => by
    obtain ⟨y, h3, h4⟩ := VRs.get (i := i) h2 (by simpa using e)
    exact ⟨y, by simpa using h3, h4⟩
theorem VRs.get' {p : List PV} {v : List V} {i : Nat} {y : PV} (r : VRs Z L H p v) (e : p[i]? = some y) : ∃ x, v[i]? = some x ∧ VR Z L H y x := by
  have hl := r.length
  obtain ⟨hi, _⟩ := List.getElem?_eq_some_iff.mp e
  have hi' : i < v.length := by omega
  obtain ⟨y', e1, r1⟩ := r.get (List.getElem?_eq_getElem hi')
  rw [e] at e1; cases e1
  exact ⟨_, List.getElem?_eq_getElem hi', r1⟩
theorem VRs.take : ∀ {p : List PV} {v : List V} (n : Nat), VRs Z L H p v → VRs Z L H (p.take n) (v.take n)
  | _, _, 0, _ => .nil
  | _, _, _ + 1, .nil => .nil
  | _, _, n + 1, .cons r t => .cons r (VRs.take n t)
theorem VRs.drop : ∀ {p : List PV} {v : List V} (n : Nat), VRs Z L H p v → VRs Z L H (p.drop n) (v.drop n)
  | _, _, 0, r => r
  | _, _, _ + 1, .nil => .nil
  | _, _, n + 1, .cons _ t => VRs.drop n t
theorem VRs.set {x : V} {y : PV} (r : VR Z L H y x) : ∀ {p : List PV} {v : List V} (i : Nat), VRs Z L H p v → VRs Z L H (p.set i y) (v.set i x)
  | _, _, _, .nil => .nil
  | _, _, 0, .cons _ t => .cons r t
  | _, _, i + 1, .cons q t => .cons q (VRs.set r i t)
theorem VRs.rep {xs : List PV} {us : List V} (h : VRs Z L H xs us) : ∀ k : Nat, VRs Z L H (List.replicate k xs).flatten (List.replicate k us).flatten
  | 0 => .nil
  | k + 1 => by
    rw [List.replicate_succ, List.replicate_succ, List.flatten_cons, List.flatten_cons]
    exact h.append (VRs.rep h k)
theorem VRs.dropLast {p : List PV} {v : List V} (h : VRs Z L H p v) : VRs Z L H p.dropLast v.dropLast := by
  rw [List.dropLast_eq_take, List.dropLast_eq_take, h.length]
  exact h.take _
theorem VRs.eraseIdx : ∀ {p : List PV} {v : List V} (i : Nat), VRs Z L H p v → VRs Z L H (p.eraseIdx i) (v.eraseIdx i)
  | _, _, _, .nil => .nil
  | _, _, 0, .cons _ t => t
  | _, _, i + 1, .cons q t => .cons q (VRs.eraseIdx i t)
theorem VRs.snoc {p : List PV} {v : List V} {x : PV} {y : V} (h : VRs Z L H p v) (r : VR Z L H x y) : VRs Z L H (p ++ [x]) (v ++ [y]) := h.append (.cons r .nil)
theorem VRs.reverse : ∀ {p : List PV} {v : List V}, VRs Z L H p v → VRs Z L H p.reverse v.reverse
  | _, _, .nil => .nil
  | _, _, .cons r t => by
    rw [List.reverse_cons, List.reverse_cons]
    exact (VRs.reverse t).snoc r
theorem DP.mono (e : Ext L H L' H') {a : Addr} {W W' : HO → Prop} {es : List (PV × PV)} (ha : ∀ o, W o → W' o) (x : DP Z L H a W es) : DP Z L' H' a W' es := by
  cases x with
  | k h1 h2 h3 => exact .k (ha _ h1) h2 (h3.mono e)
  | t h1 h0 h2 h3 h4 h5 => exact .t (ha _ h1) h0 h2 h3 (h4.mono e) (h5.mono e)
theorem FzAt.keep {a : Addr} {u : HO} (ha : ∀ o, H a = some o → H' a = some o) (x : FzAt H a u) : FzAt H' a u := let ⟨o, h⟩ := x; ⟨o, ha _ h⟩
theorem CR.mono (e : Ext L H L' H') {a : Addr} {c : Cell} (ha : ∀ o, H a = some o → H' a = some o) (x : CR Z L H a c) : CR Z L' H' a c := by
  cases c with
  | lst xs => obtain ⟨vs, h1, h2⟩ := x; exact ⟨vs, ha _ h1, h2.mono e⟩
  | dct es => exact DP.mono e ha x
  | dctL es => exact DP.mono e (fun _ => FzAt.keep ha) x
  | obj _ _ => exact x
theorem Rd.isSome_ {a : Addr} {u : HO} (x : Rd H a u) : H a ≠ none := by
  rcases x with x | ⟨o, x⟩ <;> rw [x] <;> simp
theorem DP.isSome_ {a : Addr} {es : List (PV × PV)} (x : DR Z L H a es) : H a ≠ none := by
  cases x with
  | k h1 _ _ => exact Rd.isSome_ h1
  | t h1 _ _ _ _ _ => exact Rd.isSome_ h1
theorem CR.isSome_ {a : Addr} {c : Cell} (x : CR Z L H a c) : H a ≠ none := by
  cases c with
  | lst xs => obtain ⟨vs, h1, _⟩ := x; rw [h1]; simp
  | dct es => exact DP.isSome_ (DP.rd x)
  | dctL es => exact DP.isSome_ (DP.rdL x)
  | obj _ _ => exact x.elim
theorem HR.there (r : HR Z L h H) {a : Addr} (ha : a ∈ L) : H a ≠ none := by
  obtain ⟨n, hn⟩ := List.mem_iff_getElem?.mp ha
  obtain ⟨hl, _⟩ := List.getElem?_eq_some_iff.mp hn
  have := r.len
  exact (r.cell n _ a (List.getElem?_eq_getElem (by omega)) hn).isSome_
theorem HR.free (r : HR Z L h H) {a : Addr} (ha : H a = none) : a ∉ L := fun q => r.there q ha
theorem Ext.tr (e : Ext L H L' H') (r : HR Z L h H) (f : Ext L' H' L'' H'') : Ext L H L'' H'' := e.trans f fun _ => r.there
theorem HR.addr (r : HR Z L h H) {n : Nat} {c : Cell} (e : h[n]? = some c) : ∃ a, L[n]? = some a ∧ CR Z L H a c := by
  obtain ⟨hl, _⟩ := List.getElem?_eq_some_iff.mp e
  have := r.len
  have hL : n < L.length := by omega
  exact ⟨_, List.getElem?_eq_getElem hL, r.cell n c _ e (List.getElem?_eq_getElem hL)⟩
/-- a new object that is not live -/
theorem ext_new {p : Addr} {o : HO} (hp : H p = none) : Ext L H L (upd H p o) := by
  refine ⟨⟨[], by simp, by simp⟩, fun a u _ e => ?_, fun a e => ?_, fun a o' u e => ?_⟩
  · rw [upd_ne (ne_of_none e hp)]; exact e
  · unfold upd; split
    · simp
    · exact e
  · rw [upd_ne (ne_of_none e hp)]; exact e
theorem HR.new {p : Addr} {o : HO} (r : HR Z L h H) (hp : H p = none) : HR Z L h (upd H p o) :=
  ⟨r.len, r.nd, fun n c a h1 h2 => (r.cell n c a h1 h2).mono (ext_new hp) fun u e => by rw [upd_ne (ne_of_none e hp)]; exact e⟩
/-- a new live one -/
theorem ext_live {p : Addr} {o : HO} (hp : H p = none) : Ext L H (L ++ [p]) (upd H p o) := by
  refine ⟨⟨[p], rfl, by simp [hp]⟩, fun a u _ e => ?_, fun a e => ?_, fun a o' u e => ?_⟩
  · rw [upd_ne (ne_of_none e hp)]; exact e
  · unfold upd; split
    · simp
    · exact e
  · rw [upd_ne (ne_of_none e hp)]; exact e
theorem HR.live {p : Addr} {o : HO} {c : Cell} (r : HR Z L h H) (hp : H p = none) (x : CR Z (L ++ [p]) (upd H p o) p c) : HR Z (L ++ [p]) (h ++ [c]) (upd H p o) := by
  refine ⟨by simp [r.len], ?_, fun n c' a h1 h2 => ?_⟩
  · rw [List.nodup_append]
    refine ⟨r.nd, by simp, fun a ha b hb => ?_⟩
    simp only [List.mem_singleton] at hb
    subst hb
    intro e
    subst e
    exact r.free hp ha
  · by_cases hn : n < L.length
    · have hn' : n < h.length := by have := r.len; omega
      rw [List.getElem?_append_left hn'] at h1
      rw [List.getElem?_append_left hn] at h2
      exact (r.cell n c' a h1 h2).mono (ext_live hp) fun u e => by rw [upd_ne (ne_of_none e hp)]; exact e
    · have hl : n < (L ++ [p]).length := (List.getElem?_eq_some_iff.mp h2).1
      have en : n = L.length := by simp at hl; omega
      have en' : n = h.length := by rw [en, r.len]
      rw [en'] at h1
      rw [en] at h2
      simp at h1 h2
      subst h1 h2
      exact x
/-- nothing that is fixed -/
def NF (H : Hp) (p : Addr) : Prop := ∀ o u, H p ≠ some (.frz o u)
theorem nf_lst {p : Addr} {vs : List V} (h : H p = some (.lst vs)) : NF H p := fun o u e => by rw [h] at e; cases e
theorem nf_dx {p : Addr} {es : List (PV × PV)} (h : DX Z L H p es) : NF H p := fun o u e => by
  cases h with
  | k h1 _ _ => rw [h1] at e; cases e
  | t h1 _ _ _ _ _ => rw [h1] at e; cases e
theorem ext_write {p : Addr} {o : HO} (hp : p ∈ L) (hf : NF H p) : Ext L H L (upd H p o) := by
  refine ⟨⟨[], by simp, by simp⟩, fun a u hn e => ?_, fun a e => ?_, fun a o' u e => ?_⟩
  · rw [upd_ne (fun q => hn (by rw [q]; exact hp))]; exact e
  · unfold upd; split
    · simp
    · exact e
  · rw [upd_ne (fun q => hf o' u (by rw [← q]; exact e))]; exact e
theorem HR.write {p : Addr} {o : HO} {n : Nat} {c : Cell} (r : HR Z L h H) (hp : L[n]? = some p) (hf : NF H p) (x : CR Z L (upd H p o) p c) : HR Z L (h.set n c) (upd H p o) := by
  have hm : p ∈ L := List.mem_of_getElem? hp
  refine ⟨by simp [r.len], r.nd, fun m c' a h1 h2 => ?_⟩
  by_cases hmn : m = n
  · subst hmn
    rw [hp] at h2; cases h2
    have hn : m < h.length := by have := r.len; have := (List.getElem?_eq_some_iff.mp hp).1; omega
    rw [List.getElem?_set_self hn] at h1
    cases h1
    exact x
  · rw [List.getElem?_set_ne (Ne.symm hmn)] at h1
    have hap : a ≠ p := fun e => by
      subst e
      have := (List.getElem?_inj (List.getElem?_eq_some_iff.mp h2).1 r.nd).mp (h2.trans hp.symm)
      exact hmn this
    exact (r.cell m c' a h1 h2).mono (ext_write hm hf) fun u e => by rw [upd_ne hap]; exact e
end
/-- what is wanted of an answer -/
def Post (Z : Wd) (L : List Addr) (H : Hp) (v : PV) (h' : PHeap) (Q : VK) : Prop := ∀ x L' H', Ext L H L' H' → HR Z L' h' H' → VR Z L' H' v x → Q x H'
/-- the names' values -/
structure ER (Z : Wd) (L : List Addr) (H : Hp) (env : Env) (σ : L2.St) : Prop where
  len : env.length = σ.length
  at_ : ∀ (i : Nat) (v : PV), env[i]? = some (some v) → ∃ x, σ[i]? = some (some x) ∧ VR Z L H v x
section
variable {Z : Wd} {L L' L'' : List Addr} {H H' H'' : Hp} {h h' : PHeap} {env : Env} {σ : L2.St}
theorem ER.mono (e : Ext L H L' H') (x : ER Z L H env σ) : ER Z L' H' env σ := ⟨x.len, fun i v h1 => let ⟨y, h2, h3⟩ := x.at_ i v h1; ⟨y, h2, h3.mono e⟩⟩
theorem ER.set {i : Nat} {v : PV} {y : V} (x : ER Z L H env σ) (r : VR Z L H v y) : ER Z L H (env.set i (some v)) (σ.set i (some y)) := by
  refine ⟨by simp [x.len], fun j u h1 => ?_⟩
  by_cases hj : j = i
  · subst hj
    have hl : j < env.length := by
      have := (List.getElem?_eq_some_iff.mp h1).1
      simpa using this
    rw [List.getElem?_set_self hl] at h1
    cases h1
    exact ⟨y, List.getElem?_set_self (by rw [← x.len]; exact hl), r⟩
  · rw [List.getElem?_set_ne (Ne.symm hj)] at h1
    obtain ⟨z, h2, h3⟩ := x.at_ j u h1
    exact ⟨z, by rw [List.getElem?_set_ne (Ne.symm hj)]; exact h2, h3⟩
theorem wipe_len (env : Env) : ∀ vs : List Nat, (wipeE env vs).length = env.length
  | [] => rfl
  | v :: vs => by rw [wipeE, List.length_set, wipe_len env vs]
theorem ER.wipe (x : ER Z L H env σ) : ∀ vs : List Nat, ER Z L H (wipeE env vs) (L2.wipe σ vs)
  | [] => x
  | v :: vs => by
    have ih := ER.wipe x vs
    refine ⟨by rw [wipe_len, L2.wipe_length]; exact x.len, fun j u h1 => ?_⟩
    rw [wipeE] at h1
    rw [L2.wipe]
    by_cases hj : j = v
    · subst hj
      by_cases hl : j < (wipeE env vs).length
      · rw [List.getElem?_set_self hl] at h1; cases h1
      · rw [List.getElem?_eq_none (by rw [List.length_set]; omega)] at h1; cases h1
    · rw [List.getElem?_set_ne (Ne.symm hj)] at h1
      rw [List.getElem?_set_ne (Ne.symm hj)]
      exact ih.at_ j u h1
end
end HW
/-! HwD: operations on values. -/
namespace HW
open PySem PySem.Spec PyProof.Rows L2

section
variable {Z : Wd} {L : List Addr} {H : Hp} {h : PHeap}
theorem VR.list (r : HR Z L h H) {p : PV} {x : V} {xs : List PV} (v : VR Z L H p x) (e : asList h p = some xs) : ∃ a vs, x = .ref a ∧ Rd H a (.lst vs) ∧ VRs Z L H xs vs := by
  unfold asList at e
  split at e
  · cases e
    cases v with
    | lst h1 h2 h3 => exact ⟨_, _, rfl, .inr h1, h3⟩
  · rename_i n
    split at e
    · rename_i ys hn
      cases e
      cases v with
      | ref h1 =>
        obtain ⟨vs, h2, h3⟩ := r.cell _ _ _ hn h1
        exact ⟨_, vs, rfl, .inl h2, h3⟩
    · cases e
  · cases e
theorem VR.seq (r : HR Z L h H) {p : PV} {x : V} {xs : List PV} (v : VR Z L H p x) (e : asSeq h p = some xs) : ∃ a vs, x = .ref a ∧ (Rd H a (.lst vs) ∨ TupAt H a vs) ∧ VRs Z L H xs vs := by
  unfold asSeq at e
  split at e
  · cases e
    cases v with
    | tup h1 h2 h3 => exact ⟨_, _, rfl, .inr h1, h3⟩
  · obtain ⟨a, vs, h1, h2, h3⟩ := v.list r e
    exact ⟨a, vs, h1, .inl h2, h3⟩
theorem VR.dict (r : HR Z L h H) {p : PV} {x : V} {es : List (PV × PV)} (v : VR Z L H p x) (e : asDict h p = some es) : ∃ a, x = .ref a ∧ DR Z L H a es := by
  unfold asDict at e
  split at e
  · cases e
    cases v with
    | dctK h1 h2 h3 h4 => exact ⟨_, rfl, .k (.inr h1) h3 h4⟩
    | dctT h1 h2 h0 h3 h4 h5 h6 => exact ⟨_, rfl, .t (.inr h1) h0 h3 h4 h5 h6⟩
  · rename_i n
    split at e
    · rename_i ys hn
      cases e
      cases v with
      | ref h1 => exact ⟨_, rfl, DP.rd (r.cell _ _ _ hn h1)⟩
    · rename_i ys hn
      cases e
      cases v with
      | ref h1 => exact ⟨_, rfl, DP.rdL (r.cell _ _ _ hn h1)⟩
    · cases e
  · cases e
theorem seq_or {K : PySem.W.Frag} {a : Addr} {vs : List V} (x : Rd H a (.lst vs) ∨ TupAt H a vs) : SqL K H a vs ∨ SqT K H a vs := x.imp .inl TupAt.sq
theorem sqr {K : PySem.W.Frag} {a : Addr} {vs : List V} (x : Rd H a (.lst vs)) : SqL K H a vs := .inl x
variable {Q : VK}
theorem Post.bl {b : Bool} (q : Post Z L H (.bl b) h Q) (r : HR Z L h H) : Q (.bl b) H := q _ _ _ Ext.refl r (.bl b)
theorem Post.int {b : Int} (q : Post Z L H (.int b) h Q) (r : HR Z L h H) : Q (.int b) H := q _ _ _ Ext.refl r (.int b)
theorem Post.str {b : Str} (q : Post Z L H (.str b) h Q) (r : HR Z L h H) : Q (.str b) H := q _ _ _ Ext.refl r (.str b)
theorem Post.non (q : Post Z L H .non h Q) (r : HR Z L h H) : Q .non H := q _ _ _ Ext.refl r .non
theorem Post.same {p : PV} {x : V} (q : Post Z L H p h Q) (r : HR Z L h H) (v : VR Z L H p x) : Q x H := q _ _ _ Ext.refl r v
theorem Post.tup {xs : List PV} {vs : List V} (q : Post Z L H (.tup xs) h Q) (r : HR Z L h H) (v : VRs Z L H xs vs) {p : Addr} (hp : H p = none) {o : Obj} (ho : o.dict = none) : Q (.ref p) (upd H p (.frz o (.tup vs))) :=
  q _ _ _ (ext_new hp) (r.new hp) (.tup ⟨o, upd_same, ho⟩ (r.free hp) (v.mono (ext_new hp)))
theorem mk_ep {X : Cx} {pins : List (Addr × Obj)} {σ : L2.St} {s : Shared} {H : Hp} {L : List Addr} {h h' : PHeap} {al : Bool} {xs : List PV} {vs : List V} {r : PV} {p : Addr} {Q : VK} (I : Inv X pins σ (upd H p (.lst vs)) s) (hp : H p = none) (e : mkList al xs h = .ok r h') (post : Post (wd X) L H r h' Q)
    (hr : HR (wd X) L h H) (v : VRs (wd X) L H xs vs) : EP X pins σ Q (.ref p) s := by
  unfold mkList at e
  cases al with
  | false =>
    simp only [Bool.false_eq_true, if_false, R.ok.injEq] at e
    obtain ⟨rfl, rfl⟩ := e
    obtain ⟨od, I1⟩ := I.lock upd_same trivial
    rw [upd_upd] at I1
    exact ⟨.ref p, _, I1, rfl, post _ _ _ (ext_new hp) (hr.new hp) (.lst ⟨od, upd_same⟩ (hr.free hp) (v.mono (ext_new hp)))⟩
  | true =>
    simp only [if_true, R.ok.injEq] at e
    obtain ⟨rfl, rfl⟩ := e
    refine ⟨.ref p, _, I, rfl, post _ _ _ (ext_live hp) (hr.live hp ⟨vs, upd_same, v.mono (ext_live hp)⟩) (.ref ?_)⟩
    rw [← hr.len]
    simp
/-- a new list at any place -/
def NewL (H : Hp) (vs : List V) : VK := fun x H' => ∃ p, x = .ref p ∧ H p = none ∧ H' = upd H p (.lst vs)
theorem NewL.all {H : Hp} {vs : List V} : ∀ p, H p = none → NewL H vs (.ref p) (upd H p (.lst vs)) := fun p hp => ⟨p, rfl, hp, rfl⟩
theorem mk_wp {X : Cx} {pins : List (Addr × Obj)} {σ : L2.St} {s : Shared} {H : Hp} {L : List Addr} {h h' : PHeap} {al : Bool} {xs : List PV} {vs : List V} {r : PV} {Q : VK} {M : Model} {A : Around} {E : Value → Shared → Prop} {t : PySem.Sem Value}
    (w : wpAny M A t (EP X pins σ (NewL H vs)) E s) (e : mkList al xs h = .ok r h') (post : Post (wd X) L H r h' Q) (hr : HR (wd X) L h H) (v : VRs (wd X) L H xs vs) : wpAny M A t (EP X pins σ Q) E s :=
  thn w fun u s' ⟨x, H', I', rx, p, ex, hp, eH⟩ => by
    subst ex eH
    cases rx
    exact mk_ep I' hp e post hr v
/-- the object of a new tuple -/
abbrev tupO (us : List Value) : Obj := { cls := .type "tuple", data := .seq us.toArray }
/-- a tuple is laid -/
theorem tup_new {X : Cx} {pins : List (Addr × Obj)} {σ : L2.St} {s : Shared} {vs : List V} {us : List Value} {H : Hp} (I : Inv X pins σ H s) (r : Vals vs us) (hl : vs.length ≤ sizeLine) (t : Nat) :
    Inv X pins σ (upd H s.heap.objs.size (.frz (tupO us) (.tup vs))) { s with heap := s.heap.push (tupO us), toks := t } := by
  refine I.laid (fun b o e => Heap.get?_push_of_some _ e) (Nat.le_refl _) ⟨Heap.get?_push_size _ rfl, hl, us, r, IsTup.new s.heap _⟩
theorem ep_ref {X : Cx} {pins : List (Addr × Obj)} {σ : L2.St} {s : Shared} {H : Hp} {a : Addr} {Q : VK} (I : Inv X pins σ H s) (q : Q (.ref a) H) : EP X pins σ Q (.ref a) s := ⟨.ref a, H, I, rfl, q⟩
theorem tup_ep {X : Cx} {pins : List (Addr × Obj)} {σ : L2.St} {s : Shared} {H : Hp} {xs : List PV} {vs : List V} {us : List Value} {h : PHeap} {L : List Addr} {Q : VK} (I : Inv X pins σ H s) (hr : HR (wd X) L h H) (post : Post (wd X) L H (.tup xs) h Q) (v : VRs (wd X) L H xs vs) (r : Vals vs us) (hl : vs.length ≤ sizeLine) (t : Nat) :
    EP X pins σ Q (.ref s.heap.objs.size) { s with heap := s.heap.push (tupO us), toks := t } :=
  ⟨.ref s.heap.objs.size, _, tup_new I r hl t, rfl, post.tup hr v (I.hok.fresh (Nat.le_refl _)) rfl⟩
theorem lim : LIM = sizeLine := by rw [sizeLine_eq]; rfl
end

/-! ### lists that may be fixed -/
section
variable {X : Cx}
theorem lst_rd {pins : List (Addr × Obj)} {σ : L2.St} {s : Shared} {H : Hp} {l : Addr} {zs : List V} (I : Inv X pins σ H s) (k : Rd H l (.lst zs)) : zs.length ≤ sizeLine ∧ ∃ (us : List Value) (m : Nat), Vals zs us ∧ us.length = zs.length ∧ s.heap.get? l = some { cls := .type "list", data := .seq us.toArray m } := by
  obtain ⟨z, us, m, rv, g⟩ := k.ok I.hok
  exact ⟨z, us, m, rv, rv.length.symm, g⟩
theorem op_catR : OpR X (binaryOp .Add) (fun x y H Q => ∃ a b us ws, x = .ref a ∧ y = .ref b ∧ Rd H a (.lst us) ∧ Rd H b (.lst ws) ∧ us.length + ws.length ≤ sizeLine ∧ ∀ p, H p = none → Q (.ref p) (upd H p (.lst (us ++ ws)))) := by
  rintro pins s σ H x y v u Q I rx ry ⟨a, b, us, ws, rfl, rfl, ka, kb, few, q⟩
  cases rx; cases ry
  obtain ⟨_, as, na, ra, la, ga⟩ := lst_rd I ka
  obtain ⟨_, bs, nb, rb, lb, gb⟩ := lst_rd I kb
  refine PySem.P.add_list ga gb ?_ (by simp only [List.size_toArray]; omega)
  rw [show as.toArray ++ bs.toArray = (as ++ bs).toArray by simp]
  exact ⟨.ref _, _, Inv.lnew (t' := s.toks) I (ra.append rb) (by simp only [List.length_append]; omega), rfl, q _ I.fresh⟩
theorem rep_acc (us : List Value) (m : Nat) : List.foldl (fun x1 x2 => x1 ++ x2) #[] (List.replicate m us.toArray) = (List.replicate m us).flatten.toArray := by
  have := foldl_rep us m []
  simpa using this
theorem op_repR : OpR X (binaryOp .Mult) (fun x y H Q => ∃ a k us, x = .ref a ∧ y = .int k ∧ Rd H a (.lst us) ∧ -(2 ^ 63) ≤ k ∧ k < 2 ^ 63 ∧ us.length * k.toNat ≤ sizeLine ∧ ∀ p, H p = none → Q (.ref p) (upd H p (.lst (List.replicate k.toNat us).flatten))) := by
  rintro pins s σ H x y v u Q I rx ry ⟨a, k, us, rfl, rfl, ka, low, high, few, q⟩
  cases rx
  obtain ⟨t, rfl⟩ := ry
  obtain ⟨_, as, na, ra, la, ga⟩ := lst_rd I ka
  have fits : ¬ (!Builtin.List.listFitsIndex k) = true := by rw [fitsIndex_both low high]; decide
  have few' : as.toArray.size * k.toNat ≤ sizeLine := by simp only [List.size_toArray, la]; exact few
  have cap : ¬ as.toArray.size * k.toNat > (2 ^ 63 - 1) / 8 := fun z => by
    have w : (sizeLine : Nat) ≤ (2 ^ 63 - 1) / 8 := by decide
    omega
  have long : ¬ Builtin.List.listTooLong (as.toArray.size * k.toNat) = true := by rw [notLongL few']; decide
  have made : List.foldl (fun x1 x2 => x1 ++ x2) #[] (List.replicate (if as.toArray.isEmpty = true then 0 else k.toNat) as.toArray) = (List.replicate k.toNat as).flatten.toArray := by
    rw [rep_acc]
    cases as <;> simp
  refine wpAny_binaryOp_repeat_ref (T := "list") (U := "int") (by decide) ⟨_, ga, rfl⟩ (fun _ => typeIs_int _ k t) noFill_list_mul F.fills_int_mul F.slot_int_rmul repeat_list F.slot_int_index.lookup ?_
  refine call_meets F.slot_int_rmul (typeIs_int s k t) F.entry_int_rmul (F.args_int_rmul_2 _ _) (int___rmul___int_list k t a as.toArray na) ⟨ga, rfl, ⟨_, ga, rfl⟩, ?_⟩
  refine call_meets F.slot_list_mul ⟨_, ga, rfl⟩ F.entry_list_mul (F.args_list_mul_2 _ _)
    (AutoListH.list___mul___list_int_3 a as.toArray na k t fits cap long) ⟨ga, ?_⟩
  rw [made]
  exact ⟨.ref _, _, Inv.lnew (t' := s.toks) I (ra.rep k.toNat) (by simp only [PyProof.Rows.lm_len_rep_flat, Nat.mul_comm]; simpa [Nat.mul_comm] using few), rfl, q _ I.fresh⟩
end

def pyB : BOp → Operator
  | .add => .Add | .sub => .Sub | .mul => .Mult | .fdiv => .FloorDiv | .mod => .Mod | .pow => .Pow
def pyC : COp → CmpOp
  | .eq => .Eq | .ne => .NotEq | .lt => .Lt | .le => .LtE | .gt => .Gt | .ge => .GtE | .is => .Is | .isnot => .IsNot | .isin => .In | .notin => .NotIn
def rBin (X : Cx) (op : BOp) : R2 := fun x y H Q => ∃ L h p q r, HR (wd X) L h H ∧ VR (wd X) L H p x ∧ VR (wd X) L H q y ∧ binop op p q h = some r ∧ Post (wd X) L H r h Q
section
variable {X : Cx}
theorem op_bin (op : BOp) : OpR X (binaryOp (pyB op)) (rBin X op) := by
  intro pins s σ H x y v u Q I rx ry hw
  obtain ⟨L, h, p, q, r, hr, vp, vq, e, post⟩ := hw
  unfold binop at e
  split at e
  · cases e; cases vp; cases vq
    exact op_add pins s σ H _ _ v u Q I rx ry ⟨_, _, rfl, rfl, post.int hr⟩
  · cases e; cases vp; cases vq
    exact op_sub pins s σ H _ _ v u Q I rx ry ⟨_, _, rfl, rfl, post.int hr⟩
  · cases vp; cases vq
    split at e
    · rename_i hc
      cases e
      refine op_mul pins s σ H _ _ v u Q I rx ry ⟨_, _, rfl, rfl, ?_, post.int hr⟩
      rw [Bool.or_eq_true] at hc
      rcases hc with hc | hc
      · exact .inl (of_decide_eq_true hc)
      · exact .inr (of_decide_eq_true hc)
    · cases e
  · cases vp; cases vq
    split at e
    · rename_i hc
      cases e
      exact op_fdivN pins s σ H _ _ v u Q I rx ry ⟨_, _, rfl, rfl, hc, post.int hr⟩
    · cases e
  · cases vp; cases vq
    split at e
    · rename_i hc
      cases e
      exact op_modN pins s σ H _ _ v u Q I rx ry ⟨_, _, rfl, rfl, hc, post.int hr⟩
    · cases e
  · cases vp; cases vq
    split at e
    · rename_i hc
      cases e
      exact op_pow pins s σ H _ _ v u Q I rx ry ⟨_, _, rfl, rfl, hc, post.int hr⟩
    · cases e
  · rename_i xs ys
    split at e
    · rename_i hc
      cases e
      rw [lim] at hc
      cases vp with
      | tup h1 h2 h3 =>
        cases vq with
        | tup k1 k2 k3 =>
          have l1 := h3.length
          have l2 := k3.length
          cases rx
          cases ry
          obtain ⟨its, r1, t1, _⟩ := I.tuple (TupAt.sq h1)
          obtain ⟨its', r2, t2, _⟩ := I.tuple (TupAt.sq k1)
          have m1 := r1.length
          have m2 := r2.length
          by_cases hn : its = []
          · subst hn
            cases r1
            cases h3
            exact cat_tup0 t1 t2 (ep_ref I (post.same hr (.tup k1 k2 k3)))
          · refine HT.cat_tup t1 t2 hn (fun e => ?_) (fun _ => ?_) (by omega)
            · subst e
              cases r2
              cases k3
              rw [List.append_nil] at post
              exact ep_ref I (post.same hr (.tup h1 h2 h3))
            · exact tup_ep I hr post (h3.append k3) (r1.append r2) (by rw [List.length_append]; omega) s.toks
    · cases e
  · split at e
    · rename_i xs ys ex ey
      split at e
      · rename_i hc
        cases e
        rw [lim] at hc
        obtain ⟨a, vs, rfl, h1, h2⟩ := vp.list hr ex
        obtain ⟨b, us, rfl, k1, k2⟩ := vq.list hr ey
        have l1 := h2.length
        have l2 := k2.length
        exact mk_wp (al := false) (op_catR pins s σ H _ _ v u _ I rx ry ⟨_, _, _, _, rfl, rfl, h1, k1, by omega, NewL.all⟩) rfl post hr (h2.append k2)
      · cases e
    · cases e
  · split at e
    · rename_i xs ex
      split at e
      · rename_i hc
        cases e
        rw [lim] at hc
        obtain ⟨a, vs, rfl, h1, h2⟩ := vp.list hr ex
        cases vq
        have l1 := h2.length
        exact mk_wp (al := false) (op_repR pins s σ H _ _ v u _ I rx ry ⟨_, _, _, rfl, rfl, h1, by omega, by omega, by rw [l1]; exact hc.2.2, NewL.all⟩) rfl post hr (h2.rep _)
      · cases e
    · cases e
  · cases e
end

/-! ### data -/
section
variable {Z : Wd} {L : List Addr} {H : Hp} {h : PHeap}
mutual
theorem VR.dp : ∀ (p : PV) (d : PyData) (x : V), VR Z L H p x → toD p = some d → Dp Z.K H x d
  | .non, _, _, v, e => by cases v; cases e; exact .non
  | .bl b, _, _, v, e => by cases v; cases e; exact .bl b
  | .int b, _, _, v, e => by cases v; cases e; exact .int b
  | .str b, _, _, v, e => by cases v; cases e; exact .str b
  | .tup xs, _, _, v, e => by
    cases v with
    | tup h1 h2 h3 =>
      rw [toD] at e
      obtain ⟨ds, e1, rfl⟩ := Option.map_eq_some_iff.mp e
      exact .tup h1.sq (VRs.dp xs ds _ h3 e1)
  | .lst xs, _, _, v, e => by
    cases v with
    | lst h1 h2 h3 =>
      rw [toD] at e
      obtain ⟨ds, e1, rfl⟩ := Option.map_eq_some_iff.mp e
      exact .lst (sqr (.inr h1)) (VRs.dp xs ds _ h3 e1)
  | .dct _, _, _, _, e => by simp [toD] at e
  | .scr _, _, _, _, e => by simp [toD] at e
  | .ref _, _, _, _, e => by simp [toD] at e
theorem VRs.dp : ∀ (p : List PV) (d : List PyData) (x : List V), VRs Z L H p x → toDs p = some d → DpAll Z.K H x d
  | [], _, _, v, e => by cases v; rw [toDs] at e; cases e; exact .nil
  | p :: ps, d, _, v, e => by
    cases v with
    | cons h1 h2 =>
      rw [toDs] at e
      split at e
      · rename_i d1 ds e1 e2
        cases e
        exact .cons (VR.dp p d1 _ h1 e1) (VRs.dp ps ds _ h2 e2)
      · cases e
end
theorem VR.resDp (r : HR Z L h H) {p : PV} {d : PyData} {x : V} (v : VR Z L H p x) (e : toD (res h p) = some d) : Dp Z.K H x d := by
  unfold res at e
  split at e
  · rename_i n
    split at e
    · rename_i xs hn
      obtain ⟨a, vs, rfl, h1, h2⟩ := v.list r (xs := xs) (by simp [asList, hn])
      rw [toD] at e
      obtain ⟨ds, e1, rfl⟩ := Option.map_eq_some_iff.mp e
      exact .lst ((sqr h1)) (VRs.dp xs ds _ h2 e1)
    · simp [toD] at e
  · exact v.dp _ _ _ e
end
def rCmp (X : Cx) (op : COp) : R2 := fun x y H Q => ∃ L h p q r, HR (wd X) L h H ∧ VR (wd X) L H p x ∧ VR (wd X) L H q y ∧ cmpop op p q h = some r ∧ Post (wd X) L H (.bl r) h Q
section
variable {X : Cx}
theorem op_pyEq (hu : X.A.units + 64 < cLine) : OpR X (compareOp .Eq) (rCmp X .eq) := by
  intro pins s σ H x y v u Q I rx ry hw
  obtain ⟨L, h, p, q, r, hr, vp, vq, e, post⟩ := hw
  simp only [cmpop, pyEq] at e
  split at e
  · rename_i d d' e1 e2
    split at e
    · rename_i hs
      cases e
      rw [Bool.and_eq_true] at hs
      exact op_eqD hu pins s σ H _ _ v u Q I rx ry ⟨d, d', vp.resDp hr e1, vq.resDp hr e2, hs.1, hs.2, post.bl hr⟩
    · cases e
  · cases e
theorem op_pyNe (hu : X.A.units + 64 < cLine) : OpR X (compareOp .NotEq) (rCmp X .ne) := by
  intro pins s σ H x y v u Q I rx ry hw
  obtain ⟨L, h, p, q, r, hr, vp, vq, e, post⟩ := hw
  simp only [cmpop, pyEq] at e
  split at e
  · rename_i d d' e1 e2
    split at e
    · rename_i hs
      cases e
      rw [Bool.and_eq_true] at hs
      exact op_neD hu pins s σ H _ _ v u Q I rx ry ⟨d, d', vp.resDp hr e1, vq.resDp hr e2, hs.1, hs.2, post.bl hr⟩
    · cases e
  · cases e
end
end HW
/-! HwE: orders, dicts, items. -/
namespace HW
open PySem PySem.Spec PyProof.Rows L2

abbrev Um (X : Cx) : Prop := X.A.units + 100 < cLine
section
variable {X : Cx}
theorem ord_ok (hu : Um X) (op : COp) (hop : op = .lt ∨ op = .gt ∨ op = .le ∨ op = .ge) : OpR X (compareOp (pyC op)) (fun x y H Q => ∃ L h p q r, HR (wd X) L h H ∧ VR (wd X) L H p x ∧ VR (wd X) L H q y ∧ pyOrd op h p q = some r ∧ Post (wd X) L H (.bl r) h Q) := by
  intro pins s σ H x y v u Q I rx ry hw
  obtain ⟨L, h, p, q, r, hr, vp, vq, e, post⟩ := hw
  unfold pyOrd at e
  split at e
  · cases vp; cases vq
    have e' := Option.some.inj e
    subst e'
    rcases hop with rfl | rfl | rfl | rfl
    · exact op_lt pins s σ H _ _ v u Q I rx ry ⟨_, _, rfl, rfl, post.bl hr⟩
    · exact op_gt pins s σ H _ _ v u Q I rx ry ⟨_, _, rfl, rfl, post.bl hr⟩
    · exact op_le pins s σ H _ _ v u Q I rx ry ⟨_, _, rfl, rfl, post.bl hr⟩
    · exact op_ge pins s σ H _ _ v u Q I rx ry ⟨_, _, rfl, rfl, post.bl hr⟩
  · split at e
    · rename_i d d' e1 e2
      split at e
      · rename_i hc
        simp only [Bool.and_eq_true, Bool.not_eq_true'] at hc
        obtain ⟨⟨⟨h1, h2⟩, h3⟩, h4⟩ := hc
        have hn : d ≠ .none := by rintro rfl; simp [isNone] at h2
        have e' := Option.some.inj e
        subst e'
        obtain ⟨as, r1⟩ := Dp.reads I d x v (vp.resDp hr e1) rx
        obtain ⟨bs, r2⟩ := Dp.reads I d' y u (vq.resDp hr e2) ry
        have hroom : X.A.units + min d.depth d'.depth < cLine := SeqAt.room_of_shaped h3 (by omega)
        rcases hop with rfl | rfl | rfl | rfl
        · exact PySem.W.lt_data r1 r2 h1 hn hroom ⟨.bl _, H, I, rfl, post.bl hr⟩
        · exact PySem.W.gt_data r1 r2 h1 hn hroom ⟨.bl _, H, I, rfl, post.bl hr⟩
        · exact PySem.W.le_data r1 r2 h1 hn hroom ⟨.bl _, H, I, rfl, post.bl hr⟩
        · exact PySem.W.ge_data r1 r2 h1 hn hroom ⟨.bl _, H, I, rfl, post.bl hr⟩
      · cases e
    · cases e
theorem VR.none_iff {Z : Wd} {L : List Addr} {H : Hp} {p : PV} {x : V} (v : VR Z L H p x) : decide (x = .non) = decide (p = .non) := by
  cases v <;> simp
theorem op_pyIs : OpR X (compareOp .Is) (rCmp X .is) := by
  intro pins s σ H x y v u Q I rx ry hw
  obtain ⟨L, h, p, q, r, hr, vp, vq, e, post⟩ := hw
  simp only [cmpop] at e
  split at e
  · cases vq
    cases e
    refine op_isN pins s σ H _ _ v u Q I rx ry ⟨rfl, ?_⟩
    rw [vp.none_iff]
    exact post.bl hr
  · split at e
    · cases vp
      cases vq
      cases e
      exact op_isBl pins s σ H _ _ v u Q I rx ry ⟨_, _, rfl, rfl, post.bl hr⟩
    · cases e
  · cases e
theorem op_pyIsnot : OpR X (compareOp .IsNot) (rCmp X .isnot) := by
  intro pins s σ H x y v u Q I rx ry hw
  obtain ⟨L, h, p, q, r, hr, vp, vq, e, post⟩ := hw
  simp only [cmpop] at e
  split at e
  · cases vq
    cases e
    refine op_notN pins s σ H _ _ v u Q I rx ry ⟨rfl, ?_⟩
    rw [vp.none_iff]
    exact post.bl hr
  · split at e
    · cases vp
      cases vq
      cases e
      exact op_notBl pins s σ H _ _ v u Q I rx ry ⟨_, _, rfl, rfl, post.bl hr⟩
    · cases e
  · cases e
end

/-! ### keys -/
theorem kP_inj {a b : L2.Key} (e : kP a = kP b) : a = b := by
  cases a <;> cases b <;> simp [kP] at e <;> rw [e]
theorem keyV_kP {p : PV} (e : keyV p = true) : ∃ k, p = kP k := by
  cases p <;> simp [keyV] at e
  · exact ⟨.inl _, rfl⟩
  · exact ⟨.inr _, rfl⟩
mutual
theorem toN_inj : ∀ (a b : PV) (k : NestedKey), toN a = some k → toN b = some k → a = b
  | .non, b, k, h1, h2 => by
    cases h1
    cases b <;> simp [toN] at h2 <;> rfl
  | .int i, b, k, h1, h2 => by
    cases h1
    cases b <;> simp [toN] at h2 <;> rw [h2]
  | .str i, b, k, h1, h2 => by
    cases h1
    cases b <;> simp [toN] at h2 <;> rw [h2]
  | .tup xs, b, k, h1, h2 => by
    rw [toN] at h1
    obtain ⟨ks, e1, rfl⟩ := Option.map_eq_some_iff.mp h1
    cases b with
    | tup ys =>
      rw [toN] at h2
      obtain ⟨ks', e2, e3⟩ := Option.map_eq_some_iff.mp h2
      cases e3
      rw [toNs_inj xs ys ks e1 e2]
    | _ => simp [toN] at h2
  | .bl _, _, _, h1, _ => by simp [toN] at h1
  | .lst _, _, _, h1, _ => by simp [toN] at h1
  | .dct _, _, _, h1, _ => by simp [toN] at h1
  | .scr _, _, _, h1, _ => by simp [toN] at h1
  | .ref _, _, _, h1, _ => by simp [toN] at h1
theorem toNs_inj : ∀ (a b : List PV) (k : List NestedKey), toNs a = some k → toNs b = some k → a = b
  | [], b, k, h1, h2 => by
    cases h1
    cases b with
    | nil => rfl
    | cons y ys =>
      rw [toNs] at h2
      split at h2 <;> cases h2
  | x :: xs, b, k, h1, h2 => by
    rw [toNs] at h1
    split at h1
    · rename_i d ds e1 e2
      cases h1
      cases b with
      | nil => cases h2
      | cons y ys =>
        rw [toNs] at h2
        split at h2
        · rename_i d' ds' e3 e4
          cases h2
          rw [toN_inj x y d e1 e3, toNs_inj xs ys ds e2 e4]
        · cases h2
    · cases h1
end
theorem keyT_toN {p : PV} (e : keyT p = true) : ∃ xs k, p = .tup xs ∧ toN p = some k ∧ k.depth ≤ 8 := by
  unfold keyT at e
  split at e
  · rename_i xs
    split at e
    · rename_i k hk
      exact ⟨xs, k, rfl, hk, of_decide_eq_true e⟩
    · cases e
  · cases e
section
variable {Z : Wd} {L : List Addr} {H : Hp} {h : PHeap}
abbrev PKs (Z : Wd) (L : List Addr) (H : Hp) : List (PV × PV) → List (L2.Key × V) → Prop := Paired fun (e : PV × PV) (q : L2.Key × V) => e.1 = kP q.1 ∧ VR Z L H e.2 q.2
abbrev PTs_ (Z : Wd) (L : List Addr) (H : Hp) : List (PV × PV) → List (NestedKey × Addr × V) → Prop := Paired fun (e : PV × PV) (q : NestedKey × Addr × V) => keyT e.1 = true ∧ toN e.1 = some q.1 ∧ VR Z L H e.1 (.ref q.2.1) ∧ VR Z L H e.2 q.2.2
theorem pks_of : ∀ {es : List (PV × PV)} {kvs : List (L2.Key × V)}, es.map (·.1) = kvs.map (fun p => kP p.1) → VRs Z L H (es.map (·.2)) (kvs.map (·.2)) → PKs Z L H es kvs
  | [], [], _, _ => .nil
  | [], _ :: _, e, _ => by simp at e
  | _ :: _, [], e, _ => by simp at e
  | e :: es, q :: kvs, e1, r => by
    simp only [List.map_cons, List.cons.injEq] at e1
    cases r with
    | cons r1 r2 => exact .cons ⟨e1.1, r1⟩ (pks_of e1.2 r2)
theorem of_pks : ∀ {es : List (PV × PV)} {kvs : List (L2.Key × V)}, PKs Z L H es kvs → es.map (·.1) = kvs.map (fun p => kP p.1) ∧ VRs Z L H (es.map (·.2)) (kvs.map (·.2))
  | _, _, .nil => ⟨rfl, .nil⟩
  | _, _, .cons h1 h2 => by
    obtain ⟨a, b⟩ := of_pks h2
    exact ⟨by rw [List.map_cons, List.map_cons, h1.1, a], .cons h1.2 b⟩
theorem pts_of : ∀ {es : List (PV × PV)} {xs : List (NestedKey × Addr × V)}, toNs (es.map (·.1)) = some (xs.map (·.1)) → (es.all fun e => keyT e.1) = true →
      VRs Z L H (es.map (·.1)) (xs.map fun x => .ref x.2.1) → VRs Z L H (es.map (·.2)) (xs.map (·.2.2)) → PTs_ Z L H es xs
  | [], [], _, _, _, _ => .nil
  | [], _ :: _, e, _, _, _ => by simp [toNs] at e
  | _ :: _, [], e, _, _, _ => by
    simp only [List.map_cons, List.map_nil] at e
    rw [toNs] at e
    split at e <;> simp at e
  | e :: es, q :: xs, e1, e2, r1, r2 => by
    simp only [List.map_cons] at e1
    rw [toNs] at e1
    rw [List.all_cons, Bool.and_eq_true] at e2
    split at e1
    · rename_i d ds k1 k2
      simp only [Option.some.injEq, List.cons.injEq] at e1
      cases r1 with
      | cons r1 s1 =>
        cases r2 with
        | cons r2 s2 => exact .cons ⟨e2.1, by rw [k1, e1.1], r1, r2⟩ (pts_of (by rw [k2, e1.2]) e2.2 s1 s2)
    · cases e1
theorem of_pts : ∀ {es : List (PV × PV)} {xs : List (NestedKey × Addr × V)}, PTs_ Z L H es xs → toNs (es.map (·.1)) = some (xs.map (·.1)) ∧ (es.all fun e => keyT e.1) = true ∧
      VRs Z L H (es.map (·.1)) (xs.map fun x => .ref x.2.1) ∧ VRs Z L H (es.map (·.2)) (xs.map (·.2.2))
  | _, _, .nil => ⟨rfl, rfl, .nil, .nil⟩
  | _, _, .cons h1 h2 => by
    obtain ⟨a, b, c, d⟩ := of_pts h2
    refine ⟨?_, ?_, .cons h1.2.2.1 c, .cons h1.2.2.2 d⟩
    · simp only [List.map_cons]
      rw [toNs, h1.2.1, a]
    · rw [List.all_cons, h1.1, b]; rfl
theorem PKs.keys {es : List (PV × PV)} {kvs : List (L2.Key × V)} (r : PKs Z L H es kvs) : (es.all fun e => keyV e.1) = true := by
  induction r with
  | nil => rfl
  | cons h1 _ ih =>
    rename_i e q _ _ _
    rw [List.all_cons, ih, h1.1]
    cases q.1 <;> rfl
/-- what is found -/
def ORel (Z : Wd) (L : List Addr) (H : Hp) : Option PV → Option V → Prop
  | some p, some x => VR Z L H p x
  | none, none => True
  | _, _ => False
theorem PKs.find {es : List (PV × PV)} {kvs : List (L2.Key × V)} (r : PKs Z L H es kvs) (k : L2.Key) : ORel Z L H (dFind es (kP k)) (valV kvs k) := by
  induction r with
  | nil => trivial
  | cons h1 _ ih =>
    rename_i e q es qs _
    by_cases hk : q.1 = k
    · rw [valV_pos hk, dFind, List.find?_cons, decide_eq_true (by rw [h1.1, hk])]
      exact h1.2
    · rw [valV_neg hk, dFind, List.find?_cons, decide_eq_false (by rw [h1.1]; exact fun e => hk (kP_inj e))]
      exact ih
theorem PKs.any {es : List (PV × PV)} {kvs : List (L2.Key × V)} (r : PKs Z L H es kvs) (k : L2.Key) : (es.any fun e => decide (e.1 = kP k)) = (kvs.any fun kv => decide (kv.1 = k)) := by
  induction r with
  | nil => rfl
  | cons h1 _ ih =>
    rename_i e q es qs _
    rw [List.any_cons, List.any_cons, ih, h1.1]
    congr 1
    by_cases hk : q.1 = k
    · simp [hk]
    · rw [decide_eq_false hk, decide_eq_false fun e => hk (kP_inj e)]
theorem PKs.repl {es : List (PV × PV)} {kvs : List (L2.Key × V)} (r : PKs Z L H es kvs) (k : L2.Key) {p : PV} {x : V} (v : VR Z L H p x) :
    PKs Z L H (es.map fun e => if e.1 = kP k then (e.1, p) else e) (kvs.map fun kv => if kv.1 = k then (kv.1, x) else kv) := by
  induction r with
  | nil => exact .nil
  | cons h1 _ ih =>
    rename_i e q es qs _
    refine .cons ?_ ih
    dsimp only
    by_cases hk : q.1 = k
    · rw [if_pos hk, if_pos (by rw [h1.1, hk])]
      exact ⟨h1.1, v⟩
    · rw [if_neg hk, if_neg (by rw [h1.1]; exact fun e => hk (kP_inj e))]
      exact h1
theorem PKs.put {es : List (PV × PV)} {kvs : List (L2.Key × V)} (r : PKs Z L H es kvs) (k : L2.Key) {p : PV} {x : V} (v : VR Z L H p x) : PKs Z L H (dPut es (kP k) p) (putK kvs k x) := by
  unfold dPut putK
  rw [r.any]
  split
  · exact r.repl k v
  · exact r.snoc ⟨rfl, v⟩
theorem PTs_.key {e : PV} {n : NestedKey} {k : NestedKey} {p : PV} (h1 : toN e = some n) (hp : toN p = some k) : (e = p) ↔ n = k :=
  ⟨fun x => by rw [x, hp] at h1; cases h1; rfl, fun x => by subst x; exact toN_inj _ _ _ h1 hp⟩
def fT (xs : List (NestedKey × Addr × V)) (k : NestedKey) : Option V := (xs.find? fun x => decide (x.1 = k)).map (·.2.2)
theorem PTs_.find {es : List (PV × PV)} {xs : List (NestedKey × Addr × V)} (r : PTs_ Z L H es xs) {p : PV} {k : NestedKey} (hp : toN p = some k) : ORel Z L H (dFind es p) (fT xs k) := by
  induction r with
  | nil => trivial
  | cons h1 _ ih =>
    rename_i e q es qs _
    by_cases hk : q.1 = k
    · rw [fT, List.find?_cons, decide_eq_true hk, dFind, List.find?_cons, decide_eq_true ((PTs_.key h1.2.1 hp).mpr hk)]
      exact h1.2.2.2
    · rw [fT, List.find?_cons, decide_eq_false hk, dFind, List.find?_cons, decide_eq_false (fun e => hk ((PTs_.key h1.2.1 hp).mp e))]
      exact ih
def storedT (xs : List (NestedKey × Addr × V)) (k : NestedKey) (b : Addr) (x : V) : List (NestedKey × Addr × V) :=
  if (fT xs k).isSome then xs.map (fun y => if y.1 = k then (y.1, y.2.1, x) else y) else xs ++ [(k, b, x)]
theorem PTs_.any {es : List (PV × PV)} {xs : List (NestedKey × Addr × V)} (r : PTs_ Z L H es xs) {p : PV} {k : NestedKey} (hp : toN p = some k) : (es.any fun e => decide (e.1 = p)) = (fT xs k).isSome := by
  induction r with
  | nil => rfl
  | cons h1 _ ih =>
    rename_i e q es qs _
    rw [List.any_cons, fT, List.find?_cons]
    by_cases hk : q.1 = k
    · rw [decide_eq_true hk, decide_eq_true ((PTs_.key h1.2.1 hp).mpr hk)]
      rfl
    · rw [decide_eq_false hk, decide_eq_false (fun e => hk ((PTs_.key h1.2.1 hp).mp e)), Bool.false_or]
      exact ih
theorem PTs_.repl {es : List (PV × PV)} {xs : List (NestedKey × Addr × V)} (r : PTs_ Z L H es xs) {p : PV} {k : NestedKey} (hp : toN p = some k) {z : PV} {x : V} (v : VR Z L H z x) :
    PTs_ Z L H (es.map fun e => if e.1 = p then (e.1, z) else e) (xs.map fun y => if y.1 = k then (y.1, y.2.1, x) else y) := by
  induction r with
  | nil => exact .nil
  | cons h1 _ ih =>
    rename_i e q es qs _
    refine .cons ?_ ih
    dsimp only
    by_cases hk : q.1 = k
    · rw [if_pos hk, if_pos ((PTs_.key h1.2.1 hp).mpr hk)]
      exact ⟨h1.1, h1.2.1, h1.2.2.1, v⟩
    · rw [if_neg hk, if_neg (fun e => hk ((PTs_.key h1.2.1 hp).mp e))]
      exact h1
theorem PTs_.put {es : List (PV × PV)} {xs : List (NestedKey × Addr × V)} (r : PTs_ Z L H es xs) {p : PV} {k : NestedKey} (ht : keyT p = true) (hp : toN p = some k) {b : Addr} (vb : VR Z L H p (.ref b)) {z : PV} {x : V} (v : VR Z L H z x) :
    PTs_ Z L H (dPut es p z) (storedT xs k b x) := by
  unfold dPut storedT
  rw [r.any hp]
  split
  · exact r.repl hp v
  · exact r.snoc ⟨ht, hp, vb, v⟩
theorem DP.cases {a : Addr} {W : HO → Prop} {es : List (PV × PV)} (x : DP Z L H a W es) : (∃ kvs, W (.dK kvs) ∧ PKs Z L H es kvs) ∨ ∃ xs, W (dictB Z.P Z.w a xs) ∧ es ≠ [] ∧ PTs_ Z L H es xs := by
  cases x with
  | k h1 h2 h3 => exact .inl ⟨_, h1, pks_of h2 h3⟩
  | t h1 h0 h2 h3 h4 h5 => exact .inr ⟨_, h1, h0, pts_of h2 h3 h4 h5⟩
theorem DP.ofK {a : Addr} {W : HO → Prop} {es : List (PV × PV)} {kvs : List (L2.Key × V)} (h1 : W (.dK kvs)) (r : PKs Z L H es kvs) : DP Z L H a W es := .k h1 (of_pks r).1 (of_pks r).2
theorem DP.ofT {a : Addr} {W : HO → Prop} {es : List (PV × PV)} {xs : List (NestedKey × Addr × V)} (h1 : W (dictB Z.P Z.w a xs)) (h0 : es ≠ []) (r : PTs_ Z L H es xs) : DP Z L H a W es :=
  let ⟨a, b, c, d⟩ := of_pts r
  .t h1 h0 a b c d
end
/-! ### in the model -/
section
variable {X : Cx} {pins : List (Addr × Obj)} {σ : L2.St} {H : Hp} {s : Shared} {L : List Addr}
mutual
theorem VR.nested (I : Inv X pins σ H s) : ∀ (p : PV) (k : NestedKey) (x : V) (u : Value), VR (wd X) L H p x → toN p = some k → RelV x u → NestedIs s.heap k u
  | .non, _, _, _, v, e, r => by cases v; cases e; cases r; exact .none
  | .int i, _, _, _, v, e, r => by cases v; cases e; obtain ⟨t, rfl⟩ := r; exact .int _ _
  | .str i, _, _, _, v, e, r => by cases v; cases e; obtain ⟨t, rfl⟩ := r; exact .text _ _
  | .tup xs, _, _, _, v, e, r => by
    cases v with
    | tup h1 h2 h3 =>
      cases r
      rw [toN] at e
      obtain ⟨ks, e1, rfl⟩ := Option.map_eq_some_iff.mp e
      obtain ⟨its, rv, ⟨o, ho, hc, n, hd⟩, _⟩ := I.tuple (TupAt.sq h1)
      exact .tup ho hc hd (VRs.nested I xs ks _ _ h3 e1 (by simpa using rv))
  | .bl _, _, _, _, _, e, _ => by simp [toN] at e
  | .lst _, _, _, _, _, e, _ => by simp [toN] at e
  | .dct _, _, _, _, _, e, _ => by simp [toN] at e
  | .scr _, _, _, _, _, e, _ => by simp [toN] at e
  | .ref _, _, _, _, _, e, _ => by simp [toN] at e
theorem VRs.nested (I : Inv X pins σ H s) : ∀ (p : List PV) (k : List NestedKey) (x : List V) (u : List Value), VRs (wd X) L H p x → toNs p = some k → Vals x u → NestedAll s.heap k u
  | [], _, _, _, v, e, r => by cases v; cases e; cases r; exact .nil
  | p :: ps, _, _, _, v, e, r => by
    cases v with
    | cons h1 h2 =>
      cases r with
      | cons r1 r2 =>
        rw [toNs] at e
        split at e
        · rename_i d ds e1 e2
          cases e
          exact .cons (VR.nested I p d _ _ h1 e1 r1) (VRs.nested I ps ds _ _ h2 e2 r2)
        · cases e
end
theorem VR.isKey (I : Inv X pins σ H s) {p : PV} {k : NestedKey} {b : Addr} (v : VR (wd X) L H p (.ref b)) (e : toN p = some k) (hd : k.depth ≤ 8) : (nestedKind X.prog X.w).is s.heap k b := ⟨VR.nested I p k _ _ v e rfl, hd⟩
abbrev XY : List (NestedKey × Addr × V) → List (NestedKey × Addr × Value) → Prop := Paired fun p q => p.1 = q.1 ∧ p.2.1 = q.2.1 ∧ RelV p.2.2 q.2.2
theorem xy_keys {xs : List (NestedKey × Addr × V)} {ys : List (NestedKey × Addr × Value)} (r : XY xs ys) : xs.map (·.1) = ys.map (·.1) := by
  induction r with
  | nil => rfl
  | cons g1 _ ih => rw [List.map_cons, List.map_cons, ih, g1.1]
theorem ys_keys (I : Inv X pins σ H s) {es : List (PV × PV)} {xs : List (NestedKey × Addr × V)} {ys : List (NestedKey × Addr × Value)} (r : PTs_ (wd X) L H es xs) (r1 : XY xs ys) : ∀ y ∈ ys, (nestedKind X.prog X.w).is s.heap y.1 y.2.1 := by
  induction r1 generalizing es with
  | nil => intro y hy; cases hy
  | cons g1 _ ih =>
    cases r with
    | cons f1 f2 =>
      intro y hy
      rcases List.mem_cons.mp hy with rfl | hy
      · obtain ⟨_, _, _, hk, hdp⟩ := keyT_toN f1.1
        rw [f1.2.1] at hk; cases hk
        rw [← g1.1, ← g1.2.1]
        exact VR.isKey I f1.2.2.1 f1.2.1 hdp
      · exact ih f2 y hy
/-- a dict with tuple keys, as the library says it -/
theorem dictB_raw (I : Inv X pins σ H s) {a : Addr} {es : List (PV × PV)} {xs : List (NestedKey × Addr × V)} (ha : Rd H a (dictB X.prog X.w a xs)) (r : PTs_ (wd X) L H es xs) :
    ∃ ys : List (NestedKey × Addr × Value), Paired (fun (p : NestedKey × Addr × V) (q : NestedKey × Addr × Value) => p.1 = q.1 ∧ p.2.1 = q.2.1 ∧ RelV p.2.2 q.2.2) xs ys ∧ xs.length ≤ sizeLine ∧ (a == sysModules) = false ∧ s.heap.DictOfH (nestedKind X.prog X.w) a ys := by
  obtain ⟨⟨ys, r1, h1, h2, h3, o, es', ep, k1, k2, k3, k4⟩, _, _⟩ := ha.ok I.hok
  refine ⟨ys, r1, h1, h2, o, es', ep, k1, k2, k3, k4, ?_, ?_⟩
  · exact ys_keys I r r1
  · rw [← xy_keys r1]
    exact h3
theorem ys_at {xs : List (NestedKey × Addr × V)} {ys : List (NestedKey × Addr × Value)} (r : Paired (fun (p : NestedKey × Addr × V) (q : NestedKey × Addr × Value) => p.1 = q.1 ∧ p.2.1 = q.2.1 ∧ RelV p.2.2 q.2.2) xs ys) (k : NestedKey) :
    RelO (fT xs k) ((atKey ys k).map (·.2)) := by
  induction r with
  | nil => trivial
  | cons h1 _ ih =>
    rename_i p q _ _ _
    rw [fT, atKey, List.find?_cons, List.find?_cons]
    by_cases hk : p.1 = k
    · rw [decide_eq_true hk, decide_eq_true (by rw [← h1.1]; exact hk)]
      exact h1.2.2
    · rw [decide_eq_false hk, decide_eq_false (by rw [← h1.1]; exact hk)]
      exact ih
theorem dictB_ok {a : Addr} {xs : List (NestedKey × Addr × V)} {ys : List (NestedKey × Addr × Value)} {H' : Hp} {h' : Heap} (r : Paired (fun (p : NestedKey × Addr × V) (q : NestedKey × Addr × Value) => p.1 = q.1 ∧ p.2.1 = q.2.1 ∧ RelV p.2.2 q.2.2) xs ys)
    (h1 : xs.length ≤ sizeLine) (h2 : (a == sysModules) = false) (d : h'.DictOfH (nestedKind X.prog X.w) a ys) : ObjOk X.prog X.w H' h' a (dictB X.prog X.w a xs) := by
  obtain ⟨o, es, ep, k1, k2, k3, k4, k5, k6⟩ := d
  have e : xs.map (·.1) = ys.map (·.1) := xy_keys r
  refine ⟨⟨ys, r, h1, h2, by rw [e]; exact k6, o, es, ep, k1, k2, k3, k4⟩, ⟨o, k1⟩, fun g1 g2 hg hs => ?_⟩
  obtain ⟨ys', r', q1, q2, q3, o', es', ep', m1, m2, m3, m4⟩ := hg
  exact ⟨ys', r', q1, q2, q3, o', es', ep', hs _ m1, m2, m3, m4⟩
theorem xy_repl {xs : List (NestedKey × Addr × V)} {ys : List (NestedKey × Addr × Value)} (r : XY xs ys) (k : NestedKey) {x : V} {u : Value} (rx : RelV x u) : XY (xs.map fun y => if y.1 = k then (y.1, y.2.1, x) else y) (ys.map (putAt k u)) := by
  induction r with
  | nil => exact .nil
  | cons h1 _ ih =>
    rename_i p q _ _ _
    refine .cons ?_ ih
    unfold putAt
    dsimp only
    by_cases hk : p.1 = k
    · rw [if_pos hk, if_pos (by rw [← h1.1]; exact hk)]
      exact ⟨h1.1, h1.2.1, rx⟩
    · rw [if_neg hk, if_neg (by rw [← h1.1]; exact hk)]
      exact h1
theorem stored_ys {xs : List (NestedKey × Addr × V)} {ys : List (NestedKey × Addr × Value)} (r : Paired (fun (p : NestedKey × Addr × V) (q : NestedKey × Addr × Value) => p.1 = q.1 ∧ p.2.1 = q.2.1 ∧ RelV p.2.2 q.2.2) xs ys) (k : NestedKey) (b : Addr) {x : V} {u : Value} (rx : RelV x u) :
    Paired (fun (p : NestedKey × Addr × V) (q : NestedKey × Addr × Value) => p.1 = q.1 ∧ p.2.1 = q.2.1 ∧ RelV p.2.2 q.2.2) (storedT xs k b x) (storedH ys k b u) := by
  have hs := (ys_at r k).isSome_eq
  rw [Option.isSome_map] at hs
  unfold storedT storedH
  rw [hs]
  split
  · exact xy_repl r k rx
  · exact r.snoc ⟨rfl, rfl, rx⟩
/-- an empty dict is one for tuples too -/
theorem dK_nil (I : Inv X pins σ H s) {a : Addr} (ha : Rd H a (.dK [])) : (a == sysModules) = false ∧ s.heap.DictOfH (nestedKind X.prog X.w) a [] := by
  obtain ⟨_, hd, vs, kv, o, es, ep, h1, h2, h3, h4, h5, h6⟩ := dk_rd I.hok ha
  cases kv
  refine ⟨hd, o, es, ep, h1, h2, h3, ?_, (fun x hx => by cases hx), List.nodup_nil⟩
  have : es.toList = [] := by
    cases hh : es.toList with
    | nil => rfl
    | cons x r => rw [hh] at h5; cases h5
  rw [this]; rfl
theorem room_nested (hu : Um X) : (nestedKind X.prog X.w).room X.A.in1 := by
  show X.A.in1.units + 8 < cLine
  rw [Around.in1_units]
  have : X.A.units + 100 < cLine := hu
  omega
/-- what the dict at a holds at the key p: any reader that the library has for both kinds of dicts -/
theorem dict_case (I : Inv X pins σ H s) {a : Addr} {W : HO → Prop} (hW : ∀ u, W u → Rd H a u) {es : List (PV × PV)} {p : PV} {x : V} {u : Value} (d : DP (wd X) L H a W es) (ok : keyOk es p = true) (v : VR (wd X) L H p x) (r : RelV x u) :
    (∃ kvs k, W (.dK kvs) ∧ PKs (wd X) L H es kvs ∧ p = kP k ∧ x = kV k) ∨
    ∃ xs ys k b, PTs_ (wd X) L H es xs ∧ Paired (fun (p : NestedKey × Addr × V) (q : NestedKey × Addr × Value) => p.1 = q.1 ∧ p.2.1 = q.2.1 ∧ RelV p.2.2 q.2.2) xs ys ∧ xs.length ≤ sizeLine ∧ (a == sysModules) = false ∧
      s.heap.DictOfH (nestedKind X.prog X.w) a ys ∧ keyT p = true ∧ toN p = some k ∧ (nestedKind X.prog X.w).is s.heap k b ∧ x = .ref b ∧ u = .ref b ∧ (W (dictB X.prog X.w a xs) ∨ W (.dK [])) := by
  unfold keyOk at ok
  rw [Bool.or_eq_true, Bool.and_eq_true, Bool.and_eq_true] at ok
  have tup : keyT p = true → ∃ k b, toN p = some k ∧ (nestedKind X.prog X.w).is s.heap k b ∧ x = .ref b ∧ u = .ref b := fun ht => by
    obtain ⟨ys, k, rfl, hk, hdp⟩ := keyT_toN ht
    cases v with
    | tup h1 h2 h3 =>
      cases r
      exact ⟨k, _, hk, VR.isKey I (.tup h1 h2 h3) hk hdp, rfl, rfl⟩
  rcases d.cases with ⟨kvs, ha, hp⟩ | ⟨xs, ha, h0, hp⟩
  · rcases ok with ⟨k1, k2⟩ | ⟨k1, k2⟩
    · obtain ⟨k, rfl⟩ := keyV_kP k1
      refine .inl ⟨kvs, k, ha, hp, rfl, ?_⟩
      cases k <;> (cases v; rfl)
    · have : es = [] := by
        cases es with
        | nil => rfl
        | cons e es =>
          rw [List.all_cons, Bool.and_eq_true] at k2
          have h1 := hp.keys
          rw [List.all_cons, Bool.and_eq_true] at h1
          obtain ⟨_, _, e1, _⟩ := keyT_toN k2.1
          rw [e1] at h1
          exact absurd h1.1 (by simp [keyV])
      subst this
      cases hp
      obtain ⟨hd, hm⟩ := dK_nil I (hW _ ha)
      obtain ⟨k, b, q1, q2, q3, q4⟩ := tup k1
      exact .inr ⟨[], [], k, b, .nil, .nil, Nat.zero_le _, hd, hm, k1, q1, q2, q3, q4, .inr ha⟩
  · rcases ok with ⟨k1, k2⟩ | ⟨k1, k2⟩
    · have : es = [] := by
        cases es with
        | nil => rfl
        | cons e es =>
          rw [List.all_cons, Bool.and_eq_true] at k2
          cases hp with
          | cons f1 _ =>
            obtain ⟨_, _, e1, _⟩ := keyT_toN f1.1
            rw [e1] at k2
            exact absurd k2.1 (by simp [keyV])
      exact absurd this h0
    · obtain ⟨ys, r1, h1, h2, h3⟩ := dictB_raw I (hW _ ha) hp
      obtain ⟨k, b, q1, q2, q3, q4⟩ := tup k1
      exact .inr ⟨xs, ys, k, b, hp, r1, h1, h2, h3, k1, q1, q2, q3, q4, .inl ha⟩
end
end HW
/-! HwF: in, items, stores. -/
namespace HW
open PySem PySem.Spec PyProof.Rows L2

section
variable {X : Cx} {pins : List (Addr × Obj)} {σ : L2.St} {H : Hp} {s : Shared} {L : List Addr} {A : Around} {E : Value → Shared → Prop}
theorem dgk {H : Hp} {a : Addr} {kvs : List (L2.Key × V)} {k : L2.Key} (e : Rd H a (.dK kvs)) : DGet H a (kV k) (valV kvs k) := .inl ⟨kvs, k, e, rfl, rfl⟩
theorem um1 (hu : Um X) : X.A.units + 1 < cLine := by have : X.A.units + 100 < cLine := hu; omega
theorem um65 (hu : Um X) : X.A.units + 65 < cLine := by have : X.A.units + 100 < cLine := hu; omega
theorem um64 (hu : Um X) : X.A.units + 64 < cLine := by have : X.A.units + 100 < cLine := hu; omega
theorem um0 (hu : Um X) : X.A.units < cLine := by have : X.A.units + 100 < cLine := hu; omega
theorem orel_some {Z : Wd} {L : List Addr} {H : Hp} {o : Option PV} {x : V} {y : Option V} (r : ORel Z L H o y) (e : y = some x) : ∃ p, o = some p ∧ VR Z L H p x := by
  subst e
  cases o with
  | none => exact r.elim
  | some p => exact ⟨p, rfl, r⟩
theorem orel_some' {Z : Wd} {L : List Addr} {H : Hp} {o : Option PV} {p : PV} {y : Option V} (r : ORel Z L H o y) (e : o = some p) : ∃ x, y = some x ∧ VR Z L H p x := by
  subst e
  cases y with
  | none => exact r.elim
  | some x => exact ⟨x, rfl, r⟩
theorem orel_none {Z : Wd} {L : List Addr} {H : Hp} {o : Option PV} {y : Option V} (r : ORel Z L H o y) : o = none ↔ y = none := by
  cases o <;> cases y <;> simp [ORel] at r ⊢
theorem orel_getD {Z : Wd} {L : List Addr} {H : Hp} {o : Option PV} {y : Option V} (r : ORel Z L H o y) {p : PV} {x : V} (v : VR Z L H p x) : VR Z L H (o.getD p) (y.getD x) := by
  cases o <;> cases y <;> simp [ORel] at r ⊢
  · exact v
  · exact r
theorem any_find (es : List (PV × PV)) (p : PV) : (es.any fun e => decide (e.1 = p)) = (dFind es p).isSome := by
  induction es with
  | nil => rfl
  | cons e es ih =>
    rw [List.any_cons, dFind, List.find?_cons]
    by_cases h : e.1 = p
    · simp [h]
    · rw [decide_eq_false h, Bool.false_or]; exact ih
/-- the library's dicts of both kinds at the key -/
theorem dict_typ (I : Inv X pins σ H s) {a : Addr} {es : List (PV × PV)} (d : DR (wd X) L H a es) : s.TypeIs (.ref a) "dict" ∧ ∃ ob, s.heap.get? a = some ob ∧ ob.dict = none := by
  rcases d.cases with ⟨kvs, ha, _⟩ | ⟨xs, ha, _, hp⟩
  · obtain ⟨_, _, vs, _, dd⟩ := dk_rd I.hok ha
    obtain ⟨ob, _, _, h1, h2, _⟩ := id dd
    exact ⟨dd.typeIs, ob, h1, h2.2.1⟩
  · obtain ⟨ys, _, _, _, dd⟩ := dictB_raw I ha hp
    obtain ⟨ob, _, _, h1, h2, _⟩ := id dd
    exact ⟨dd.typeIs, ob, h1, h2.2.1⟩
theorem dict_in (hu : Um X) (I : Inv X pins σ H s) {a : Addr} {es : List (PV × PV)} {p : PV} {x : V} {u : Value} {Q : Value → Shared → Prop} (d : DR (wd X) L H a es) (ok : keyOk es p = true) (v : VR (wd X) L H p x) (r : RelV x u)
    (h : ∀ s', Inv X pins σ H s' → Q (.bool (es.any fun e => decide (e.1 = p))) s') : wpAny (model X.prog X.w) X.A (compareOp .In u (.ref a)) Q E s := by
  rcases dict_case (W := Rd H a) I (fun _ q => q) d ok v r with ⟨kvs, k, ha, hp, rfl, rfl⟩ | ⟨xs, ys, k, b, hp, hy, h1, h2, h3, h4, h5, h6, rfl, rfl, h7⟩
  · refine d_in (um1 hu) I (dgk ha) r fun s' I' => ?_
    have := h s' I'
    rw [hp.any, valV_any] at this
    exact this
  · refine wpAny_in_heap (room_nested hu) h6 h2 h3 ?_
    have := h _ (I.tok (s.toks + (nestedKind X.prog X.w).draws k))
    rw [hp.any h5, (ys_at hy k).isSome_eq, Option.isSome_map] at this
    exact this
theorem dict_notin (hu : Um X) (I : Inv X pins σ H s) {a : Addr} {es : List (PV × PV)} {p : PV} {x : V} {u : Value} {Q : Value → Shared → Prop} (d : DR (wd X) L H a es) (ok : keyOk es p = true) (v : VR (wd X) L H p x) (r : RelV x u)
    (h : ∀ s', Inv X pins σ H s' → Q (.bool (!es.any fun e => decide (e.1 = p))) s') : wpAny (model X.prog X.w) X.A (compareOp .NotIn u (.ref a)) Q E s := by
  rcases dict_case (W := Rd H a) I (fun _ q => q) d ok v r with ⟨kvs, k, ha, hp, rfl, rfl⟩ | ⟨xs, ys, k, b, hp, hy, h1, h2, h3, h4, h5, h6, rfl, rfl, h7⟩
  · refine d_notIn (um1 hu) I (dgk ha) r fun s' I' => ?_
    have := h s' I'
    rw [hp.any, valV_any] at this
    exact this
  · show wpAny _ _ (do return .bool (!(← contains (.ref a) (.ref b)))) Q E s
    refine wpAny_bind (PySem.wpAny_contains_heap (room_nested hu) h6 h2 h3 (wpAny_pure ?_))
    have := h _ (I.tok (s.toks + (nestedKind X.prog X.w).draws k))
    rw [hp.any h5, (ys_at hy k).isSome_eq, Option.isSome_map] at this
    exact this
theorem dict_get (hu : Um X) (I : Inv X pins σ H s) {a : Addr} {es : List (PV × PV)} {p z : PV} {x : V} {u : Value} {Q : Value → Shared → Prop} (d : DR (wd X) L H a es) (ok : keyOk es p = true) (v : VR (wd X) L H p x) (r : RelV x u) (e : dFind es p = some z)
    (h : ∀ y w' s', Inv X pins σ H s' → VR (wd X) L H z y → RelV y w' → Q w' s') : wpAny (model X.prog X.w) X.A (getItem (.ref a) u) Q E s := by
  rcases dict_case (W := Rd H a) I (fun _ q => q) d ok v r with ⟨kvs, k, ha, hp, rfl, rfl⟩ | ⟨xs, ys, k, b, hp, hy, h1, h2, h3, h4, h5, h6, rfl, rfl, h7⟩
  · obtain ⟨y, ey, vy⟩ := orel_some' (hp.find k) e
    refine d_getItem (um1 hu) I (v := y) (by rw [← ey]; exact dgk ha) r fun w' s' I' rw' => h y w' s' I' vy rw'
  · obtain ⟨y, ey, vy⟩ := orel_some' (hp.find h5) e
    have ry := ys_at hy k
    rw [ey] at ry
    obtain ⟨w', hw, rw'⟩ := RelO.some_of ry
    obtain ⟨q, hq, rfl⟩ := Option.map_eq_some_iff.mp hw
    exact wpAny_getItem_heap (room_nested hu) h6 h3 hq (h y _ _ (I.tok _) vy rw')
theorem dict_getD (hu : Um X) (I : Inv X pins σ H s) {a : Addr} {es : List (PV × PV)} {p z : PV} {x y : V} {u w' : Value} {Q : Value → Shared → Prop} (d : DR (wd X) L H a es) (ok : keyOk es p = true) (v : VR (wd X) L H p x) (r : RelV x u)
    (vz : VR (wd X) L H z y) (rz : RelV y w') (h : ∀ y w' s', Inv X pins σ H s' → VR (wd X) L H ((dFind es p).getD z) y → RelV y w' → Q w' s') : wpAny (model X.prog X.w) X.A (call (.builtin "dict.get") [.ref a, u, w']) Q E s := by
  rcases dict_case (W := Rd H a) I (fun _ q => q) d ok v r with ⟨kvs, k, ha, hp, rfl, rfl⟩ | ⟨xs, ys, k, b, hp, hy, h1, h2, h3, h4, h5, h6, rfl, rfl, h7⟩
  · exact d_get2 (um1 hu) I (dgk ha) r rz fun w2 s' I' rw2 => h _ w2 s' I' (orel_getD (hp.find k) vz) rw2
  · refine call_meetsIn PySem.F.slot_dict_get h3.typeIs PySem.F.entry_dict_get (PySem.F.args_dict_get_3 _ _ _) (meetsH_dict_get_default _ a b h2 w') ⟨room_nested hu, k, ys, h6, h3, ?_⟩
    exact h _ _ _ (I.tok _) (orel_getD (hp.find h5) vz) ((ys_at hy k).getD rz)
theorem dict_get1 (hu : Um X) (I : Inv X pins σ H s) {a : Addr} {es : List (PV × PV)} {p : PV} {x : V} {u : Value} {Q : Value → Shared → Prop} (d : DR (wd X) L H a es) (ok : keyOk es p = true) (v : VR (wd X) L H p x) (r : RelV x u)
    (h : ∀ y w' s', Inv X pins σ H s' → VR (wd X) L H ((dFind es p).getD .non) y → RelV y w' → Q w' s') : wpAny (model X.prog X.w) X.A (call (.builtin "dict.get") [.ref a, u]) Q E s := by
  rcases dict_case (W := Rd H a) I (fun _ q => q) d ok v r with ⟨kvs, k, ha, hp, rfl, rfl⟩ | ⟨xs, ys, k, b, hp, hy, h1, h2, h3, h4, h5, h6, rfl, rfl, h7⟩
  · exact d_get1 (um1 hu) I (dgk ha) r fun w2 s' I' rw2 => h _ w2 s' I' (orel_getD (hp.find k) .non) rw2
  · refine call_meetsIn PySem.F.slot_dict_get h3.typeIs PySem.F.entry_dict_get (PySem.F.args_dict_get_2 _ _) (meetsH_dict_get _ a b h2) ⟨room_nested hu, k, ys, h6, h3, ?_⟩
    exact h _ _ _ (I.tok _) (orel_getD (hp.find h5) .non) ((ys_at hy k).getD (show RelV .non .none from rfl))
theorem storedT_len (xs : List (NestedKey × Addr × V)) (k : NestedKey) (b : Addr) (x : V) : (storedT xs k b x).length ≤ xs.length + 1 := by
  unfold storedT; split <;> simp
theorem dPut_ne (es : List (PV × PV)) (k v : PV) : dPut es k v ≠ [] := by
  unfold dPut
  split
  · rename_i h
    intro e
    rw [List.map_eq_nil_iff] at e
    subst e
    simp at h
  · simp
theorem mut_of {a : Addr} {xs : List (NestedKey × Addr × V)} (h7 : H a = some (dictB X.prog X.w a xs) ∨ H a = some (.dK [])) : Mut (H a) := by
  rcases h7 with h7 | h7 <;> rw [h7] <;> trivial
/-- d[k] = v, and what the heap is then -/
theorem dict_set (hu : Um X) (I : Inv X pins σ H s) {a : Addr} {es : List (PV × PV)} {p z : PV} {x y : V} {u w' : Value} {Q : Unit → Shared → Prop} (d : DX (wd X) L H a es) (ok : keyOk es p = true) (v : VR (wd X) L H p x) (r : RelV x u)
    (vz : VR (wd X) L H z y) (rz : RelV y w') (hl : es.length < sizeLine)
    (h : ∀ (o : HO) s', Inv X pins σ (upd H a o) s' → (∀ (L' : List Addr) (H' : Hp), (∀ p x, VR (wd X) L H p x → VR (wd X) L' H' p x) → H' a = some o → DX (wd X) L' H' a (dPut es p z)) → Q () s') : wpAny (model X.prog X.w) X.A (setItem (.ref a) u w') Q E s := by
  rcases dict_case (W := fun u => H a = some u) I (fun _ => .inl) d ok v r with ⟨kvs, k, ha, hp, rfl, rfl⟩ | ⟨xs, ys, k, b, hp, hy, h1, h2, h3, h4, h5, h6, rfl, rfl, h7⟩
  · have hk : kvs.length < sizeLine := by rw [← Paired.length hp]; exact hl
    refine d_setItem (um1 hu) I (DPut.k ha hk) r rz fun s' I' => h _ s' I' fun L' H' up e => DP.ofK e ?_
    exact Paired.mapP (hp.put k vz) fun a b ⟨q1, q2⟩ => ⟨q1, up _ _ q2⟩
  · have hxl : xs.length < sizeLine := by rw [← Paired.length hp]; exact hl
    have hz : ys.length ≤ sizeLine := by rw [← Paired.length hy]; omega
    refine wpAny_setItem_heap (hsz := hz) (room_nested hu) h6 h3 fun h' dd' hs => ?_
    have hxl2 := storedT_len xs k b y
    refine h (dictB X.prog X.w a (storedT xs k b y)) _ ?_ fun L' H' up e => DP.ofT e (dPut_ne _ _ _) ?_
    · exact d_write I (mut_of h7) hs (let ⟨q, _, _, hq, _⟩ := dd'; ⟨q, hq⟩) (dictB_ok (stored_ys hy k b rz) (by omega) h2 dd')
    · exact Paired.mapP (hp.put h4 h5 v vz) fun a b ⟨q1, q2, q3, q4⟩ => ⟨q1, q2, up _ _ q3, up _ _ q4⟩
theorem dict_len (I : Inv X pins σ H s) {a : Addr} {es : List (PV × PV)} {Q : Value → Shared → Prop} (d : DR (wd X) L H a es) (h : ∀ t s', Inv X pins σ H s' → Q (.int es.length t) s') : wpAny (model X.prog X.w) X.A (call (.builtin "len") [.ref a]) Q E s := by
  rcases d.cases with ⟨kvs, ha, hp⟩ | ⟨xs, ha, _, hp⟩
  · refine d_len I ha fun t s' I' => ?_
    rw [← Paired.length hp]
    exact h t s' I'
  · obtain ⟨ys, hy, h1, h2, dd⟩ := dictB_raw I ha hp
    have e : es.length = ys.length := (Paired.length hp).trans (Paired.length hy).symm.symm
    have hz : (ys.length : Int) < 2 ^ 63 := by rw [Paired.length hy, sizeLine_eq] at h1; omega
    refine call_len_dictH h2 dd hz ?_
    rw [← e]
    exact h _ _ (I.tok _)
theorem dict_truth (I : Inv X pins σ H s) {a : Addr} {es : List (PV × PV)} {Q : Bool → Shared → Prop} (d : DR (wd X) L H a es) (h : ∀ s', Inv X pins σ H s' → Q (!es.isEmpty) s') : wpAny (model X.prog X.w) X.A (truthy (.ref a)) Q E s := by
  rcases d.cases with ⟨kvs, ha, hp⟩ | ⟨xs, ha, h0, hp⟩
  · refine d_truth I ha fun s' I' => ?_
    have e : kvs.isEmpty = es.isEmpty := by cases hp <;> rfl
    rw [e]
    exact h s' I'
  · obtain ⟨ys, hy, h1, h2, dd⟩ := dictB_raw I ha hp
    have e : es.length = ys.length := (Paired.length hp).trans (Paired.length hy)
    have hz : (ys.length : Int) < 2 ^ 63 := by rw [Paired.length hy, sizeLine_eq] at h1; omega
    have hne : (!es.isEmpty) = ((ys.length : Int) != 0) := by
      cases es with
      | nil => exact absurd rfl h0
      | cons x r =>
        simp only [List.length_cons] at e
        have : (ys.length : Int) ≠ 0 := by omega
        rw [bne_iff_ne.mpr this]
        rfl
    have key : wpAny (model X.prog X.w) X.A (runValue (.builtin "len" ⟨[.ref a], []⟩)) (fun r s' => r = .int ys.length (s.toks + 1) ∧ Q ((ys.length : Int) != 0) s') E s := by
      refine wpAny_runValue (codeAny_builtin entry_len ?_)
      rw [Around.under_plainId plain_len _]
      refine wpAny_mono (wpAny_len_body_dictH (Q := fun r s' => r = .int ys.length (s.toks + 1) ∧ Q ((ys.length : Int) != 0) s') h2 dd hz ⟨rfl, ?_⟩) (fun fin s' ⟨r, er, hq⟩ => by rw [er]; exact hq) fun _ _ e => e
      rw [← hne]
      exact h _ (I.tok _)
    unfold truthy
    refine wpAny_bind (wpAny_callSpecial?_none (name := Str.ofString "__bool__") dd.typeIs noBool_dict ?_)
    refine wpAny_bind (wpAny_specialOf (name := Str.ofString "__len__") dd.typeIs PySem.F.slot_dict_len.lookup ?_)
    exact wpAny_bind (wpAny_mono key (fun r s' ⟨er, hq⟩ => by rw [er]; exact wpAny_pure hq) fun _ _ e => e)
end

/-! ### in; items; stores -/
section
variable {X : Cx}
theorem toDs_any : ∀ {xs : List PV} {ds : List PyData} (d : PyData), True := fun _ => trivial
theorem op_pyIn (hu : Um X) : OpR X (compareOp .In) (rCmp X .isin) := by
  intro pins s σ H x y v u Q I rx ry hw
  obtain ⟨L, h, p, q, r, hr, vp, vq, e, post⟩ := hw
  simp only [cmpop, isIn] at e
  split at e
  · rename_i es ed
    obtain ⟨a, rfl, d⟩ := vq.dict hr ed
    cases ry
    split at e
    · rename_i ok
      cases e
      exact dict_in hu I d ok vp rx fun s' I' => ⟨.bl _, H, I', rfl, post.bl hr⟩
    · cases e
  · split at e
    · rename_i xs ex
      obtain ⟨a, vs, rfl, hs, vv⟩ := vq.seq hr ex
      cases ry
      split at e
      · rename_i d ds e1 e2
        split at e
        · rename_i hc
          rw [Bool.and_eq_true] at hc
          cases e
          obtain ⟨as, r1⟩ := Dp.reads I d x v (vp.resDp hr e1) rx
          have fin : EP X pins σ Q (.bool (ds.any fun e => PyData.eqv e d)) s := ⟨.bl _, H, I, rfl, post.bl hr⟩
          rcases hs with hs | hs
          · obtain ⟨bs, r2⟩ := Dp.reads I (.list ds) (.ref a) (.ref a) (.lst (sqr hs) (VRs.dp _ _ _ vv e2)) rfl
            exact SeqAt.in_list_reads r2 r1 (SeqAt.canLay_of_shaped hc.2) (SeqAt.canLay_of_shaped hc.1) (room_in_shaped hc.1 (um65 hu)) fin
          · obtain ⟨bs, r2⟩ := Dp.reads I (.tuple ds) (.ref a) (.ref a) (.tup (TupAt.sq hs) (VRs.dp _ _ _ vv e2)) rfl
            exact SeqAt.in_tuple_reads r2 r1 (SeqAt.canLay_of_shaped hc.2) (SeqAt.canLay_of_shaped hc.1) (room_in_shaped hc.1 (um65 hu)) fin
        · cases e
      · cases e
    · cases e
theorem op_pyNotin (hu : Um X) : OpR X (compareOp .NotIn) (rCmp X .notin) := by
  intro pins s σ H x y v u Q I rx ry hw
  obtain ⟨L, h, p, q, r, hr, vp, vq, e, post⟩ := hw
  simp only [cmpop, isIn] at e
  split at e
  · rename_i es ed
    obtain ⟨a, rfl, d⟩ := vq.dict hr ed
    cases ry
    split at e
    · rename_i ok
      cases e
      exact dict_notin hu I d ok vp rx fun s' I' => ⟨.bl _, H, I', rfl, post.bl hr⟩
    · cases e
  · split at e
    · rename_i xs ex
      obtain ⟨a, vs, rfl, hs, vv⟩ := vq.seq hr ex
      cases ry
      split at e
      · rename_i d ds e1 e2
        split at e
        · rename_i hc
          rw [Bool.and_eq_true] at hc
          cases e
          obtain ⟨as, r1⟩ := Dp.reads I d x v (vp.resDp hr e1) rx
          have fin : EP X pins σ Q (.bool (!ds.any fun e => PyData.eqv e d)) s := ⟨.bl _, H, I, rfl, post.bl hr⟩
          rcases hs with hs | hs
          · obtain ⟨bs, r2⟩ := Dp.reads I (.list ds) (.ref a) (.ref a) (.lst (sqr hs) (VRs.dp _ _ _ vv e2)) rfl
            exact SeqAt.notIn_list_reads r2 r1 (SeqAt.canLay_of_shaped hc.2) (SeqAt.canLay_of_shaped hc.1) (room_in_shaped hc.1 (um65 hu)) fin
          · obtain ⟨bs, r2⟩ := Dp.reads I (.tuple ds) (.ref a) (.ref a) (.tup (TupAt.sq hs) (VRs.dp _ _ _ vv e2)) rfl
            exact SeqAt.notIn_tuple_reads r2 r1 (SeqAt.canLay_of_shaped hc.2) (SeqAt.canLay_of_shaped hc.1) (room_in_shaped hc.1 (um65 hu)) fin
        · cases e
      · cases e
    · cases e
/-- all comparisons -/
theorem op_cmp (hu : Um X) (op : COp) : OpR X (compareOp (pyC op)) (rCmp X op) := by
  cases op with
  | eq => exact op_pyEq (um64 hu)
  | ne => exact op_pyNe (um64 hu)
  | lt => exact ord_ok hu .lt (.inl rfl)
  | gt => exact ord_ok hu .gt (.inr (.inl rfl))
  | le => exact ord_ok hu .le (.inr (.inr (.inl rfl)))
  | ge => exact ord_ok hu .ge (.inr (.inr (.inr rfl)))
  | is => exact op_pyIs
  | isnot => exact op_pyIsnot
  | isin => exact op_pyIn hu
  | notin => exact op_pyNotin hu

theorem VRs.atI {Z : Wd} {L : List Addr} {H : Hp} {xs : List PV} {vs : List V} {i : Int} {p : PV} (r : VRs Z L H xs vs) (e : L2.atI xs i = some p) : ∃ x, L2.atI vs i = some x ∧ VR Z L H p x := by
  unfold L2.atI at e ⊢
  rw [r.length]
  cases hx : ixN xs.length i with
  | none => rw [hx] at e; cases e
  | some j =>
    rw [hx] at e
    exact r.get' e
theorem ix_dict (hu : Um X) : IxR X (fun x y H Q => ∃ L h p q r es, HR (wd X) L h H ∧ VR (wd X) L H p x ∧ VR (wd X) L H q y ∧ asDict h p = some es ∧ keyOk es q = true ∧ dFind es q = some r ∧ Post (wd X) L H r h Q) := by
  intro value slice pins s σ H x y v u Q I rx ry hw hs
  obtain ⟨L, h, p, q, r, es, hr, vp, vq, ed, ok, ef, post⟩ := hw
  obtain ⟨a, rfl, d⟩ := vp.dict hr ed
  cases rx
  have hT := (dict_typ I d).1
  unfold subscriptTail
  refine wpAny_bind ?_
  rw [getitemInPython_of_ne hT.not_modules]
  refine wpAny_bind (wpAny_specialOf hT PySem.F.slot_dict_getitem.lookup ?_)
  have fin : wpAny (model X.prog X.w) X.A (subscripted slice false (.ref a) u) (fun r s₃ => wpAny (model X.prog X.w) X.A (letTemporaryGo value (.ref a) r >>= fun _ => pure r) (EP X pins σ Q) X.xe s₃) X.xe s := by
    rw [hs]
    refine wpAny_operating (dict_get hu I d ok vq ry ef fun z w' s' I' vz rz => ?_)
    exact wpAny_bind (wpAny_letTemporaryGo (wpAny_pure ⟨z, H, I', rz, post.same hr vz⟩))
  first
    | exact wpAny_pure (wpAny_bind fin)
    | exact wpAny_bind (wpAny_pure (wpAny_bind fin))
    | exact wpAny_bind fin
def rSub (X : Cx) : R2 := fun x y H Q => ∃ L h p q r, HR (wd X) L h H ∧ VR (wd X) L H p x ∧ VR (wd X) L H q y ∧ itemOf h p q = some r ∧ Post (wd X) L H r h Q
theorem ix_item (hu : Um X) : IxR X (rSub X) := by
  intro value slice pins s σ H x y v u Q I rx ry hw hs
  obtain ⟨L, h, p, q, r, hr, vp, vq, e, post⟩ := hw
  unfold itemOf at e
  split at e
  · rename_i es ed
    split at e
    · rename_i ok
      exact ix_dict hu value slice pins s σ H x y v u Q I rx ry ⟨L, h, p, q, r, es, hr, vp, vq, ed, ok, e, post⟩ hs
    · cases e
  · split at e
    · rename_i xs i ex
      obtain ⟨a, vs, rfl, hq, vv⟩ := vp.seq hr ex
      cases vq
      obtain ⟨z, ez, vz⟩ := vv.atI e
      rcases hq with hq | hq
      · exact ix_list value slice pins s σ H _ _ v u Q I rx ry ⟨_, _, _, _, rfl, rfl, sqr hq, ez, post.same hr vz⟩ hs
      · exact ix_tup value slice pins s σ H _ _ v u Q I rx ry ⟨_, _, _, _, rfl, rfl, TupAt.sq hq, ez, post.same hr vz⟩ hs
    · cases e
/-- o[i] by values alone -/
theorem get_item (hu : Um X) : PGet X (rSub X) := by
  intro pins s σ H o i ov iv Q I ro ri hw
  obtain ⟨L, h, p, q, r, hr, vp, vq, e, post⟩ := hw
  unfold itemOf at e
  split at e
  · rename_i es ed
    split at e
    · rename_i ok
      obtain ⟨a, rfl, d⟩ := vp.dict hr ed
      cases ro
      exact dict_get hu I d ok vq ri e fun z w' s' I' vz rz => ⟨z, H, I', rz, post.same hr vz⟩
    · cases e
  · split at e
    · rename_i xs i ex
      obtain ⟨a, vs, rfl, hq, vv⟩ := vp.seq hr ex
      cases vq
      obtain ⟨z, ez, vz⟩ := vv.atI e
      cases ro
      obtain ⟨t, rfl⟩ := ri
      obtain ⟨j, h1, h2, h3, h4, h5⟩ := atI_get ez
      have hn := line63
      rcases hq with hq | hq
      · obtain ⟨its, rr, pl, hz⟩ := I.list (sqr hq)
        obtain ⟨w, ew, rw'⟩ := rr.get h2
        have hl := rr.length
        have fin : EP X pins σ Q w s := ⟨z, H, I, rw', post.same hr vz⟩
        by_cases h0 : 0 ≤ i
        · rw [seqIndex_of h0 h5] at h1
          have hj : i.toNat = j := Option.some.inj h1
          exact wpAny_getItem_list pl.isList h0 (by omega) (by rw [hj]; simpa using ew) fin
        · rw [seqIndex_neg (by omega) h4] at h1
          have hj : (i + (its.toArray.size : Int)).toNat = j := by
            rw [List.size_toArray, ← hl]
            exact Option.some.inj h1
          exact wpAny_getItem_list_neg pl.isList (by omega) (by rw [List.size_toArray]; omega) (by omega) (by rw [hj]; simpa using ew) fin
      · obtain ⟨its, rr, pl, hz⟩ := I.tuple (TupAt.sq hq)
        obtain ⟨w, ew, rw'⟩ := rr.get h2
        have hl := rr.length
        exact PyProof.Rows.getItem_tuple (j := j) pl (by omega) (by omega) (by rw [List.size_toArray, ← hl]; exact h1) (by simpa using ew) ⟨z, H, I, rw', post.same hr vz⟩
    · cases e
/-- o[i] = v -/
def PostH (Z : Wd) (L : List Addr) (H : Hp) (h' : PHeap) (Q : Hp → Prop) : Prop := ∀ L' H', Ext L H L' H' → HR Z L' h' H' → Q H'
def rPut (X : Cx) : TSet := fun o i v H Q => ∃ L h p q r h', HR (wd X) L h H ∧ VR (wd X) L H p o ∧ VR (wd X) L H q i ∧ VR (wd X) L H r v ∧ putItem h p q r = some h' ∧ PostH (wd X) L H h' Q
theorem set_item (hu : Um X) : PSet X (rPut X) := by
  intro pins s σ H o i v ov iv u Q I ro ri rv hw
  obtain ⟨L, h, p, q, r, h', hr, vp, vq, vr, e, post⟩ := hw
  unfold putItem at e
  split at e
  · rename_i n
    cases vp with
    | ref hn =>
      rename_i a
      have hm : a ∈ L := List.mem_of_getElem? hn
      cases ro
      split at e
      · rename_i xs k hc
        split at e
        · rename_i j hj
          cases e
          cases vq
          obtain ⟨vs, h1, h2⟩ := hr.cell _ _ _ hc hn
          refine set_list pins s σ H (.ref a) (.int k) v (.ref a) iv u _ I rfl ri rv ⟨a, vs, _, j, rfl, rfl, h1, by rw [h2.length]; exact hj, ?_⟩
          refine post _ _ (ext_write hm (nf_lst h1)) (hr.write hn (nf_lst h1) ⟨_, upd_same, ?_⟩)
          exact (h2.set vr j).mono (ext_write hm (nf_lst h1))
        · cases e
      · rename_i es hc
        split at e
        · rename_i ok
          cases e
          rw [Bool.and_eq_true] at ok
          have hl := of_decide_eq_true ok.2
          rw [lim] at hl
          refine dict_set hu I (hr.cell _ _ _ hc hn) ok.1 vq ri vr rv hl fun ob s' I' hd => ⟨_, I', post _ _ (ext_write hm (nf_dx (hr.cell _ _ _ hc hn))) (hr.write hn (nf_dx (hr.cell _ _ _ hc hn)) ?_)⟩
          exact hd L (upd H a ob) (fun p x w => w.mono (ext_write hm (nf_dx (hr.cell _ _ _ hc hn)))) upd_same
        · cases e
      · cases e
  · cases e
end
end HW
/-! HwG: slices, truth, built-ins. -/
namespace HW
open PySem PySem.Spec PyProof.Rows L2

section
variable {X : Cx}
theorem VRs.ints {Z : Wd} {L : List Addr} {H : Hp} : ∀ {xs : List PV} {ns : List Int} {vs : List V}, VRs Z L H xs vs → asInts xs = some ns → vs = ns.map V.int
  | [], _, _, .nil, e => by cases e; rfl
  | x :: xs, ns, _, .cons h1 h2, e => by
    cases x <;> simp [asInts] at e
    obtain ⟨ms, e1, rfl⟩ := e
    cases h1
    rw [List.map_cons, VRs.ints h2 e1]
theorem VRs.bools {Z : Wd} {L : List Addr} {H : Hp} : ∀ {xs : List PV} {ns : List Bool} {vs : List V}, VRs Z L H xs vs → asBools xs = some ns → vs = ns.map V.bl
  | [], _, _, .nil, e => by cases e; rfl
  | x :: xs, ns, _, .cons h1 h2, e => by
    cases x <;> simp [asBools] at e
    obtain ⟨ms, e1, rfl⟩ := e
    cases h1
    rw [List.map_cons, VRs.bools h2 e1]
theorem VRs.ofInts {Z : Wd} {L : List Addr} {H : Hp} : ∀ ns : List Int, VRs Z L H (ns.map .int) (ns.map V.int)
  | [] => .nil
  | n :: ns => .cons (.int n) (VRs.ofInts ns)
theorem VRs.cut {Z : Wd} {L : List Addr} {H : Hp} {xs : List PV} {vs : List V} (r : VRs Z L H xs vs) (lo hi : Option Int) : VRs Z L H (HW.cut xs lo hi) (cutV vs lo hi) := by
  unfold HW.cut cutV
  rw [r.length]
  exact (r.drop _).take _
theorem cut_whole (xs : List PV) (lo hi : Option Int) (h1 : HT.sIx xs.length 0 lo = 0) (h2 : HT.sIx xs.length xs.length hi = xs.length) : cut xs lo hi = xs := by
  unfold cut
  rw [h1, h2, List.drop_zero, Nat.sub_zero, List.take_length]
def rSl (X : Cx) : V → Option Int → Option Int → Hp → VK → Prop := fun x lo hi H Q => ∃ L h p r, HR (wd X) L h H ∧ VR (wd X) L H p x ∧ sliceOf h p lo hi = some r ∧ Post (wd X) L H r h Q
theorem mk_sl {pins : List (Addr × Obj)} {σ : L2.St} {s : Shared} {H : Hp} {L : List Addr} {h : PHeap} {xs : List PV} {vs : List V} {Q : VK} {v : Value} {sl : Addr}
    (w : ∃ T id, typeLookup (.type T) "__getitem__" = pure (some (.builtin id)) ∧ s.TypeIs v T ∧ wpAny (model X.prog X.w) X.A (getItem v (.ref sl)) (EP X pins σ (NewL H vs)) X.xe s) (post : Post (wd X) L H (.lst xs) h Q) (hr : HR (wd X) L h H) (v1 : VRs (wd X) L H xs vs) :
    ∃ T id, typeLookup (.type T) "__getitem__" = pure (some (.builtin id)) ∧ s.TypeIs v T ∧ wpAny (model X.prog X.w) X.A (getItem v (.ref sl)) (EP X pins σ Q) X.xe s := by
  obtain ⟨T, id, h1, h2, h3⟩ := w
  exact ⟨T, id, h1, h2, mk_wp (al := false) h3 rfl post hr v1⟩
theorem sl_ok : SlR X (rSl X) := by
  intro pins s σ H x v vl vu lo hi sl Q I rx hs pl pu hw
  obtain ⟨L, h, p, r, hr, vp, e, post⟩ := hw
  unfold sliceOf at e
  split at e
  · cases e
    cases vp with
    | tup h1 h2 h3 =>
      cases rx
      obtain ⟨its, r1, t1, hz⟩ := I.tuple (TupAt.sq h1)
      have m1 := r1.length
      refine ⟨"tuple", _, slot_tuple_getitem.lookup, t1.typeIs, ?_⟩
      by_cases hw : HT.sIx its.toArray.size 0 lo = 0 ∧ HT.sIx its.toArray.size its.toArray.size hi = its.toArray.size
      · have hw' : HT.sIx its.length 0 lo = 0 ∧ HT.sIx its.length its.length hi = its.length := by simpa using hw
        rw [← m1, h3.length] at hw'
        rw [cut_whole _ _ _ hw'.1 hw'.2] at post
        exact getItem_tuple_whole t1 hs pl pu hw (ep_ref I (post.same hr (.tup h1 h2 h3)))
      · have hsz : its.toArray.size ≤ sizeLine := by rw [List.size_toArray]; omega
        refine HT.getItem_tuple_cut t1 hs pl pu hw ?_ hsz
        have e2 : its.toArray.toList = its := by simp
        have e3 : its.toArray.size = _ := List.size_toArray (as := its)
        rw [e2, e3]
        refine tup_ep I hr post (h3.cut lo hi) ?_ ?_ s.toks
        · unfold cutV
          rw [m1]
          exact (r1.drop _).take _
        · exact Nat.le_trans (cutV_length _ lo hi) hz
  · cases e
    have go : ∀ {a : Addr} {ns : List Int}, SqL X.K H a (ns.map V.int) → rSlL X.K (.ref a) lo hi H (NewL H (cutV (ns.map V.int) lo hi)) := fun hq => ⟨_, _, rfl, hq, NewL.all⟩
    cases vp with
    | scr h1 h2 => exact mk_sl (sl_list pins s σ H _ v vl vu lo hi sl _ I rx hs pl pu (go (.inl (.inr h1)))) post hr ((VRs.ofInts _).cut lo hi)
    | scrK h1 => exact mk_sl (sl_list pins s σ H _ v vl vu lo hi sl _ I rx hs pl pu (go (h1 H))) post hr ((VRs.ofInts _).cut lo hi)
  · obtain ⟨xs, ex, rfl⟩ := Option.map_eq_some_iff.mp e
    obtain ⟨a, vs, rfl, h1, h2⟩ := vp.list hr ex
    exact mk_sl (sl_list pins s σ H _ v vl vu lo hi sl _ I rx hs pl pu ⟨_, _, rfl, sqr h1, NewL.all⟩) post hr (h2.cut lo hi)
theorem tru_okP (hu : Um X) : TruR X (fun x H Q => ∃ L h p b, HR (wd X) L h H ∧ VR (wd X) L H p x ∧ tru h p = some b ∧ Q b H) := by
  intro pins s σ H x v Q I rx hw
  obtain ⟨L, h, p, b, hr, vp, e, q⟩ := hw
  unfold tru at e
  split at e
  · cases e; cases vp; exact tru_ok pins s σ H _ v Q I rx ⟨false, rfl, q⟩
  · cases e; cases vp; exact tru_ok pins s σ H _ v Q I rx ⟨_, rfl, q⟩
  · cases e; cases vp; exact tru_ok pins s σ H _ v Q I rx ⟨_, rfl, q⟩
  · split at e
    · rename_i hl
      cases e; cases vp; exact tru_ok pins s σ H _ v Q I rx ⟨_, ⟨hl, rfl⟩, q⟩
    · cases e
  · split at e
    · rename_i xs ex
      cases e
      obtain ⟨a, vs, rfl, h1, h2⟩ := vp.seq hr ex
      have he : (!xs.isEmpty) = !vs.isEmpty := by cases h2 <;> rfl
      rw [he] at q
      rcases h1 with h1 | h1
      · exact tru_ok pins s σ H _ v Q I rx ⟨_, .inl ⟨vs, sqr h1, rfl⟩, q⟩
      · exact tru_ok pins s σ H _ v Q I rx ⟨_, .inr (.inl ⟨vs, TupAt.sq h1, rfl⟩), q⟩
    · split at e
      · rename_i es ed
        cases e
        obtain ⟨a, rfl, d⟩ := vp.dict hr ed
        cases rx
        exact dict_truth I d fun s' I' => ⟨H, I', q⟩
      · cases e
/-- rules of several arguments, by what the evaluator says -/
def rBlt (X : Cx) (f : Blt) : List V → Hp → VK → Prop := fun xs H Q => ∃ L h ps r, HR (wd X) L h H ∧ VRs (wd X) L H ps xs ∧ bltop f ps h = some r ∧ Post (wd X) L H r h Q
theorem vrs1 {Z : Wd} {L : List Addr} {H : Hp} {p : PV} {xs : List V} (r : VRs Z L H [p] xs) : ∃ x, xs = [x] ∧ VR Z L H p x := by
  cases r with
  | cons h1 h2 => cases h2; exact ⟨_, rfl, h1⟩
theorem vrs2 {Z : Wd} {L : List Addr} {H : Hp} {p q : PV} {xs : List V} (r : VRs Z L H [p, q] xs) : ∃ x y, xs = [x, y] ∧ VR Z L H p x ∧ VR Z L H q y := by
  cases r with
  | cons h1 h2 =>
    obtain ⟨y, rfl, h3⟩ := vrs1 h2
    exact ⟨_, y, rfl, h1, h3⟩
theorem cr_len (hu : Um X) : CallR X (.builtin "len") (rBlt X .len) := by
  intro pins s σ H xs us Q I r hw
  obtain ⟨L, h, ps, z, hr, vv, e, post⟩ := hw
  simp only [bltop] at e
  unfold bLen at e
  split at e
  · cases vv with
    | cons h1 h2 =>
      cases h2; cases h1
      split at e
      · rename_i hl
        cases e
        exact call_len_str pins s σ H _ us Q I r ⟨_, rfl, hl, post.int hr⟩
      · cases e
  · obtain ⟨x, rfl, v⟩ := vrs1 vv
    split at e
    · rename_i ys ex
      cases e
      obtain ⟨a, vs, rfl, h1, h2⟩ := v.seq hr ex
      have hl := h2.length
      exact call_len_seq pins s σ H _ us Q I r ⟨a, vs, rfl, seq_or h1, by rw [hl]; exact post.int hr⟩
    · split at e
      · rename_i es ed
        cases e
        obtain ⟨a, rfl, d⟩ := v.dict hr ed
        obtain ⟨u, rfl, ru⟩ := r.one
        cases ru
        exact dict_len I d fun t s' I' => ⟨.int es.length, H, I', ⟨t, rfl⟩, post.int hr⟩
      · cases e
  · cases e
theorem cr_abs : CallR X (.builtin "abs") (rBlt X .abs) := by
  intro pins s σ H xs us Q I r hw
  obtain ⟨L, h, ps, z, hr, vv, e, post⟩ := hw
  simp only [bltop] at e
  unfold bAbs at e
  split at e
  · cases e
    obtain ⟨x, rfl, v⟩ := vrs1 vv
    cases v
    exact call_abs pins s σ H _ us Q I r ⟨_, rfl, post.int hr⟩
  · cases e
theorem cr_max2 (hc : X.calm = true) : CallR X (.builtin "max") (rBlt X .max2) := by
  intro pins s σ H xs us Q I r hw
  obtain ⟨L, h, ps, z, hr, vv, e, post⟩ := hw
  simp only [bltop] at e
  unfold bMax2 at e
  split at e
  · cases e
    obtain ⟨x, y, rfl, v, v'⟩ := vrs2 vv
    cases v; cases v'
    exact call_max2 hc pins s σ H _ us Q I r ⟨_, _, rfl, post.int hr⟩
  · cases e
theorem cr_min2 (hc : X.calm = true) : CallR X (.builtin "min") (rBlt X .min2) := by
  intro pins s σ H xs us Q I r hw
  obtain ⟨L, h, ps, z, hr, vv, e, post⟩ := hw
  simp only [bltop] at e
  unfold bMin2 at e
  split at e
  · cases e
    obtain ⟨x, y, rfl, v, v'⟩ := vrs2 vv
    cases v; cases v'
    exact call_min2 hc pins s σ H _ us Q I r ⟨_, _, rfl, post.int hr⟩
  · cases e
theorem cr_int : CallR X (.type "int") (rBlt X .int) := by
  intro pins s σ H xs us Q I r hw
  obtain ⟨L, h, ps, z, hr, vv, e, post⟩ := hw
  simp only [bltop] at e
  unfold bInt at e
  split at e
  · cases e
    obtain ⟨x, rfl, v⟩ := vrs1 vv
    cases v
    exact call_int1 pins s σ H _ us Q I r (.inl ⟨_, rfl, post.int hr⟩)
  · cases e
    obtain ⟨x, rfl, v⟩ := vrs1 vv
    cases v
    exact call_int1 pins s σ H _ us Q I r (.inr ⟨_, rfl, post.int hr⟩)
  · cases e
theorem tyOf_ok {Z : Wd} {L : List Addr} {H : Hp} {h : PHeap} (hr : HR Z L h H) {p : PV} {x : V} {t : String} (v : VR Z L H p x) (e : tyOf h p = some t) : TyX Z.K H x (.type t) ∧ t ∈ ["NoneType", "bool", "int", "str", "tuple", "list"] := by
  unfold tyOf at e
  split at e
  · cases e; cases v; exact ⟨.base .non, by decide⟩
  · cases e; cases v; exact ⟨.base (.bl _), by decide⟩
  · cases e; cases v; exact ⟨.base (.int _), by decide⟩
  · cases e; cases v; exact ⟨.base (.str _), by decide⟩
  · cases e
    cases v with
    | tup h1 h2 h3 =>
      obtain ⟨o, h1, _⟩ := h1
      exact ⟨.fTuple h1, by decide⟩
  · obtain ⟨xs, ex, rfl⟩ := Option.map_eq_some_iff.mp e
    obtain ⟨a, vs, rfl, h1, h2⟩ := v.list hr ex
    rcases h1 with h1 | ⟨o, h1⟩
    · exact ⟨.base (.lst h1), by decide⟩
    · exact ⟨.base (.frz h1), by decide⟩
theorem kit_all : (["NoneType", "bool", "int", "str", "tuple", "list"].all fun t => tyNames.all fun T => kitB t T == some (isTy t T)) = true := by decide +kernel
theorem kit_at {K : PySem.W.Frag} {t T : String} (ht : t ∈ ["NoneType", "bool", "int", "str", "tuple", "list"]) (hT : T ∈ tyNames) : PySem.W.kitOne K (.type t) (.type T) = some (isTy t T) := by
  have h1 := List.all_eq_true.mp kit_all t ht
  have h2 := List.all_eq_true.mp h1 T hT
  exact kit_ty (beq_iff_eq.mp h2)
theorem cr_isi (T : String) : CallR X (.builtin "isinstance") (fun xs H Q => ∃ x, xs = [x, .ty T] ∧ rBlt X (.isi T) [x] H Q) := by
  intro pins s σ H xs us Q I r hw
  obtain ⟨x, rfl, L, h, ps, z, hr, vv, e, post⟩ := hw
  simp only [bltop] at e
  unfold bIsi at e
  split at e
  · split at e
    · rename_i hT
      obtain ⟨t, et, rfl⟩ := Option.map_eq_some_iff.mp e
      obtain ⟨x', ex, v⟩ := vrs1 vv
      cases ex
      obtain ⟨ty, ht⟩ := tyOf_ok hr v et
      exact call_isi pins s σ H _ us Q I r ⟨_, _, _, _, _, rfl, .ty T, ty, kit_at ht (by simpa using hT), post.bl hr⟩
    · cases e
  · cases e
theorem kitAny_at {K : PySem.W.Frag} {t : String} (ht : t ∈ ["NoneType", "bool", "int", "str", "tuple", "list"]) : ∀ ts : List String, (∀ T ∈ ts, T ∈ tyNames) → PySem.W.kitAny K (.type t) (ts.map Value.type) = some (ts.any (isTy t))
  | [], _ => kitAny_nil
  | T :: ts, h => by
    refine kitAny_cons (kit_at ht (h T List.mem_cons_self)) (fun hb => ?_) fun hb => ?_
    · rw [List.any_cons, hb, Bool.false_or]
      exact kitAny_at ht ts fun T' h' => h T' (List.mem_cons_of_mem _ h')
    · rw [List.any_cons, hb, Bool.true_or]
theorem clsVs : ∀ ts : List String, Paired ClsV (ts.map V.ty) (ts.map Value.type)
  | [] => .nil
  | t :: ts => .cons (.ty t) (clsVs ts)
theorem cr_isiT (ts : List String) : CallR X (.builtin "isinstance") (fun xs H Q => ∃ x tp, xs = [x, .ref tp] ∧ H tp = some (.tup (ts.map V.ty)) ∧ rBlt X (.isiT ts) [x] H Q) := by
  intro pins s σ H xs us Q I r hw
  obtain ⟨x, tp, rfl, htp, L, h, ps, z, hr, vv, e, post⟩ := hw
  simp only [bltop] at e
  unfold bIsiT at e
  split at e
  · split at e
    · rename_i hT
      obtain ⟨t, et, rfl⟩ := Option.map_eq_some_iff.mp e
      obtain ⟨x', ex, v⟩ := vrs1 vv
      cases ex
      obtain ⟨ty, ht⟩ := tyOf_ok hr v et
      exact call_isiT pins s σ H _ us Q I r ⟨_, _, _, _, _, _, rfl, htp, clsVs ts, ty, kitAny_at ht ts (fun T h' => by simpa using List.all_eq_true.mp hT T h'), post.bl hr⟩
    · cases e
  · cases e

/-! ### lists, tuples made of what is walked -/
def rConv (X : Cx) (k : Cnv) (al : Bool) : List V → Hp → VK → Prop := fun xs H Q => ∃ L h p x r h', xs = [x] ∧ HR (wd X) L h H ∧ VR (wd X) L H p x ∧ convop k al p h = .ok r h' ∧ Post (wd X) L H r h' Q
/-- what is walked is a list, a tuple, or a dict's keys -/
theorem src_cases {Z : Wd} {L : List Addr} {H : Hp} {h : PHeap} (hr : HR Z L h H) {p : PV} {x : V} {ys : List PV} (v : VR Z L H p x) (e : anySrc h p = some ys) :
    (∃ a vs, x = .ref a ∧ (Rd H a (.lst vs) ∨ TupAt H a vs) ∧ VRs Z L H ys vs) ∨ ∃ a es, x = .ref a ∧ DR Z L H a es ∧ ys = es.map (·.1) := by
  obtain ⟨⟨ys', c⟩, ee, e0⟩ := Option.map_eq_some_iff.mp e
  clear e
  have e := ee
  clear ee
  cases e0
  unfold srcOf at e
  split at e
  · cases e
    cases v with
    | tup h1 h2 h3 => exact .inl ⟨_, _, rfl, .inr h1, h3⟩
  · cases e
    cases v with
    | lst h1 h2 h3 => exact .inl ⟨_, _, rfl, .inl (.inr h1), h3⟩
  · cases e
    cases v with
    | dctK h1 h2 h3 h4 => exact .inr ⟨_, _, rfl, .k (.inr h1) h3 h4, rfl⟩
    | dctT h1 h2 h0 h3 h4 h5 h6 => exact .inr ⟨_, _, rfl, .t (.inr h1) h0 h3 h4 h5 h6, rfl⟩
  · rename_i n
    cases v with
    | ref hn =>
      split at e
      · rename_i xs hc
        cases e
        obtain ⟨vs, h1, h2⟩ := hr.cell _ _ _ hc hn
        exact .inl ⟨_, vs, rfl, .inl (.inl h1), h2⟩
      · rename_i es hc
        cases e
        exact .inr ⟨_, es, rfl, DP.rd (hr.cell _ _ _ hc hn), rfl⟩
      · rename_i es hc
        cases e
        exact .inr ⟨_, es, rfl, DP.rdL (hr.cell _ _ _ hc hn), rfl⟩
      · cases e
  · cases e
end
end HW
/-! HwH: what is made of what is walked. -/
namespace HW
open PySem PySem.Spec PyProof.Rows L2

section
variable {X : Cx} {pins : List (Addr × Obj)} {σ : L2.St} {H : Hp} {s : Shared} {L : List Addr}
/-- the entries of a dict as they stand -/
structure RawD (Z : Wd) (L : List Addr) (H : Hp) (s : Shared) (a : Addr) (es : List (PV × PV)) (rs : Array DictEntry) (ep : Nat) : Prop where
  raw : s.heap.DictRaw a rs ep
  sys : (a == sysModules) = false
  size : rs.size = es.length
  few : es.length ≤ sizeLine
  keys : ∃ ks, Vals ks (rs.toList.map (·.key)) ∧ VRs Z L H (es.map (·.1)) ks
  vals : ∃ vs, Vals vs (rs.toList.map (·.val)) ∧ VRs Z L H (es.map (·.2)) vs
theorem kP_rel {Z : Wd} {L : List Addr} {H : Hp} (k : L2.Key) : VR Z L H (kP k) (kV k) := by
  cases k
  · exact .int _
  · exact .str _
theorem raw_k {es : List (PV × PV)} {kvs : List (L2.Key × V)} (hp : PKs (wd X) L H es kvs) {vs : List (L2.Key × Value)} (rel : KV kvs vs) {rs : List DictEntry} (hl : rs.length = vs.length)
    (h : ∀ i (hi : i < rs.length) k v, vs[i]? = some (k, v) → keyIs k rs[i].key = true ∧ rs[i].val = v) :
    (∃ ks, Vals ks (rs.map (·.key)) ∧ VRs (wd X) L H (es.map (·.1)) ks) ∧ ∃ us, Vals us (rs.map (·.val)) ∧ VRs (wd X) L H (es.map (·.2)) us := by
  induction rel generalizing es rs with
  | nil =>
    cases hp
    cases rs with
    | nil => exact ⟨⟨[], .nil, .nil⟩, [], .nil, .nil⟩
    | cons _ _ => simp at hl
  | cons h1 t ih =>
    rename_i p q l1 l2
    cases hp with
    | cons f1 f2 =>
      cases rs with
      | nil => simp at hl
      | cons r rs =>
        obtain ⟨⟨ks, i1, i2⟩, us, i3, i4⟩ := ih f2 (rs := rs) (by simpa using hl) fun i hi k v e => by
          have := h (i + 1) (by simpa using hi) k v (by simpa using e)
          simpa using this
        have h0 := h 0 (by simp) q.1 q.2 rfl
        simp only [List.getElem_cons_zero] at h0
        refine ⟨⟨kV q.1 :: ks, .cons (keyIs_rel h0.1) i1, .cons ?_ i2⟩, p.2 :: us, .cons ?_ i3, .cons f1.2 i4⟩
        · show VR (wd X) L H _ _
          dsimp only
          rw [f1.1, h1.1]
          exact kP_rel _
        · dsimp only
          rw [h0.2]
          exact h1.2
theorem raw_t {es : List (PV × PV)} {xs : List (NestedKey × Addr × V)} (hp : PTs_ (wd X) L H es xs) {ys : List (NestedKey × Addr × Value)} (rel : XY xs ys) :
    (∃ ks, Vals ks (ys.map fun y => Value.ref y.2.1) ∧ VRs (wd X) L H (es.map (·.1)) ks) ∧ ∃ us, Vals us (ys.map (·.2.2)) ∧ VRs (wd X) L H (es.map (·.2)) us := by
  induction rel generalizing es with
  | nil => cases hp; exact ⟨⟨[], .nil, .nil⟩, [], .nil, .nil⟩
  | cons h1 t ih =>
    rename_i p q l1 l2
    cases hp with
    | cons f1 f2 =>
      obtain ⟨⟨ks, i1, i2⟩, us, i3, i4⟩ := ih f2
      exact ⟨⟨.ref p.2.1 :: ks, .cons (by rw [h1.2.1]; rfl) i1, .cons f1.2.2.1 i2⟩, p.2.2 :: us, .cons h1.2.2 i3, .cons f1.2.2.2 i4⟩
theorem dict_raw (I : Inv X pins σ H s) {a : Addr} {es : List (PV × PV)} (d : DR (wd X) L H a es) : ∃ rs ep, RawD (wd X) L H s a es rs ep := by
  rcases d.cases with ⟨kvs, ha, hp⟩ | ⟨xs, ha, h0, hp⟩
  · obtain ⟨z, hd, vs, rel, dd⟩ := dk_rd I.hok ha
    obtain ⟨rs, ep, h1, h2, h3⟩ := dd.raw
    have e1 : es.length = kvs.length := Paired.length hp
    have e2 : kvs.length = vs.length := Paired.length rel
    obtain ⟨k1, k2⟩ := raw_k (rs := rs.toList) hp rel (by rw [Array.length_toList]; exact h2) fun i hi k v e => by
      have h4 := h3 i (by simpa using hi) k v e
      rw [Array.getElem_toList]
      exact h4
    exact ⟨rs, ep, h1, hd, by omega, by omega, k1, k2⟩
  · obtain ⟨ys, hy, h1, h2, o, rs, ep, g1, g2, g3, g4, g5, g6⟩ := dictB_raw I ha hp
    have e1 : es.length = xs.length := Paired.length hp
    have e2 : xs.length = ys.length := Paired.length hy
    have e3 : rs.size = ys.length := by rw [← Array.length_toList, g4, List.length_map]
    obtain ⟨k1, k2⟩ := raw_t hp hy
    refine ⟨rs, ep, ⟨o, g1, g2, g3⟩, h2, by omega, by omega, ?_, ?_⟩
    · rw [g4, List.map_map]; exact k1
    · rw [g4, List.map_map]; exact k2
/-- what collect gives -/
abbrev ColR (X : Cx) (s : Shared) (L : List Addr) (H : Hp) (v : Value) (ys : List PV) : Prop :=
  ∀ (A : Around) (E : Value → Shared → Prop) (R : List Value → Shared → Prop), A.handled = none →
    (∀ h' tk acc vs, (∀ b o, s.heap.get? b = some o → h'.get? b = some o) → Vals vs acc → VRs (wd X) L H ys vs → acc.length ≤ sizeLine → R acc { s with heap := h', toks := tk }) → wpAny (model X.prog X.w) A (collect v) R E s
theorem col_seq (I : Inv X pins σ H s) {a : Addr} {vs : List V} {ys : List PV} (hq : Rd H a (.lst vs) ∨ TupAt H a vs) (v : VRs (wd X) L H ys vs) : ColR X s L H (.ref a) ys := by
  intro A E R hh h
  rcases hq with hq | hq
  · obtain ⟨its, rv, ⟨o, n, ho, hc, _, hd⟩, hz⟩ := I.list (sqr hq)
    have hl := rv.length
    refine wpAny_collect_seq (hsz := by rw [List.size_toArray]; omega) a (.inl rfl) ho hc hd fun h' hk => ?_
    exact h h' s.toks its vs hk rv v (by omega)
  · obtain ⟨its, rv, ⟨o, ho, hc, n, hd⟩, hz⟩ := I.tuple (TupAt.sq hq)
    have hl := rv.length
    refine wpAny_collect_seq (hsz := by rw [List.size_toArray]; omega) a (.inr rfl) ho hc hd fun h' hk => ?_
    exact h h' s.toks its vs hk rv v (by omega)
theorem col_kdl {P : Program} {w : World} {A : Around} {E : Value → Shared → Prop} {T : String} {r d : Addr} {n : Nat} {G : Nat → Value → Prop} {OK : Heap → Prop} {R : List Value → Shared → Prop} (K : PySem.W.KdlSrc P w T r d n G OK) (hh : A.handled = none) (hok : OK s.heap) (hn : n ≤ sizeLine)
    (h : ∀ h' tk (acc : Array Value), (∀ b o, s.heap.get? b = some o → h'.get? b = some o) → ItemsOf G acc n → R acc.toList { s with heap := h', toks := tk }) : wpAny (model P w) A (collect (.ref r)) R E s := by
  have hlt := K.there _ hok
  unfold collect
  refine wpAny_bind (wpAny_runValue (codeAny_builtin PySem.F.entry_proto_collect ?_))
  rw [Around.under_plainId PySem.F.plain_proto_collect _]
  refine wpAny_bind (wpAny_newObj_type ?_)
  refine wpAny_pure ⟨plainId_quiet PySem.F.plain_list_iadd _, codeAny_builtin PySem.F.entry_list_iadd ?_⟩
  rw [Around.under_plainId PySem.F.plain_list_iadd _]
  have new : (s.heap.push { cls := .type "list", data := .seq ([] : List Value).toArray }).get? s.heap.objs.size = some { cls := .type "list", data := .seq #[] 0 } := Heap.get?_push_size _ rfl
  have key := PySem.W.kdl_extend (A := A) (s := { s with heap := s.heap.push { cls := .type "list", data := .seq ([] : List Value).toArray } })
    (R := fun rr s' => rr = .ok (.ret (.ref s.heap.objs.size)) ∧ ∃ (h' : Heap) (tk : Nat) (acc : Array Value) (c' : Nat), s' = { s with heap := h', toks := tk } ∧ (∀ b o, s.heap.get? b = some o → h'.get? b = some o) ∧
      h'.get? s.heap.objs.size = some { cls := .type "list", dict := none, data := .seq acc c', slots := #[] } ∧ ItemsOf G acc n)
    K hh (K.keep _ _ hok fun b _ o e => Heap.get?_push_of_some _ e) s.heap.objs.size (Nat.ne_of_gt hlt.1) (Nat.ne_of_gt hlt.2) (.ref s.heap.objs.size) 0 new
    (fun h' tk acc c' hk e hi => ⟨rfl, h', tk, acc, c', rfl, fun b o q => hk b o (Nat.ne_of_lt (Heap.lt_size q)) (Heap.get?_push_of_some _ q), e, hi⟩) hn
  refine wpAny_mono key (fun fin s' hf => ?_) fun e s' hf => ?_
  · cases fin with
    | done f =>
      obtain ⟨e, h', tk, acc, c', rfl, hk, hS', hi⟩ := hf
      cases e
      show wpAny _ A (load s.heap.objs.size >>= _) _ _ _
      exact wpAny_bind (wpAny_load hS' (wpAny_pure (h h' tk acc hk hi)))
    | again c' =>
      obtain ⟨q1, q2⟩ := hf
      refine ⟨q1, codeAny_mono q2 fun rr s'' hr' => ?_⟩
      obtain ⟨rfl, h', tk, acc, c', rfl, hk, hS', hi⟩ := hr'
      show wpAny _ A (load s.heap.objs.size >>= _) _ _ _
      exact wpAny_bind (wpAny_load hS' (wpAny_pure (h h' tk acc hk hi)))
  · cases hf.1
theorem keys_items {rs : Array DictEntry} {acc : Array Value} (hi : ItemsOf (fun i v => ∃ hi : i < rs.size, v = rs[i].key) acc rs.size) : acc.toList = rs.toList.map (·.key) := by
  refine List.ext_getElem? fun j => ?_
  rw [List.getElem?_map, Array.getElem?_toList, Array.getElem?_toList]
  cases hj : acc[j]? with
  | none =>
    have h1 : acc.size ≤ j := Array.getElem?_eq_none_iff.mp hj
    rw [Array.getElem?_eq_none (by rw [← hi.1]; exact h1)]
    rfl
  | some v =>
    obtain ⟨hj2, e⟩ := hi.2 j v hj
    rw [Array.getElem?_eq_getElem hj2, e]
    rfl
theorem col_dict (I : Inv X pins σ H s) {a : Addr} {es : List (PV × PV)} (d : DR (wd X) L H a es) : ColR X s L H (.ref a) (es.map (·.1)) := by
  intro A E R hh h
  obtain ⟨rs, ep, r⟩ := dict_raw I d
  refine col_kdl (PySem.KdlSrc.rawDict r.sys) hh r.raw (by rw [r.size]; exact r.few) fun h' tk acc hk hi => ?_
  obtain ⟨ks, k1, k2⟩ := r.keys
  refine h h' tk acc.toList ks hk (by rw [keys_items hi]; exact k1) k2 ?_
  rw [keys_items hi, List.length_map, Array.length_toList, r.size]
  exact r.few
end
end HW
/-! HwI: sorted, list, tuple, sum and such of what is walked. -/
namespace HW
open PySem PySem.Spec PyProof.Rows L2
open PySem.W (EachIs AllAlike Sortable dataLe)

mutual
theorem reads_lt {h : Heap} : ∀ (p : PV) (d : PyData) (v : Value) (as : List Addr), toD p = some d → Reads h v d as → ∀ b ∈ as, b < h.objs.size
  | .non, _, _, _, e, r, b, hb => by cases e; cases r; cases hb
  | .bl _, _, _, _, e, r, b, hb => by cases e; cases r; cases hb
  | .int _, _, _, _, e, r, b, hb => by cases e; cases r; cases hb
  | .str _, _, _, _, e, r, b, hb => by cases e; cases r; cases hb
  | .lst xs, _, _, _, e, r, b, hb => by
    rw [toD] at e
    obtain ⟨ds, e1, rfl⟩ := Option.map_eq_some_iff.mp e
    cases r with
    | list h1 h2 h3 h4 =>
      rcases List.mem_cons.mp hb with rfl | hb
      · exact Heap.lt_size h1
      · exact readsAll_lt xs _ _ _ e1 h4 b hb
  | .tup xs, _, _, _, e, r, b, hb => by
    rw [toD] at e
    obtain ⟨ds, e1, rfl⟩ := Option.map_eq_some_iff.mp e
    cases r with
    | tuple h1 h2 h3 h4 => exact readsAll_lt xs _ _ _ e1 h4 b hb
  | .dct _, _, _, _, e, _, _, _ => by simp [toD] at e
  | .scr _, _, _, _, e, _, _, _ => by simp [toD] at e
  | .ref _, _, _, _, e, _, _, _ => by simp [toD] at e
theorem readsAll_lt {h : Heap} : ∀ (ps : List PV) (ds : List PyData) (vs : List Value) (as : List Addr), toDs ps = some ds → ReadsAll h vs ds as → ∀ b ∈ as, b < h.objs.size
  | [], _, _, _, e, r, b, hb => by cases e; cases r; cases hb
  | p :: ps, _, _, _, e, r, b, hb => by
    rw [toDs] at e
    split at e
    · rename_i d ds e1 e2
      cases e
      cases r with
      | cons h1 h2 =>
        rcases List.mem_append.mp hb with hb | hb
        · exact reads_lt p d _ _ e1 h1 b hb
        · exact readsAll_lt ps ds _ _ e2 h2 b hb
    · cases e
end
theorem toDs_map : ∀ {xs : List PV} {ds : List PyData}, toDs xs = some ds → ds = xs.map dOf ∧ ∀ p ∈ xs, toD p = some (dOf p)
  | [], _, e => by cases e; exact ⟨rfl, fun p hp => by cases hp⟩
  | x :: xs, _, e => by
    rw [toDs] at e
    split at e
    · rename_i d ds e1 e2
      cases e
      obtain ⟨h1, h2⟩ := toDs_map e2
      have e3 : dOf x = d := by unfold dOf; rw [e1]; rfl
      refine ⟨by rw [List.map_cons, e3, ← h1], fun p hp => ?_⟩
      rcases List.mem_cons.mp hp with rfl | hp
      · rw [e3]; exact e1
      · exact h2 p hp
    · cases e
theorem sortOk_facts {xs : List PV} (h : sortOk xs = true) : (∀ p ∈ xs, toD p = some (dOf p)) ∧ AllAlike (xs.map dOf) ∧ Sortable (xs.map dOf) ∧ ∀ p ∈ xs, (dOf p).depth ≤ 32 := by
  unfold sortOk at h
  split at h
  · rename_i ds e
    obtain ⟨rfl, h1⟩ := toDs_map e
    simp only [Bool.and_eq_true, Bool.or_eq_true] at h
    obtain ⟨⟨h2, h3⟩, h4⟩ := h
    refine ⟨h1, fun d hd d' hd' => ?_, ?_, fun p hp => ?_⟩
    · exact List.all_eq_true.mp (List.all_eq_true.mp h2 d hd) d' hd'
    · rcases h4 with h4 | h4
      · refine .inl fun d hd => ?_
        have := List.all_eq_true.mp h4 d hd
        cases d with
        | tuple ys =>
          cases ys with
          | nil => simp at this
          | cons y ys => exact ⟨y, ys, rfl⟩
        | _ => simp at this
      · refine .inr fun d hd => ?_
        have := List.all_eq_true.mp h4 d hd
        cases d <;> simp at this ⊢
    · exact of_decide_eq_true (List.all_eq_true.mp h3 _ (List.mem_map.mpr ⟨p, hp, rfl⟩))
  · cases h
/-- the model's values of evaluator's values, one by one -/
theorem each_of {Z : Wd} {L : List Addr} {H : Hp} : ∀ {ps : List PV} {vs : List V} {us : List Value}, VRs Z L H ps vs → Vals vs us → EachIs (fun u p => ∃ x, RelV x u ∧ VR Z L H p x) us ps
  | _, _, _, .nil, .nil => .nil
  | _, _, _, .cons h1 h2, .cons r1 r2 => .cons ⟨_, r1, h1⟩ (each_of h2 r2)
theorem of_each {Z : Wd} {L : List Addr} {H : Hp} : ∀ {us : List Value} {ps : List PV}, EachIs (fun u p => ∃ x, RelV x u ∧ VR Z L H p x) us ps → ∃ vs, Vals vs us ∧ VRs Z L H ps vs
  | _, _, .nil => ⟨[], .nil, .nil⟩
  | _, _, .cons ⟨x, h1, h2⟩ t => by
    obtain ⟨vs, h3, h4⟩ := of_each t
    exact ⟨x :: vs, .cons h1 h3, .cons h2 h4⟩
section
variable {X : Cx} {pins : List (Addr × Obj)} {σ : L2.St} {H : Hp} {s : Shared} {L : List Addr}
theorem each_reads (I : Inv X pins σ H s) {h' : Heap} (hk : ∀ b o, s.heap.get? b = some o → h'.get? b = some o) {us : List Value} : ∀ {ps : List PV}, (∀ p ∈ ps, toD p = some (dOf p)) → EachIs (fun u p => ∃ x, RelV x u ∧ VR (wd X) L H p x) us ps → ∀ {a : Addr}, s.heap.objs.size ≤ a →
    EachIs (fun v b => ∃ as, Reads h' v (dOf b) as ∧ a ∉ as) us ps := by
  intro ps hd e a ha
  induction e with
  | nil => exact .nil
  | cons h1 _ ih =>
    rename_i u p _ _ _
    refine .cons ?_ (ih fun q hq => hd q (List.mem_cons_of_mem _ hq))
    obtain ⟨x, r1, r2⟩ := h1
    have e1 := hd p List.mem_cons_self
    obtain ⟨as, r3⟩ := Dp.reads I (dOf p) x u (r2.dp _ _ _ e1) r1
    refine ⟨as, PyProof.Rows.Reads.keeps hk r3, fun q => ?_⟩
    have := reads_lt p _ _ _ e1 r3 a q
    exact absurd (Nat.lt_of_lt_of_le this ha) (Nat.lt_irrefl _)
theorem sortV_len (ys : List PV) : (sortV ys).length = ys.length := by unfold sortV; exact List.length_mergeSort _
/-- sorted(v), v anything that gives ys -/
theorem sorted_col (hc : X.calm = true) (hu : Um X) (I : Inv X pins σ H s) {v : Value} {ys : List PV} (col : ColR X s L H v ys) (ok : sortOk ys = true) {Q : VK} (hf : ∀ p vs, H p = none → VRs (wd X) L H (sortV ys) vs → Q (.ref p) (upd H p (.lst vs))) :
    wpAny (model X.prog X.w) X.A (call (.builtin "sorted") [v]) (EP X pins σ Q) X.xe s := by
  obtain ⟨hD, hA, hS, hDp⟩ := sortOk_facts ok
  refine Calls.call_function_entry kind_sorted plain_sorted entry_sorted (args_sorted1 _) ?_
  unfold Builtin.«sorted»
  refine wpAny_bind (m := checkCount "sorted" 1 1 _) (wpAny_pure ?_)
  have hh : X.A.in1.handled = none := I.ok.hd hc
  refine wpAny_bind (col X.A.in1 _ _ hh fun h' tk acc vs hk rv vv hl => ?_)
  refine wpAny_bind (wpAny_newList ?_ hl)
  have I1 : Inv X pins σ H { s with heap := h', toks := tk } := I.kept hk
  have hk2 : ∀ b o, h'.get? b = some o → (h'.push { cls := .type "list", data := .seq acc.toArray }).get? b = some o := fun b o e => Heap.get?_push_of_some _ e
  have e1 := each_of vv rv
  have hn : H h'.objs.size = none := I1.hok.fresh (Nat.le_refl _)
  have hat : (h'.push { cls := .type "list", data := .seq acc.toArray }).get? h'.objs.size = some (seqObj "list" acc.toArray 0) := Heap.get?_push_size _ rfl
  refine wpAny_bind (wpAny_holding (PySem.W.list_sort_data (A := X.A.in1) (s := { s with heap := h'.push { cls := .type "list", data := .seq acc.toArray }, toks := tk }) hat e1 (each_reads I1 hk2 hD e1 (Nat.le_refl _)) hA hS (by rw [← vv.length, rv.length]; exact hl) (fun p hp => ?_) fun out ho eo => ?_))
  · have h1 := hDp p hp
    have h2 : X.A.units + 100 < cLine := hu
    rw [Around.in1_units]
    omega
  · refine wpAny_pure ⟨_, rfl, ?_⟩
    obtain ⟨ws, rw1, rw2⟩ := of_each eo
    obtain ⟨e', he'⟩ := PyProof.Rows.sortedHeap_at (vs := acc) (out := out.toArray) hat
    have hlen : ws.length ≤ sizeLine := by rw [rw1.length, ho, ← vv.length, rv.length]; exact hl
    refine ⟨.ref h'.objs.size, upd H h'.objs.size (.lst ws), I1.laid (t' := tk) (fun b o e => ?_) (Nat.le_refl _) ⟨hlen, out, e', rw1, he'⟩, rfl, hf _ ws hn rw2⟩
    have hb : b < h'.objs.size := Heap.lt_size e
    rw [PyProof.Rows.sortedHeap_old (Nat.ne_of_lt hb) (Heap.lt_size (hk2 b o e))]
    exact hk2 b o e
theorem cr_sortedP (hc : X.calm = true) (hu : Um X) (al : Bool) : CallR X (.builtin "sorted") (rConv X .sorted al) := by
  intro pins s σ H xs us Q I r hw
  obtain ⟨L, h, p, x, z, h', rfl, hr, v, e, post⟩ := hw
  simp only [convop] at e
  obtain ⟨ys, es, e2⟩ := R.of_bind e
  split at e2
  · rename_i ok
    obtain ⟨u, rfl, ru⟩ := r.one
    have fin : ColR X s L H u ys → wpAny (model X.prog X.w) X.A (call (.builtin "sorted") [u]) (EP X pins σ Q) X.xe s := fun col => thn (sorted_col hc hu I col ok (Q := fun x H' => ∃ p vs, x = .ref p ∧ H p = none ∧ VRs (wd X) L H (sortV ys) vs ∧ H' = upd H p (.lst vs)) fun p vs hp vv => ⟨p, vs, rfl, hp, vv, rfl⟩) fun u' s' ⟨x', H', I', rx', p', vs, ex, hp, vv, eH⟩ => by
      subst ex eH
      cases rx'
      exact mk_ep I' hp e2 post hr vv
    rcases src_cases hr v es with ⟨a, vs, rfl, h1, h2⟩ | ⟨a, es', rfl, d, rfl⟩
    · cases ru; exact fin (col_seq I h1 h2)
    · cases ru; exact fin (col_dict I d)
  · cases e2
theorem cr_list (hc : X.calm = true) (al : Bool) : CallR X (.type "list") (rConv X .list al) := by
  intro pins s σ H xs us Q I r hw
  obtain ⟨L, h, p, x, z, h', rfl, hr, v, e, post⟩ := hw
  simp only [convop] at e
  obtain ⟨ys, es, e2⟩ := R.of_bind e
  rcases src_cases hr v es with ⟨a, vs, rfl, h1, h2⟩ | ⟨a, es', rfl, d, rfl⟩
  · exact mk_wp (call_list_of pins s σ H _ us _ I r ⟨_, _, rfl, seq_or h1, NewL.all⟩) e2 post hr h2
  · obtain ⟨u, rfl, ru⟩ := r.one
    cases ru
    obtain ⟨rs, ep, rd⟩ := dict_raw I d
    refine PySem.W.kdl_call (PySem.KdlSrc.rawDict rd.sys) (I.ok.hd hc) rd.raw (by have := rd.size; have := rd.few; omega) fun h' tk acc c kp ea hi => ?_
    obtain ⟨ks, k1, k2⟩ := rd.keys
    have ek := keys_items hi
    have rv : Vals ks acc.toList := by rw [ek]; exact k1
    have hz : ks.length ≤ sizeLine := by rw [k2.length, List.length_map]; exact rd.few
    exact mk_ep (I.laid (t' := tk) (o := .lst ks) kp (Nat.le_refl _) ⟨hz, acc.toList, c, rv, by rw [Array.toArray_toList]; exact ea⟩) (I.hok.fresh (Nat.le_refl _)) e2 post hr k2
theorem cr_tuple (al : Bool) : CallR X (.type "tuple") (rConv X .tuple al) := by
  intro pins s σ H xs us Q I r hw
  obtain ⟨L, h, p, x, z, h', rfl, hr, v, e, post⟩ := hw
  simp only [convop] at e
  obtain ⟨ys, es, e2⟩ := R.of_bind e
  cases e2
  obtain ⟨a, vs, rfl, h1, h2⟩ := v.seq hr es
  obtain ⟨u, rfl, ru⟩ := r.one
  cases ru
  rcases h1 with h1 | h1
  · obtain ⟨its, r', pl, hz⟩ := I.list (sqr h1)
    have hlen := r'.length
    refine call_tuple_list pl.isList (fun h' kp => ?_) (by rw [List.size_toArray]; omega)
    have I1 : Inv X pins σ H { s with heap := h' } := I.kept (t' := s.toks) kp
    exact tup_ep I1 hr post h2 r' hz s.toks
  · obtain ⟨its, r', pl, hz⟩ := I.tuple h1.sq
    unfold asSeq at es
    split at es
    · cases es
      cases v with
      | tup k1 k2 k3 => exact call_tuple_same pl (ep_ref I (post.same hr (.tup k1 k2 k3)))
    · obtain ⟨b, ws, e1, e2, e3⟩ := v.list hr es
      cases e1
      obtain ⟨o, h1, _⟩ := h1
      rcases e2 with e2 | ⟨o', e2⟩ <;> (rw [h1] at e2; cases e2)
theorem cr_sumP (hc : X.calm = true) (al : Bool) : CallR X (.builtin "sum") (rConv X .sum al) := by
  intro pins s σ H xs us Q I r hw
  obtain ⟨L, h, p, x, z, h', rfl, hr, v, e, post⟩ := hw
  simp only [convop] at e
  obtain ⟨e, rfl⟩ := R.of_eq_ok e
  obtain ⟨ys, ex, e⟩ := Option.bind_eq_some_iff.mp e
  obtain ⟨ns, en, rfl⟩ := Option.map_eq_some_iff.mp e
  obtain ⟨a, vs, rfl, h1, h2⟩ := v.list hr ex
  cases h2.ints en
  exact cr_sum hc pins s σ H _ us Q I r ⟨a, ns, rfl, sqr h1, post.int hr⟩
theorem cr_allP (hc : X.calm = true) (al : Bool) : CallR X (.builtin "all") (rConv X .all al) := by
  intro pins s σ H xs us Q I r hw
  obtain ⟨L, h, p, x, z, h', rfl, hr, v, e, post⟩ := hw
  simp only [convop] at e
  obtain ⟨e, rfl⟩ := R.of_eq_ok e
  obtain ⟨ys, ex, e⟩ := Option.bind_eq_some_iff.mp e
  obtain ⟨ns, en, rfl⟩ := Option.map_eq_some_iff.mp e
  obtain ⟨a, vs, rfl, h1, h2⟩ := v.list hr ex
  cases h2.bools en
  exact cr_all hc pins s σ H _ us Q I r ⟨a, ns, rfl, sqr h1, post.bl hr⟩
theorem cr_anyP (hc : X.calm = true) (al : Bool) : CallR X (.builtin "any") (rConv X .any al) := by
  intro pins s σ H xs us Q I r hw
  obtain ⟨L, h, p, x, z, h', rfl, hr, v, e, post⟩ := hw
  simp only [convop] at e
  obtain ⟨e, rfl⟩ := R.of_eq_ok e
  obtain ⟨ys, ex, e⟩ := Option.bind_eq_some_iff.mp e
  obtain ⟨ns, en, rfl⟩ := Option.map_eq_some_iff.mp e
  obtain ⟨a, vs, rfl, h1, h2⟩ := v.list hr ex
  cases h2.bools en
  exact cr_any hc pins s σ H _ us Q I r ⟨a, ns, rfl, sqr h1, post.bl hr⟩
theorem foldl_max : ∀ (xs : List Int) (x : Int), (xs.foldl (fun a b => if b > a then b else a) x = x ∨ xs.foldl (fun a b => if b > a then b else a) x ∈ xs) ∧ x ≤ xs.foldl (fun a b => if b > a then b else a) x ∧ ∀ y ∈ xs, y ≤ xs.foldl (fun a b => if b > a then b else a) x
  | [], x => ⟨.inl rfl, Int.le_refl _, fun y hy => by cases hy⟩
  | y :: ys, x => by
    rw [List.foldl_cons]
    obtain ⟨h1, h2, h3⟩ := foldl_max ys (if y > x then y else x)
    refine ⟨?_, ?_, fun z hz => ?_⟩
    · rcases h1 with h1 | h1
      · by_cases hy : y > x
        · rw [if_pos hy] at h1 ⊢; exact .inr (by rw [h1]; exact List.mem_cons_self)
        · rw [if_neg hy] at h1 ⊢; exact .inl h1
      · exact .inr (List.mem_cons_of_mem _ h1)
    · refine Int.le_trans ?_ h2
      split <;> omega
    · rcases List.mem_cons.mp hz with rfl | hz
      · refine Int.le_trans ?_ h2
        split <;> omega
      · exact h3 z hz
theorem foldl_min : ∀ (xs : List Int) (x : Int), (xs.foldl (fun a b => if b < a then b else a) x = x ∨ xs.foldl (fun a b => if b < a then b else a) x ∈ xs) ∧ xs.foldl (fun a b => if b < a then b else a) x ≤ x ∧ ∀ y ∈ xs, xs.foldl (fun a b => if b < a then b else a) x ≤ y
  | [], x => ⟨.inl rfl, Int.le_refl _, fun y hy => by cases hy⟩
  | y :: ys, x => by
    rw [List.foldl_cons]
    obtain ⟨h1, h2, h3⟩ := foldl_min ys (if y < x then y else x)
    refine ⟨?_, ?_, fun z hz => ?_⟩
    · rcases h1 with h1 | h1
      · by_cases hy : y < x
        · rw [if_pos hy] at h1 ⊢; exact .inr (by rw [h1]; exact List.mem_cons_self)
        · rw [if_neg hy] at h1 ⊢; exact .inl h1
      · exact .inr (List.mem_cons_of_mem _ h1)
    · refine Int.le_trans h2 ?_
      split <;> omega
    · rcases List.mem_cons.mp hz with rfl | hz
      · refine Int.le_trans h2 ?_
        split <;> omega
      · exact h3 z hz
theorem maxI_is {ns : List Int} {m k : Int} (e : maxI ns = some m) (h1 : k ∈ ns) (h2 : ∀ y ∈ ns, y ≤ k) : k = m := by
  cases ns with
  | nil => cases e
  | cons x xs =>
    simp only [maxI, Option.some.injEq] at e
    obtain ⟨g1, g2, g3⟩ := foldl_max xs x
    rw [e] at g1 g2 g3
    have hm : m ∈ x :: xs := by
      rcases g1 with g1 | g1
      · rw [g1]; exact List.mem_cons_self
      · exact List.mem_cons_of_mem _ g1
    have a1 := h2 m hm
    have a2 : k ≤ m := by
      rcases List.mem_cons.mp h1 with rfl | h1
      · exact g2
      · exact g3 k h1
    omega
theorem minI_is {ns : List Int} {m k : Int} (e : minI ns = some m) (h1 : k ∈ ns) (h2 : ∀ y ∈ ns, k ≤ y) : k = m := by
  cases ns with
  | nil => cases e
  | cons x xs =>
    simp only [minI, Option.some.injEq] at e
    obtain ⟨g1, g2, g3⟩ := foldl_min xs x
    rw [e] at g1 g2 g3
    have hm : m ∈ x :: xs := by
      rcases g1 with g1 | g1
      · rw [g1]; exact List.mem_cons_self
      · exact List.mem_cons_of_mem _ g1
    have a1 := h2 m hm
    have a2 : m ≤ k := by
      rcases List.mem_cons.mp h1 with rfl | h1
      · exact g2
      · exact g3 k h1
    omega
theorem cr_maxP (hc : X.calm = true) (al : Bool) : CallR X (.builtin "max") (rConv X .max al) := by
  intro pins s σ H xs us Q I r hw
  obtain ⟨L, h, p, x, z, h', rfl, hr, v, e, post⟩ := hw
  simp only [convop] at e
  obtain ⟨e, rfl⟩ := R.of_eq_ok e
  obtain ⟨ys, ex, e⟩ := Option.bind_eq_some_iff.mp e
  obtain ⟨m, em, rfl⟩ := Option.map_eq_some_iff.mp e
  obtain ⟨ns, en, em⟩ := Option.bind_eq_some_iff.mp em
  obtain ⟨a, vs, rfl, h1, h2⟩ := v.list hr ex
  cases h2.ints en
  refine cr_max hc pins s σ H _ us Q I r ⟨a, ns, rfl, sqr h1, ?_, fun k k1 k2 => ?_⟩
  · cases ns with
    | nil => cases em
    | cons _ _ => exact Nat.succ_pos _
  · rw [maxI_is em k1 k2]; exact post.int hr
theorem cr_minP (hc : X.calm = true) (al : Bool) : CallR X (.builtin "min") (rConv X .min al) := by
  intro pins s σ H xs us Q I r hw
  obtain ⟨L, h, p, x, z, h', rfl, hr, v, e, post⟩ := hw
  simp only [convop] at e
  obtain ⟨e, rfl⟩ := R.of_eq_ok e
  obtain ⟨ys, ex, e⟩ := Option.bind_eq_some_iff.mp e
  obtain ⟨m, em, rfl⟩ := Option.map_eq_some_iff.mp e
  obtain ⟨ns, en, em⟩ := Option.bind_eq_some_iff.mp em
  obtain ⟨a, vs, rfl, h1, h2⟩ := v.list hr ex
  cases h2.ints en
  refine cr_min hc pins s σ H _ us Q I r ⟨a, ns, rfl, sqr h1, ?_, fun k k1 k2 => ?_⟩
  · cases ns with
    | nil => cases em
    | cons _ _ => exact Nat.succ_pos _
  · rw [minI_is em k1 k2]; exact post.int hr
end
end HW
/-! HwJ: dict(pairs). -/
namespace HW
open PySem PySem.Spec PyProof.Rows L2

theorem keyVT {p : PV} (h1 : keyV p = true) (h2 : keyT p = true) : False := by
  obtain ⟨_, _, rfl, _⟩ := keyT_toN h2
  simp [keyV] at h1
theorem dPut_all {f : PV → Bool} {es : List (PV × PV)} {k v : PV} (h : (es.all fun e => f e.1) = true) (hk : f k = true) : ((dPut es k v).all fun e => f e.1) = true := by
  unfold dPut
  split
  · rw [List.all_map]
    refine List.all_eq_true.mpr fun e he => ?_
    have := List.all_eq_true.mp h e he
    simp only [Function.comp_def]
    split <;> exact this
  · rw [List.all_append, h]
    simp [hk]
theorem putAll_v : ∀ {ps es es' : List (PV × PV)}, putAll es ps = some es' → es ≠ [] → (es.all fun e => keyV e.1) = true → (ps.all fun e => keyV e.1) = true
  | [], _, _, _, _, _ => rfl
  | (k, v) :: r, es, es', h, h0, h1 => by
    rw [putAll] at h
    split at h
    · rename_i hc
      rw [Bool.and_eq_true] at hc
      have hk : keyV k = true := by
        have := hc.1
        unfold keyOk at this
        rw [Bool.or_eq_true, Bool.and_eq_true, Bool.and_eq_true] at this
        rcases this with ⟨a, _⟩ | ⟨_, b⟩
        · exact a
        · cases es with
          | nil => exact absurd rfl h0
          | cons e es =>
            rw [List.all_cons, Bool.and_eq_true] at h1 b
            exact (keyVT h1.1 b.1).elim
      rw [List.all_cons, hk, putAll_v h (dPut_ne _ _ _) (dPut_all (f := keyV) h1 hk)]
      rfl
    · cases h
theorem putAll_t : ∀ {ps es es' : List (PV × PV)}, putAll es ps = some es' → es ≠ [] → (es.all fun e => keyT e.1) = true → (ps.all fun e => keyT e.1) = true
  | [], _, _, _, _, _ => rfl
  | (k, v) :: r, es, es', h, h0, h1 => by
    rw [putAll] at h
    split at h
    · rename_i hc
      rw [Bool.and_eq_true] at hc
      have hk : keyT k = true := by
        have := hc.1
        unfold keyOk at this
        rw [Bool.or_eq_true, Bool.and_eq_true, Bool.and_eq_true] at this
        rcases this with ⟨_, b⟩ | ⟨a, _⟩
        · cases es with
          | nil => exact absurd rfl h0
          | cons e es =>
            rw [List.all_cons, Bool.and_eq_true] at h1 b
            exact (keyVT b.1 h1.1).elim
        · exact a
      rw [List.all_cons, hk, putAll_t h (dPut_ne _ _ _) (dPut_all (f := keyT) h1 hk)]
      rfl
    · cases h
theorem putAll_cases {ps es' : List (PV × PV)} (h : putAll [] ps = some es') : (ps.all fun e => keyV e.1) = true ∨ ((ps.all fun e => keyT e.1) = true ∧ ps ≠ []) := by
  cases ps with
  | nil => exact .inl rfl
  | cons e r =>
    obtain ⟨k, v⟩ := e
    rw [putAll] at h
    split at h
    · rename_i hc
      rw [Bool.and_eq_true] at hc
      have := hc.1
      unfold keyOk at this
      rw [Bool.or_eq_true, Bool.and_eq_true, Bool.and_eq_true] at this
      rcases this with ⟨a, _⟩ | ⟨a, _⟩
      · refine .inl ?_
        rw [List.all_cons, a, putAll_v h (dPut_ne _ _ _) (dPut_all (f := keyV) rfl a)]
        rfl
      · refine .inr ⟨?_, by simp⟩
        rw [List.all_cons, a, putAll_t h (dPut_ne _ _ _) (dPut_all (f := keyT) rfl a)]
        rfl
    · cases h
theorem putAll_fold : ∀ {ps es es' : List (PV × PV)}, putAll es ps = some es' → es' = ps.foldl (fun e p => dPut e p.1 p.2) es
  | [], _, _, h => by rw [putAll] at h; cases h; rfl
  | (k, v) :: r, es, es', h => by
    rw [putAll] at h
    split at h
    · rw [List.foldl_cons]; exact putAll_fold h
    · cases h
theorem foldPut_ne : ∀ (ps es : List (PV × PV)), es ≠ [] → ps.foldl (fun e p => dPut e p.1 p.2) es ≠ []
  | [], _, h => h
  | p :: r, es, _ => by rw [List.foldl_cons]; exact foldPut_ne r _ (dPut_ne _ _ _)
section
variable {Z : Wd} {L : List Addr} {H : Hp}
theorem pks_fold {ps : List (PV × PV)} {qs : List (L2.Key × V)} (r : PKs Z L H ps qs) : ∀ {es : List (PV × PV)} {kvs : List (L2.Key × V)}, PKs Z L H es kvs → PKs Z L H (ps.foldl (fun e p => dPut e p.1 p.2) es) (mergeK kvs qs) := by
  induction r with
  | nil => exact fun h => h
  | cons h1 _ ih =>
    intro es kvs h
    rw [List.foldl_cons]
    show PKs Z L H _ (mergeK (putK kvs _ _) _)
    refine ih ?_
    rw [h1.1]
    exact h.put _ h1.2
def foldT (xs qs : List (NestedKey × Addr × V)) : List (NestedKey × Addr × V) := qs.foldl (fun a q => storedT a q.1 q.2.1 q.2.2) xs
theorem pts_fold {ps : List (PV × PV)} {qs : List (NestedKey × Addr × V)} (r : PTs_ Z L H ps qs) : ∀ {es : List (PV × PV)} {xs : List (NestedKey × Addr × V)}, PTs_ Z L H es xs → PTs_ Z L H (ps.foldl (fun e p => dPut e p.1 p.2) es) (foldT xs qs) := by
  induction r with
  | nil => exact fun h => h
  | cons h1 _ ih =>
    intro es xs h
    rw [List.foldl_cons]
    unfold foldT
    rw [List.foldl_cons]
    exact ih (h.put h1.1 h1.2.1 h1.2.2.1 h1.2.2.2)
theorem xy_fold {qs : List (NestedKey × Addr × V)} {rs : List (NestedKey × Addr × Value)} (r : XY qs rs) : ∀ {xs : List (NestedKey × Addr × V)} {ys : List (NestedKey × Addr × Value)}, XY xs ys → XY (foldT xs qs) (storedAllH ys rs) := by
  induction r with
  | nil => exact fun h => h
  | cons h1 _ ih =>
    intro xs ys h
    unfold foldT storedAllH
    rw [List.foldl_cons, List.foldl_cons]
    refine ih ?_
    rw [h1.1, h1.2.1]
    exact stored_ys h _ _ h1.2.2
theorem foldT_len : ∀ (qs xs : List (NestedKey × Addr × V)), (foldT xs qs).length ≤ xs.length + qs.length
  | [], _ => Nat.le_refl _
  | q :: qs, xs => by
    unfold foldT
    rw [List.foldl_cons]
    have h1 := foldT_len qs (storedT xs q.1 q.2.1 q.2.2)
    have h2 := storedT_len xs q.1 q.2.1 q.2.2
    unfold foldT at h1
    rw [List.length_cons]
    omega
end
/-- the pairs that a list or tuple holds -/
structure PrR (Z : Wd) (L : List Addr) (H : Hp) (g : Heap) (p : PV × PV) (q : Addr × (V × Value) × (V × Value)) : Prop where
  k : VR Z L H p.1 q.2.1.1
  v : VR Z L H p.2 q.2.2.1
  rk : RelV q.2.1.1 q.2.1.2
  rv : RelV q.2.2.1 q.2.2.2
  at_ : PairAt g q.1 q.2.1.2 q.2.2.2
section
variable {X : Cx} {pins : List (Addr × Obj)} {σ : L2.St} {H : Hp} {s : Shared} {L : List Addr}
theorem pairs_at (I : Inv X pins σ H s) : ∀ {xs : List PV} {ps : List (PV × PV)} {vs : List V} {us : List Value}, xs.mapM pairOf = some ps → VRs (wd X) L H xs vs → Vals vs us →
    ∃ qs, us = qs.map (fun q => Value.ref q.1) ∧ Paired (PrR (wd X) L H s.heap) ps qs
  | [], _, _, _, e, .nil, .nil => by
    cases e
    exact ⟨[], rfl, .nil⟩
  | x :: xs, ps, _, _, e, .cons h1 h2, .cons r1 r2 => by
    rw [List.mapM_cons] at e
    obtain ⟨p, e1, e⟩ := Option.bind_eq_some_iff.mp e
    obtain ⟨ps', e2, e⟩ := Option.bind_eq_some_iff.mp e
    cases e
    obtain ⟨qs, rfl, q2⟩ := pairs_at I e2 h2 r2
    unfold pairOf at e1
    split at e1
    · cases e1
      cases h1 with
      | tup t1 t2 t3 =>
        cases r1
        obtain ⟨its, rv, ⟨o, ho, hc, n, hd⟩, _⟩ := I.tuple t1.sq
        obtain ⟨a, b, rfl, va, vb⟩ := vrs2 t3
        obtain ⟨u, w, rfl, ra, rb⟩ := rv.two
        exact ⟨(_, (a, u), (b, w)) :: qs, rfl, .cons ⟨va, vb, ra, rb, .inl ⟨o, ho, hc, n, hd⟩⟩ q2⟩
    · cases e1
theorem keysK : ∀ {ps : List (PV × PV)} {qs : List (Addr × (V × Value) × (V × Value))}, (ps.all fun e => keyV e.1) = true → Paired (PrR (wd X) L H s.heap) ps qs →
    ∃ (kvs : List (L2.Key × V)) (rs : List (L2.Key × Value)), PKs (wd X) L H ps kvs ∧ KV kvs rs ∧ rs.length = qs.length ∧ ∀ (i : Nat) (key v : Value), (qs.map fun q => (q.2.1.2, q.2.2.2))[i]? = some (key, v) → ∃ k, rs[i]? = some (k, v) ∧ (mixKind X.prog X.w).is k key = true
  | _, _, _, .nil => ⟨[], [], .nil, .nil, rfl, fun i key v e => by simp at e⟩
  | p :: ps, q :: qs, h, .cons h1 h2 => by
    rw [List.all_cons, Bool.and_eq_true] at h
    obtain ⟨kvs, rs, g1, g2, g3, g4⟩ := keysK h.2 h2
    obtain ⟨k, ek⟩ := keyV_kP h.1
    have hk := h1.k
    have hr := h1.rk
    rw [ek] at hk
    have e1 : q.2.1.1 = kV k := by
      generalize q.2.1.1 = y at hk
      cases k <;> (cases hk; rfl)
    rw [e1] at hr
    refine ⟨(k, q.2.2.1) :: kvs, (k, q.2.2.2) :: rs, .cons ⟨ek, h1.v⟩ g1, .cons ⟨rfl, h1.rv⟩ g2, by simp [g3], fun i key v e => ?_⟩
    cases i with
    | zero =>
      simp only [List.map_cons, List.getElem?_cons_zero, Option.some.injEq, Prod.mk.injEq] at e
      obtain ⟨rfl, rfl⟩ := e
      exact ⟨k, rfl, kV_is hr⟩
    | succ i =>
      simp only [List.map_cons, List.getElem?_cons_succ] at e ⊢
      exact g4 i key v e
theorem keysT (I : Inv X pins σ H s) : ∀ {ps : List (PV × PV)} {qs : List (Addr × (V × Value) × (V × Value))}, (ps.all fun e => keyT e.1) = true → Paired (PrR (wd X) L H s.heap) ps qs →
    ∃ (xs : List (NestedKey × Addr × V)) (ys : List (NestedKey × Addr × Value)), PTs_ (wd X) L H ps xs ∧ XY xs ys ∧ ys.length = qs.length ∧ ∀ (i : Nat) (key v : Value), (qs.map fun q => (q.2.1.2, q.2.2.2))[i]? = some (key, v) → ∃ (k : NestedKey) (b : Addr), ys[i]? = some (k, b, v) ∧ key = Value.ref b
  | _, _, _, .nil => ⟨[], [], .nil, .nil, rfl, fun i key v e => by simp at e⟩
  | p :: ps, q :: qs, h, .cons h1 h2 => by
    rw [List.all_cons, Bool.and_eq_true] at h
    obtain ⟨kvs, rs, g1, g2, g3, g4⟩ := keysT I h.2 h2
    obtain ⟨zs, k, ek, hk, hd⟩ := keyT_toN h.1
    have hv := h1.k
    have hr := h1.rk
    rw [ek] at hv
    obtain ⟨b, e1⟩ : ∃ b, q.2.1.1 = V.ref b := by
      generalize q.2.1.1 = y at hv
      cases hv
      exact ⟨_, rfl⟩
    rw [e1] at hr hv
    have e2 : q.2.1.2 = .ref b := hr
    refine ⟨(k, b, q.2.2.1) :: kvs, (k, b, q.2.2.2) :: rs, .cons ⟨h.1, hk, by rw [ek]; exact hv, h1.v⟩ g1, .cons ⟨rfl, rfl, h1.rv⟩ g2, by simp [g3], fun i key v e => ?_⟩
    cases i with
    | zero =>
      simp only [List.map_cons, List.getElem?_cons_zero, Option.some.injEq, Prod.mk.injEq] at e
      obtain ⟨rfl, rfl⟩ := e
      exact ⟨k, b, rfl, e2⟩
    | succ i =>
      simp only [List.map_cons, List.getElem?_cons_succ] at e ⊢
      exact g4 i key v e
/-- a new dict, live or fixed -/
theorem ep_dict {X : Cx} {pins : List (Addr × Obj)} {σ : L2.St} {s : Shared} {H : Hp} {L : List Addr} {h h' : PHeap} {al : Bool} {es : List (PV × PV)} {r : PV} {Q : VK} {h2 : Heap} {tk : Nat} {o : HO} (I : Inv X pins σ H s) (e : mkDict al es h = .ok r h') (post : Post (wd X) L H r h' Q) (hr : HR (wd X) L h H)
    (k2 : ∀ b o, s.heap.get? b = some o → h2.get? b = some o) (hob : ∃ ob, h2.get? s.heap.objs.size = some ob) (new : ∀ H', ObjOk X.prog X.w H' h2 s.heap.objs.size o)
    (d : ∀ L' o', Ext L H L' (upd H s.heap.objs.size o') → ∀ W : HO → Prop, W o → DP (wd X) L' (upd H s.heap.objs.size o') s.heap.objs.size W es) : EP X pins σ Q (.ref s.heap.objs.size) { s with heap := h2, toks := tk } := by
  have hn : H s.heap.objs.size = none := I.hok.fresh (Nat.le_refl _)
  unfold mkDict at e
  cases al with
  | false =>
    simp only [Bool.false_eq_true, if_false, R.ok.injEq] at e
    obtain ⟨rfl, rfl⟩ := e
    obtain ⟨ob, hob⟩ := hob
    refine ⟨.ref s.heap.objs.size, _, I.laid (t' := tk) k2 (Nat.le_refl _) (o := .frz ob o) ⟨hob, new _⟩, rfl, ?_⟩
    refine post _ _ _ (ext_new hn) (hr.new hn) ?_
    cases d L (.frz ob o) (ext_new hn) (FzAt (upd H s.heap.objs.size (.frz ob o)) s.heap.objs.size) ⟨ob, upd_same⟩ with
    | k h1 h2 h3 => exact .dctK h1 (hr.free hn) h2 h3
    | t h1 h0 h2 h3 h4 h5 => exact .dctT h1 (hr.free hn) h0 h2 h3 h4 h5
  | true =>
    simp only [if_true, R.ok.injEq] at e
    obtain ⟨rfl, rfl⟩ := e
    refine ⟨.ref s.heap.objs.size, _, I.laid (t' := tk) k2 (Nat.le_refl _) (o := o) (new _), rfl, ?_⟩
    refine post _ _ _ (ext_live hn) (hr.live hn (d _ _ (ext_live hn) _ upd_same)) (.ref ?_)
    rw [← hr.len]
    simp
theorem pairItems {g : Heap} {ps : List (PV × PV)} {qs : List (Addr × (V × Value) × (V × Value))} (r : Paired (PrR (wd X) L H g) ps qs) : PairItems g (qs.map (fun q => Value.ref q.1)).toArray (fun j => (qs[j]?.map (·.1)).getD 0) (qs.map fun q => (q.2.1.2, q.2.2.2)) := by
  refine ⟨by simp, fun j k v e => ?_⟩
  rw [List.getElem?_map] at e
  obtain ⟨q, hq, e2⟩ := Option.map_eq_some_iff.mp e
  cases e2
  refine ⟨by simp [hq], ?_⟩
  dsimp only
  rw [hq]
  have : ∀ {ps : List (PV × PV)} {qs : List (Addr × (V × Value) × (V × Value))} {j : Nat}, Paired (PrR (wd X) L H g) ps qs → qs[j]? = some q → PairAt g q.1 q.2.1.2 q.2.2.2 := by
    intro ps qs j r
    induction r generalizing j with
    | nil => intro e; simp at e
    | cons h1 _ ih =>
      intro e
      cases j with
      | zero => simp only [List.getElem?_cons_zero, Option.some.injEq] at e; subst e; exact h1.at_
      | succ j => exact ih (by simpa using e)
  exact this r hq
theorem dict_of (hc : X.calm = true) (hu : Um X) (I : Inv X pins σ H s) {T : String} {a : Addr} {fp : List Addr} {OK : Heap → Prop} {ps es : List (PV × PV)} {qs : List (Addr × (V × Value) × (V × Value))} {Q : VK} {h h' : PHeap} {al : Bool} {z : PV} (hr : HR (wd X) L h H)
    (P : PairArg X.prog X.w T a fp [] (qs.map fun q => (q.2.1.2, q.2.2.2)).length (PairRel (qs.map fun q => (q.2.1.2, q.2.2.2))) OK) (ok : OK s.heap) (r : Paired (PrR (wd X) L H s.heap) ps qs) (hl : qs.length ≤ sizeLine)
    (e : putAll [] ps = some es) (e2 : mkDict al es h = .ok z h') (post : Post (wd X) L H z h' Q) : wpAny (model X.prog X.w) X.A (call (.type "dict") [.ref a]) (EP X pins σ Q) X.xe s := by
  have hh := I.ok.hd hc
  have ef := putAll_fold e
  have hn : H s.heap.objs.size = none := I.hok.fresh (Nat.le_refl _)
  have hs : (s.heap.objs.size == sysModules) = false := by
    rw [beq_eq_false_iff_ne]
    exact Nat.ne_of_gt I.big
  rcases putAll_cases e with hk | ⟨hk, h0⟩
  · obtain ⟨kvs, rs, g1, g2, g3, g4⟩ := keysK hk r
    have e3 : kvs.length = rs.length := Paired.length g2
    refine call_dict_pairs (knd := mixKind X.prog X.w) (kvs := rs) P hh ok ⟨by rw [g3, List.length_map], g4⟩ (by rw [List.length_map]; exact hl) fun h2 tk dd kk => ?_
    have k2 : ∀ b o, s.heap.get? b = some o → h2.get? b = some o := fun b o x => kk b o (by simp) x
    have hz : (mergeK [] kvs).length ≤ sizeLine := by
      have := length_mergeK kvs []
      simp only [List.length_nil, Nat.zero_add] at this
      omega
    refine ep_dict I e2 post hr k2 (let ⟨q, _, _, hq, _⟩ := id dd; ⟨q, hq⟩) (fun _ => dk_new hz hs (KV.merge g2 (.nil : KV ([] : List (L2.Key × V)) [])) dd) fun L' o' ex W hW => ?_
    rw [ef]
    exact DP.ofK hW (Paired.mapP (pks_fold g1 (.nil)) fun a b ⟨q1, q2⟩ => ⟨q1, q2.mono ex⟩)
  · obtain ⟨xs, ys, g1, g2, g3, g4⟩ := keysT I hk r
    have e3 : xs.length = ys.length := Paired.length g2
    have room : (nestedKind X.prog X.w).room X.A.in1.in1 := by
      show X.A.in1.in1.units + 8 < cLine
      rw [Around.in1_units, Around.in1_units]
      have : X.A.units + 100 < cLine := hu
      omega
    have keys := ys_keys I g1 g2
    refine call_dict_pairsH (knd := nestedKind X.prog X.w) (ps := ys) P hh room ok ⟨by rw [g3, List.length_map], g4⟩ (fun g hg x hx => ?_) (by rw [List.length_map]; exact hl) fun h2 tk dd kk => ?_
    · refine nestedKind_stays.stays (fun b o vs n ho hd => hg b o (fun z => ?_) (by simp) ho) (keys x hx)
      rw [z] at ho
      exact absurd (Heap.lt_size ho) (Nat.lt_irrefl _)
    · have k2 : ∀ b o, s.heap.get? b = some o → h2.get? b = some o := fun b o x => kk b o (by simp) x
      have hz : (foldT [] xs).length ≤ sizeLine := by
        have := foldT_len xs []
        simp only [List.length_nil, Nat.zero_add] at this
        omega
      refine ep_dict I e2 post hr k2 (let ⟨q, _, _, hq, _⟩ := id dd; ⟨q, hq⟩) (fun _ => dictB_ok (X := X) (xy_fold g2 .nil) hz hs dd) fun L' o' ex W hW => ?_
      have hne : es ≠ [] := by
        rw [ef]
        cases ps with
        | nil => exact absurd rfl h0
        | cons p ps => rw [List.foldl_cons]; exact foldPut_ne _ _ (dPut_ne _ _ _)
      refine DP.ofT hW hne ?_
      rw [ef]
      exact Paired.mapP (pts_fold g1 .nil) fun a b ⟨q1, q2, q3, q4⟩ => ⟨q1, q2, q3.mono ex, q4.mono ex⟩
theorem cr_dict (hc : X.calm = true) (hu : Um X) (al : Bool) : CallR X (.type "dict") (rConv X .dict al) := by
  intro pins s σ H xs us Q I r hw
  obtain ⟨L, h, p, x, z, h', rfl, hr, v, e, post⟩ := hw
  simp only [convop] at e
  obtain ⟨es, e1, e2⟩ := R.of_bind e
  obtain ⟨ys, ey, e1⟩ := Option.bind_eq_some_iff.mp e1
  obtain ⟨ps, ep, e1⟩ := Option.bind_eq_some_iff.mp e1
  obtain ⟨a, vs, rfl, h1, h2⟩ := v.seq hr ey
  obtain ⟨u, rfl, ru⟩ := r.one
  cases ru
  rcases h1 with h1 | ⟨o, h1, hd⟩
  · obtain ⟨its, rv, ⟨o, n, ho, hc', hd, hdat⟩, hz⟩ := I.list (sqr h1)
    obtain ⟨qs, rfl, hq⟩ := pairs_at I ep h2 rv
    have hl := rv.length
    rw [List.length_map] at hl
    exact dict_of hc hu I hr (PairArg.list a _ _ _) ⟨⟨o, n, ho, hc', hd, hdat⟩, pairItems hq⟩ hq (by omega) e1 e2 post
  · obtain ⟨ho, hz, its, rv, ⟨o', ho', hc', n, hdat⟩⟩ := I.hok a _ h1
    rw [ho] at ho'; cases ho'
    obtain ⟨qs, rfl, hq⟩ := pairs_at I ep h2 rv
    have hl := rv.length
    rw [List.length_map] at hl
    exact dict_of hc hu I hr (PairArg.tuple a _ _ _) ⟨⟨o, n, ho, hc', hd, hdat⟩, pairItems hq⟩ hq (by omega) e1 e2 post
end
end HW
/-! HwK: sets, made and sorted at once. -/
namespace HW
open PySem PySem.Spec PyProof.Rows L2

/-- a set that was just made -/
abbrev setO (w : World) : Obj := { cls := .type "set", dict := none, data := .set #[] 0 (.fresh 0 0 (!w.params.followText "set-order")) }
section
variable {P : Program} {w : World} {A : Around} {E : Value → Shared → Prop} {s : Shared}
/-- what the filling of a new set must come to: from the state s1, the set at S empty, the items walked at I -/
def SetLoop (P : Program) (w : World) (A : Around) (s : Shared) (l : Addr) (items : Array Value) (Good : Heap → Prop) : Prop :=
  ∀ (I : Addr) (St : Nat → Heap → Prop) (s1 : Shared) (R : Result → Shared → Prop), I = s.heap.objs.size + 1 → Walks P w A.in1.in1.in1 I [I, l] [I] items.size (fun i v => items[i]? = some v) St → St 0 s1.heap →
    (∀ b o, s.heap.get? b = some o → s1.heap.get? b = some o) → s1.heap.get? s.heap.objs.size = some (setO w) → (∀ s', Moved (s.heap.objs.size :: [I]) (fun a b => b = a) s1 s' → Good s'.heap → R (.ok (.ret .none)) s') →
    codeAny (model P w) A.in1.in1 (.builtin "set.update.loop" ⟨[.ref s.heap.objs.size, .ref I], []⟩) R s1
set_option maxHeartbeats 3200000 in
theorem set_made {l : Addr} {items : Array Value} {Good : Heap → Prop} {Q : Value → Shared → Prop} (hh : A.handled = none) (src : s.heap.IsList l items ∨ s.heap.IsTuple l items) (loop : SetLoop P w A s l items Good)
    (h : ∀ (h' : Heap) (tk : Nat), Good h' → (∀ b o, s.heap.get? b = some o → h'.get? b = some o) → Q (.ref s.heap.objs.size) { s with heap := h', toks := tk }) :
    wpAny (model P w) A (call (.type "set") [.ref l]) Q E s := by
  obtain ⟨c, tl, hmro⟩ := PySem.F.called_set.mro
  have hmade := PySem.F.called_set.made
  have hsub := PySem.F.called_set.sub
  refine wpAny_call (codeAny_of_tree ?_)
  show wpAny _ _ (callAny (.type "set") _) _ _ _
  refine wpAny_pure ⟨Code.quiet_builtin _ (by decide +kernel), codeAny_builtin PySem.F.entry_type_call ?_⟩
  rw [Around.under_plain (weight_type_call_type "set" [.ref l] []) rfl]
  have h1 := PySem.F.called_set.notType
  have h2 := PySem.F.called_set.canCreate
  have hct := PySem.F.typeCall_set_1 (.ref l)
  repeat (any_goals (first | assumption | wp_step))
  refine codeAny_mono (code_set_led1 (.ref l) (E := E) (Q₁ := fun obj s₁ => obj = .ref s.heap.objs.size ∧ s₁ = { s with heap := s.heap.push (setO w) }) ⟨rfl, rfl⟩) fun r s₁ hr => ?_
  cases r with
  | error e => exact hr
  | ok fl =>
    cases fl with
    | ret obj =>
      obtain ⟨rfl, rfl⟩ := hr
      have new : (s.heap.push (setO w)).get? s.heap.objs.size = some (setO w) := Heap.get?_push_size _ rfl
      have hT : Shared.TypeIs { s with heap := s.heap.push (setO w) } (.ref s.heap.objs.size) "set" := ⟨_, new, rfl⟩
      have hli := PySem.F.called_set.init.lookup
      have hbi := PySem.F.called_set.init.bind (.ref s.heap.objs.size)
      repeat (any_goals (first | assumption | wp_step))
      refine codeAny_mono (codeAny_call_builtin (R := wants (fun r s₂ => r = .none ∧ ∃ h' tk, s₂ = { s with heap := h', toks := tk } ∧ Good h' ∧ (∀ b o, s.heap.get? b = some o → h'.get? b = some o)) E)
        PySem.F.called_set.init.plain PySem.F.entry_set_init (check_set_init_1 hT ?_)) fun r₂ s₂ hr₂ => ?_
      · rcases src with src | src
        · obtain ⟨ol, hol, hcl, nl, hdl⟩ := src
          obtain ⟨ocls, odict, odata, oslots⟩ := ol
          simp only at hcl hdl
          subst hcl
          subst hdl
          have hol' : (s.heap.push (setO w)).get? l = some { cls := .type "list", dict := odict, data := .seq items nl, slots := oslots } := Heap.get?_push_of_some _ hol
          have hsls := PySem.F.sub_list_set
          have hslf := PySem.F.sub_list_frozenset
          have hne : (Value.type "list" == Value.type "dict") = false := by decide
          have hl1 : (s.heap.push (setO w)).IsList l items := ⟨_, hol', rfl, nl, rfl⟩
          unfold Builtin.«set.__init__» noKeywords Builtin.Frozenset.updateFrom
          generalize hPI : pyIter = PI
          wp_walk
          subst hPI
          refine wpAny_pyIter_list hl1 ?_
          refine wpAny_bind (wpAny_runValue ?_)
          have hlS : l < s.heap.objs.size := Heap.lt_size hol
          have hh3 : A.in1.in1.in1.handled = none := by simp [hh]
          have hz1 : (s.heap.push (setO w)).objs.size = s.heap.objs.size + 1 := Heap.size_push ..
          have hneI : l ≠ (s.heap.push (setO w)).objs.size := by
            rw [hz1]
            exact Nat.ne_of_lt (Nat.lt_succ_of_lt hlS)
          refine loop _ _ _ _ hz1 (Walks.list hh3 _ l hneI items) ⟨⟨_, Heap.get?_push_size _ rfl, rfl, rfl⟩, hl1.push _⟩ (fun b o e => Heap.get?_push_of_some _ (Heap.get?_push_of_some _ e)) (Heap.get?_push_of_some _ new) fun s' hm hg => ?_
          obtain ⟨h', g2, d', tk', os'⟩ := s'
          have eg : g2 = s.gens := hm.gens
          have ed : d' = s.drawn := hm.drawn
          have eo : os' = s.os := hm.os
          subst eg
          subst ed
          subst eo
          show wpAny _ _ _ _ _ _
          refine wpAny_pure ?_
          show wpAny _ _ (ret Value.none) _ _ _
          refine wpAny_pure ⟨rfl, h', tk', rfl, hg, fun b o e => ?_⟩
          have hb0 : b < s.heap.objs.size := Heap.lt_size e
          refine hm.heap b o ?_ (Heap.get?_push_of_some _ (Heap.get?_push_of_some _ e))
          simp only [List.mem_cons, List.mem_singleton, List.not_mem_nil, or_false, not_or]
          exact ⟨Nat.ne_of_lt hb0, by rw [hz1]; exact Nat.ne_of_lt (Nat.lt_succ_of_lt hb0)⟩
        · obtain ⟨ol, hol, hcl, nl, hdl⟩ := src
          obtain ⟨ocls, odict, odata, oslots⟩ := ol
          simp only at hcl hdl
          subst hcl
          subst hdl
          have hol' : (s.heap.push (setO w)).get? l = some { cls := .type "tuple", dict := odict, data := .seq items nl, slots := oslots } := Heap.get?_push_of_some _ hol
          have hsls := PySem.F.sub_tuple_set
          have hslf := PySem.F.sub_tuple_frozenset
          have hne : (Value.type "tuple" == Value.type "dict") = false := by decide
          have hl1 : (s.heap.push (setO w)).IsTuple l items := ⟨_, hol', rfl, nl, rfl⟩
          unfold Builtin.«set.__init__» noKeywords Builtin.Frozenset.updateFrom
          generalize hPI : pyIter = PI
          wp_walk
          subst hPI
          refine wpAny_pyIter_tuple hl1 ?_
          refine wpAny_bind (wpAny_runValue ?_)
          have hlS : l < s.heap.objs.size := Heap.lt_size hol
          have hh3 : A.in1.in1.in1.handled = none := by simp [hh]
          have hz1 : (s.heap.push (setO w)).objs.size = s.heap.objs.size + 1 := Heap.size_push ..
          have hneI : l ≠ (s.heap.push (setO w)).objs.size := by
            rw [hz1]
            exact Nat.ne_of_lt (Nat.lt_succ_of_lt hlS)
          refine loop _ _ _ _ hz1 (Walks.tuple hh3 _ l hneI items) ⟨⟨_, Heap.get?_push_size _ rfl, rfl, rfl⟩, hl1.push _⟩ (fun b o e => Heap.get?_push_of_some _ (Heap.get?_push_of_some _ e)) (Heap.get?_push_of_some _ new) fun s' hm hg => ?_
          obtain ⟨h', g2, d', tk', os'⟩ := s'
          have eg : g2 = s.gens := hm.gens
          have ed : d' = s.drawn := hm.drawn
          have eo : os' = s.os := hm.os
          subst eg
          subst ed
          subst eo
          show wpAny _ _ _ _ _ _
          refine wpAny_pure ?_
          show wpAny _ _ (ret Value.none) _ _ _
          refine wpAny_pure ⟨rfl, h', tk', rfl, hg, fun b o e => ?_⟩
          have hb0 : b < s.heap.objs.size := Heap.lt_size e
          refine hm.heap b o ?_ (Heap.get?_push_of_some _ (Heap.get?_push_of_some _ e))
          simp only [List.mem_cons, List.mem_singleton, List.not_mem_nil, or_false, not_or]
          exact ⟨Nat.ne_of_lt hb0, by rw [hz1]; exact Nat.ne_of_lt (Nat.lt_succ_of_lt hb0)⟩
      · cases r₂ with
        | error e => exact hr₂
        | ok fl₂ =>
          cases fl₂ with
          | ret r =>
            obtain ⟨rfl, h', tk, rfl, hg, hk'⟩ := hr₂
            repeat (any_goals (first | assumption | wp_step))
            exact h _ _ hg hk'
          | _ => exact hr₂.elim
    | _ => exact hr.elim
end
end HW
/-! HwL: readings by the evaluator; plain expressions. -/
namespace HW
open PySem PySem.Spec PyProof.Rows L2

def rE (X : Cx) (f : Env → PHeap → R PV) : TE := fun σ H Q => ∃ L h env v h', HR (wd X) L h H ∧ ER (wd X) L H env σ ∧ f env h = .ok v h' ∧ Post (wd X) L H v h' Q
def rT (X : Cx) (f : Env → PHeap → R Bool) : TT := fun σ H Q => ∃ L h env b h', HR (wd X) L h H ∧ ER (wd X) L H env σ ∧ f env h = .ok b h' ∧ PostH (wd X) L H h' (Q b)
def rA (X : Cx) (f : Env → PHeap → R (List PV)) : TA := fun σ H Q => ∃ L h env vs h', HR (wd X) L h H ∧ ER (wd X) L H env σ ∧ f env h = .ok vs h' ∧ ∀ xs L' H', Ext L H L' H' → HR (wd X) L' h' H' → VRs (wd X) L' H' vs xs → Q xs H'
def rO (X : Cx) (f : Env → PHeap → R (Option Int)) : TO := fun σ H Q => ∃ L h env o h', HR (wd X) L h H ∧ ER (wd X) L H env σ ∧ f env h = .ok o h' ∧ PostH (wd X) L H h' (Q o)
theorem imE {X : Cx} {e : Expr} {t t' : TE} (h : PE X e t) (i : ∀ σ H Q, t' σ H Q → t σ H Q) : PE X e t' := ⟨fun pins s σ H Q I q => h.run pins s σ H Q I (i σ H Q q)⟩
theorem imT {X : Cx} {e : Expr} {t t' : TT} (h : PT X e t) (i : ∀ σ H Q, t' σ H Q → t σ H Q) : PT X e t' := ⟨fun pins s σ H Q I q => h.run pins s σ H Q I (i σ H Q q)⟩
theorem imW {X : Cx} {e : Expr} {t t' : TT} (h : PW X e t) (i : ∀ σ H Q, t' σ H Q → t σ H Q) : PW X e t' := ⟨fun wh pins s σ H Q I q => h.run wh pins s σ H Q I (i σ H Q q)⟩
theorem imA {X : Cx} {e : List Expr} {t t' : TA} (h : PA X e t) (i : ∀ σ H Q, t' σ H Q → t σ H Q) : PA X e t' := ⟨fun pos pins s σ H Q I q => h.run pos pins s σ H Q I (i σ H Q q)⟩
theorem imO {X : Cx} {e : Option Expr} {t t' : TO} (h : PO X e t) (i : ∀ σ H Q, t' σ H Q → t σ H Q) : PO X e t' := ⟨fun pins s σ H Q I q => h.run pins s σ H Q I (i σ H Q q)⟩
section
variable {Z : Wd} {L L' : List Addr} {H H' : Hp} {h h' : PHeap}
theorem Post.aft {v : PV} {Q : VK} (p : Post Z L H v h' Q) (r : HR Z L h H) (e : Ext L H L' H') : Post Z L' H' v h' Q := fun x L2 H2 e2 r2 v2 => p x L2 H2 (e.tr r e2) r2 v2
theorem PostH.aft {Q : Hp → Prop} (p : PostH Z L H h' Q) (r : HR Z L h H) (e : Ext L H L' H') : PostH Z L' H' h' Q := fun L2 H2 e2 r2 => p L2 H2 (e.tr r e2) r2
end
section
variable {X : Cx} {σ : L2.St} {H : Hp} {Q : VK} {f g k : Env → PHeap → R PV}
/-- one, two, three values in a row -/
theorem rE1 {F : PV → PHeap → R PV} {k : V → Hp → Prop} (q : rE X (fun env h => (f env h).bind F) σ H Q)
    (hk : ∀ x L H h p r h', HR (wd X) L h H → VR (wd X) L H p x → F p h = .ok r h' → Post (wd X) L H r h' Q → k x H) : rE X f σ H k := by
  obtain ⟨L, h, env, v, h', hr, er, e, post⟩ := q
  obtain ⟨p, h1, e1, e2⟩ := R.bind_eq_ok e
  exact ⟨L, h, env, p, h1, hr, er, e1, fun x L1 H1 x1 hr1 v1 => hk x L1 H1 h1 p v h' hr1 v1 e2 (post.aft hr x1)⟩
theorem rE2 {F : PV → PV → PHeap → R PV} {k : V → V → Hp → Prop} (q : rE X (fun env h => (f env h).bind fun x h => (g env h).bind fun y h => F x y h) σ H Q)
    (hk : ∀ x y L H h p p' r h', HR (wd X) L h H → VR (wd X) L H p x → VR (wd X) L H p' y → F p p' h = .ok r h' → Post (wd X) L H r h' Q → k x y H) : rE X f σ H fun x H1 => rE X g σ H1 fun y H2 => k x y H2 := by
  obtain ⟨L, h, env, v, h', hr, er, e, post⟩ := q
  obtain ⟨p, h1, e1, e2⟩ := R.bind_eq_ok e
  obtain ⟨p', h2, e3, e4⟩ := R.bind_eq_ok e2
  exact ⟨L, h, env, p, h1, hr, er, e1, fun x L1 H1 x1 hr1 v1 => ⟨L1, h1, env, p', h2, hr1, er.mono x1, e3, fun y L2 H2 x2 hr2 v2 => hk x y L2 H2 h2 p p' v h' hr2 (v1.mono x2) v2 e4 (post.aft hr (x1.tr hr x2))⟩⟩
end
section
variable {X : Cx} {a b c : Expr} {f g k : Env → PHeap → R PV} {fs : Env → PHeap → R (List PV)} {pos : Pos}
theorem se_var {i : Nat} {x : Str} (hN : X.N[i]? = some x) (hv : Vis X.env.scope x) (hd : (x == ("__debug__" : Str)) = false) (hcd : (x == ("__classdict__" : Str)) = false) : PE X (.Name x pos) (rE X fun env h => match env[i]? with
    | some (some v) => .ok v h
    | _ => .bad) := imE (pe_var hN hv hd hcd) fun σ H Q ⟨L, h, env, v, h', hr, er, e, post⟩ => by
  dsimp only at e
  split at e
  · rename_i u hu
    cases e
    obtain ⟨x, h1, h2⟩ := er.at_ _ _ hu
    exact ⟨x, h1, post.same hr h2⟩
  · cases e
/-- a constant's value -/
def cOk : PV → Option V
  | .non => some .non
  | .bl b => some (.bl b)
  | .int i => some (.int i)
  | .str s => some (.str s)
  | _ => none
theorem cOk_vr {Z : Wd} {L : List Addr} {H : Hp} {p : PV} {v : V} (h : cOk p = some v) : VR Z L H p v := by
  cases p <;> simp [cOk] at h <;> subst h <;> constructor
theorem se_c {p : PV} {v : V} (hc : cOk p = some v) (h : PE X a (tC v)) : PE X a (rE X fun _ h => .ok p h) := imE h fun σ H Q ⟨L, h, env, v', h', hr, er, e, post⟩ => by
  cases e
  exact post.same hr (cOk_vr hc)
theorem se_bin {op : BOp} (ha : PE X a (rE X f)) (hb : PE X b (rE X g)) : PE X (.BinOp a (pyB op) b pos) (rE X fun env h => (f env h).bind fun x h => (g env h).bind fun y h => R.of (binop op x y h) h) :=
  imE (pe_op (op_bin op) ha hb) fun σ H Q q => rE2 q fun x y L H h p p' r h' hr v1 v2 e post => by
    obtain ⟨e, rfl⟩ := R.of_eq_ok e
    exact ⟨L, _, p, p', r, hr, v1, v2, e, post⟩
theorem se_neg (ha : PE X a (rE X f)) : PE X (.UnaryOp .USub a pos) (rE X fun env h => (f env h).bind fun x h => R.of ((intOf x).map fun i => .int (-i)) h) :=
  imE (pe_un (op := .USub) (r := rU fun i => .int (-i)) (fun pins s σ H x v Q I rx h => by
    obtain ⟨i, rfl, q⟩ := h
    obtain ⟨t, rfl⟩ := rx
    exact neg_int ⟨.int (-i), H, I.tok _, ⟨_, rfl⟩, q⟩) ha) fun σ H Q q => rE1 q fun x L H h p r h' hr v1 e post => by
    obtain ⟨e, rfl⟩ := R.of_eq_ok e
    cases v1 with
    | int i =>
      cases e
      exact ⟨i, rfl, post.int hr⟩
    | _ => simp [intOf] at e
theorem se_cmp (hu : Um X) {op : COp} (ha : PE X a (rE X f)) (hb : PE X b (rE X g)) (hm : behindInMarks (pyC op) b = false) : PE X (.Compare a [pyC op] [b] pos) (rE X fun env h => (f env h).bind fun x h => (g env h).bind fun y h => R.of ((cmpop op x y h).map .bl) h) := by
  refine ⟨fun pins s σ H Q I q => wpAny_Compare1 ?_ hm⟩
  refine binT (R := fun x y H => rCmp X op x y H Q) ha hb I (rE2 q fun x y L H h p p' r h' hr v1 v2 e post => ?_) fun v u s2 x y H2 I2 rx ry q => op_cmp hu op pins s2 σ H2 x y v u Q I2 rx ry q
  obtain ⟨e, rfl⟩ := R.of_eq_ok e
  obtain ⟨t, e9, rfl⟩ := Option.map_eq_some_iff.mp e
  exact ⟨L, _, p, p', t, hr, v1, v2, e9, post⟩
theorem se_ix (ha : PE X a (rE X f)) (hb : PE X b (rE X g)) (hs : PlainIx b) (hu : Um X) : PE X (.Subscript a b pos) (rE X fun env h => (f env h).bind fun x h => (g env h).bind fun y h => R.of (itemOf h x y) h) :=
  imE (pe_ix (ix_item hu) ha hb hs) fun σ H Q q => rE2 q fun x y L H h p p' r h' hr v1 v2 e post => by
    obtain ⟨e, rfl⟩ := R.of_eq_ok e
    exact ⟨L, _, p, p', r, hr, v1, v2, e, post⟩
/-- the truth of a value -/
def dTr (f : Env → PHeap → R PV) (env : Env) (h : PHeap) : R Bool := (f env h).bind fun v h => R.of (tru h v) h
theorem st_plain (hu : Um X) (ha : PE X a (rE X f)) (he : ∀ whole, isTrue a X.env whole = (do let v ← whole; standAt a.pos; holding [v] (truthy v))) : PT X a (rT X (dTr f)) := by
  refine ⟨fun pins s σ H Q I q => isTrue_plain ?_ (he _)⟩
  obtain ⟨L, h, env, b, h', hr, er, e, post⟩ := q
  obtain ⟨p, h1, e1, e2⟩ := R.bind_eq_ok e
  obtain ⟨e3, rfl⟩ := R.of_eq_ok e2
  refine thn (ha.run pins s σ H (fun x H1 => ∃ L1, HR (wd X) L1 h' H1 ∧ VR (wd X) L1 H1 p x ∧ PostH (wd X) L1 H1 h' (Q b)) I ⟨L, h, env, p, h', hr, er, e1, fun x L1 H1 x1 hr1 v1 => ⟨L1, hr1, v1, post.aft hr x1⟩⟩) fun v s1 ⟨x, H1, I1, r1, L1, hr1, v1, q1⟩ => ?_
  exact tru_okP hu pins s1 σ H1 x v Q I1 r1 ⟨L1, h', p, b, hr1, v1, e3, q1 _ _ Ext.refl hr1⟩
theorem tru_bl (h : PHeap) (b : Bool) : tru h (.bl b) = some b := rfl
/-- a bool's truth -/
theorem rT_val {t : TE} (i : ∀ σ H Q, rE X f σ H Q → t σ H Q) (hb : ∀ env h v h', f env h = .ok v h' → ∃ c, v = .bl c) : ∀ σ H Q, rT X (dTr f) σ H Q → tB t σ H Q := fun σ H Q ⟨L, h, env, b, h', hr, er, e, post⟩ => by
  obtain ⟨p, h1, e1, e2⟩ := R.bind_eq_ok e
  obtain ⟨e3, rfl⟩ := R.of_eq_ok e2
  obtain ⟨c, rfl⟩ := hb _ _ _ _ e1
  refine i σ H _ ⟨L, h, env, _, _, hr, er, e1, fun x L1 H1 x1 hr1 v1 => ?_⟩
  cases v1
  rw [tru_bl] at e3
  cases e3
  exact ⟨_, rfl, post _ _ x1 hr1⟩
theorem st_cmp (hu : Um X) {op : COp} (ha : PE X a (rE X f)) (hb : PE X b (rE X g)) (hm : behindInMarks (pyC op) b = false) : PT X (.Compare a [pyC op] [b] pos) (rT X (dTr fun env h => (f env h).bind fun x h => (g env h).bind fun y h => R.of ((cmpop op x y h).map .bl) h)) := by
  have hp : PC X (pyC op) a b (rE X fun env h => (f env h).bind fun x h => (g env h).bind fun y h => R.of ((cmpop op x y h).map .bl) h) := by
    refine ⟨fun pins s σ H Q I q => ?_⟩
    refine binT (R := fun x y H => rCmp X op x y H Q) ha hb I (rE2 q fun x y L H h p p' r h' hr v1 v2 e post => ?_) fun v u s2 x y H2 I2 rx ry q => op_cmp hu op pins s2 σ H2 x y v u Q I2 rx ry q
    obtain ⟨e, rfl⟩ := R.of_eq_ok e
    obtain ⟨t, e9, rfl⟩ := Option.map_eq_some_iff.mp e
    exact ⟨L, _, p, p', t, hr, v1, v2, e9, post⟩
  refine imT (pt_cmp hp hm) (rT_val (fun _ _ _ q => q) fun env h v h' e => ?_)
  obtain ⟨p, h1, e1, e⟩ := R.bind_eq_ok e
  obtain ⟨p', h2, e2, e⟩ := R.bind_eq_ok e
  obtain ⟨e, _⟩ := R.of_eq_ok e
  obtain ⟨t, _, e⟩ := Option.map_eq_some_iff.mp e
  exact ⟨t, e.symm⟩
/-! ### and, or, not, if -/
def andF (f g : Env → PHeap → R PV) : Env → PHeap → R PV := fun env h => (f env h).bind fun x h => (R.of (tru h x) h).bind fun t h => if t then g env h else .ok x h
def orF (f g : Env → PHeap → R PV) : Env → PHeap → R PV := fun env h => (f env h).bind fun x h => (R.of (tru h x) h).bind fun t h => if t then .ok x h else g env h
theorem dTr_ok {f : Env → PHeap → R PV} {env : Env} {h h' : PHeap} {b : Bool} : dTr f env h = .ok b h' ↔ ∃ v, f env h = .ok v h' ∧ tru h' v = some b := by
  constructor
  · intro e
    obtain ⟨p, h1, e1, e2⟩ := R.bind_eq_ok e
    obtain ⟨e3, rfl⟩ := R.of_eq_ok e2
    exact ⟨p, e1, e3⟩
  · rintro ⟨v, e1, e2⟩
    show (f env h).bind _ = _
    rw [e1, R.bind_ok, e2]
    rfl
theorem andF_ok {env : Env} {h h' : PHeap} {v : PV} (e : andF f g env h = .ok v h') : ∃ x h1 t, f env h = .ok x h1 ∧ tru h1 x = some t ∧ if t = true then g env h1 = .ok v h' else x = v ∧ h1 = h' := by
  obtain ⟨x, h1, e1, e⟩ := R.bind_eq_ok e
  obtain ⟨t, e2, e⟩ := R.of_bind e
  refine ⟨x, h1, t, e1, e2, ?_⟩
  cases t with
  | true => exact e
  | false => simp only [Bool.false_eq_true, if_false, R.ok.injEq] at e ⊢; exact e
theorem orF_ok {env : Env} {h h' : PHeap} {v : PV} (e : orF f g env h = .ok v h') : ∃ x h1 t, f env h = .ok x h1 ∧ tru h1 x = some t ∧ if t = true then x = v ∧ h1 = h' else g env h1 = .ok v h' := by
  obtain ⟨x, h1, e1, e⟩ := R.bind_eq_ok e
  obtain ⟨t, e2, e⟩ := R.of_bind e
  refine ⟨x, h1, t, e1, e2, ?_⟩
  cases t with
  | true => simp only [if_true, R.ok.injEq] at e ⊢; exact e
  | false => simpa using e
variable {rest : List Expr}
theorem sw_and (ha : PT X a (rT X (dTr f))) (hb : PW X (.BoolOp .And (b :: rest) pos) (rT X (dTr g))) : PW X (.BoolOp .And (a :: b :: rest) pos) (rT X (dTr (andF f g))) :=
  imW (pw_and ha hb) fun σ H Q ⟨L, h, env, t, h', hr, er, e, post⟩ => by
    obtain ⟨v, e1, e2⟩ := dTr_ok.mp e
    obtain ⟨x, h1, c, e3, e4, e5⟩ := andF_ok e1
    refine ⟨L, h, env, c, h1, hr, er, dTr_ok.mpr ⟨x, e3, e4⟩, fun L1 H1 x1 hr1 => ?_⟩
    cases c with
    | true =>
      simp only [if_true] at e5 ⊢
      exact ⟨L1, h1, env, t, h', hr1, er.mono x1, dTr_ok.mpr ⟨v, e5, e2⟩, post.aft hr x1⟩
    | false =>
      simp only [Bool.false_eq_true, if_false] at e5 ⊢
      obtain ⟨rfl, rfl⟩ := e5
      rw [e4] at e2
      cases e2
      exact post _ _ x1 hr1
theorem sw_or (ha : PT X a (rT X (dTr f))) (hb : PW X (.BoolOp .Or (b :: rest) pos) (rT X (dTr g))) : PW X (.BoolOp .Or (a :: b :: rest) pos) (rT X (dTr (orF f g))) :=
  imW (pw_or ha hb) fun σ H Q ⟨L, h, env, t, h', hr, er, e, post⟩ => by
    obtain ⟨v, e1, e2⟩ := dTr_ok.mp e
    obtain ⟨x, h1, c, e3, e4, e5⟩ := orF_ok e1
    refine ⟨L, h, env, c, h1, hr, er, dTr_ok.mpr ⟨x, e3, e4⟩, fun L1 H1 x1 hr1 => ?_⟩
    cases c with
    | true =>
      simp only [if_true] at e5 ⊢
      obtain ⟨rfl, rfl⟩ := e5
      rw [e4] at e2
      cases e2
      exact post _ _ x1 hr1
    | false =>
      simp only [Bool.false_eq_true, if_false] at e5 ⊢
      exact ⟨L1, h1, env, t, h', hr1, er.mono x1, dTr_ok.mpr ⟨v, e5, e2⟩, post.aft hr x1⟩
theorem se_and (hu : Um X) (ha : PE X a (rE X f)) (hb : PE X (.BoolOp .And (b :: rest) pos) (rE X g)) : PE X (.BoolOp .And (a :: b :: rest) pos) (rE X (andF f g)) := by
  refine ⟨fun pins s σ H Q I ⟨L, h, env, v, h', hr, er, e, post⟩ => ?_⟩
  obtain ⟨x, h1, c, e3, e4, e5⟩ := andF_ok e
  refine BoolOp_and (thn (ha.run pins s σ H (fun y H1 => ∃ L1, Ext L H L1 H1 ∧ HR (wd X) L1 h1 H1 ∧ VR (wd X) L1 H1 x y) I ⟨L, h, env, x, h1, hr, er, e3, fun y L1 H1 x1 hr1 v1 => ⟨L1, x1, hr1, v1⟩⟩) fun u s1 ⟨y, H1, I1, r1, L1, x1, hr1, v1⟩ => ?_)
  refine thn (tru_okP hu pins s1 σ H1 y u (fun c' H2 => c' = c ∧ H2 = H1) I1 r1 ⟨L1, h1, x, c, hr1, v1, e4, rfl, rfl⟩) fun c' s2 ⟨H2, I2, q1, q2⟩ => ?_
  subst q1 q2
  cases c' with
  | true => exact hb.run pins s2 σ H2 Q I2 ⟨L1, h1, env, v, h', hr1, er.mono x1, by simpa using e5, post.aft hr x1⟩
  | false =>
    simp only [Bool.false_eq_true, if_false] at e5
    obtain ⟨rfl, rfl⟩ := e5
    exact ⟨y, H2, I2, r1, post _ _ _ x1 hr1 v1⟩
theorem se_or (hu : Um X) (ha : PE X a (rE X f)) (hb : PE X (.BoolOp .Or (b :: rest) pos) (rE X g)) : PE X (.BoolOp .Or (a :: b :: rest) pos) (rE X (orF f g)) := by
  refine ⟨fun pins s σ H Q I ⟨L, h, env, v, h', hr, er, e, post⟩ => ?_⟩
  obtain ⟨x, h1, c, e3, e4, e5⟩ := orF_ok e
  refine BoolOp_or (thn (ha.run pins s σ H (fun y H1 => ∃ L1, Ext L H L1 H1 ∧ HR (wd X) L1 h1 H1 ∧ VR (wd X) L1 H1 x y) I ⟨L, h, env, x, h1, hr, er, e3, fun y L1 H1 x1 hr1 v1 => ⟨L1, x1, hr1, v1⟩⟩) fun u s1 ⟨y, H1, I1, r1, L1, x1, hr1, v1⟩ => ?_)
  refine thn (tru_okP hu pins s1 σ H1 y u (fun c' H2 => c' = c ∧ H2 = H1) I1 r1 ⟨L1, h1, x, c, hr1, v1, e4, rfl, rfl⟩) fun c' s2 ⟨H2, I2, q1, q2⟩ => ?_
  subst q1 q2
  cases c' with
  | true =>
    simp only [if_true] at e5
    obtain ⟨rfl, rfl⟩ := e5
    exact ⟨y, H2, I2, r1, post _ _ _ x1 hr1 v1⟩
  | false => exact hb.run pins s2 σ H2 Q I2 ⟨L1, h1, env, v, h', hr1, er.mono x1, by simpa using e5, post.aft hr x1⟩
def notF (f : Env → PHeap → R PV) : Env → PHeap → R PV := fun env h => (f env h).bind fun x h => R.of ((tru h x).map fun c => .bl (!c)) h
theorem notF_ok {env : Env} {h h' : PHeap} {v : PV} (e : notF f env h = .ok v h') : ∃ x c, f env h = .ok x h' ∧ tru h' x = some c ∧ v = .bl (!c) := by
  obtain ⟨x, h1, e1, e⟩ := R.bind_eq_ok e
  obtain ⟨e2, rfl⟩ := R.of_eq_ok e
  obtain ⟨t, e3, e4⟩ := Option.map_eq_some_iff.mp e2
  exact ⟨x, t, e1, e3, e4.symm⟩
theorem st_not (ha : PT X a (rT X (dTr f))) : PT X (.UnaryOp .Not a pos) (rT X (dTr (notF f))) := imT (pt_not ha) fun σ H Q ⟨L, h, env, t, h', hr, er, e, post⟩ => by
  obtain ⟨v, e1, e2⟩ := dTr_ok.mp e
  obtain ⟨x, c, e3, e4, rfl⟩ := notF_ok e1
  rw [tru_bl] at e2
  cases e2
  exact ⟨L, h, env, c, h', hr, er, dTr_ok.mpr ⟨x, e3, e4⟩, fun L1 H1 x1 hr1 => post _ _ x1 hr1⟩
theorem se_not (hu : Um X) (ha : PE X a (rE X f)) : PE X (.UnaryOp .Not a pos) (rE X (notF f)) := by
  refine ⟨fun pins s σ H Q I ⟨L, h, env, v, h', hr, er, e, post⟩ => ?_⟩
  obtain ⟨x, c, e3, e4, rfl⟩ := notF_ok e
  refine UnaryOp_ (thn (ha.run pins s σ H (fun y H1 => ∃ L1, Ext L H L1 H1 ∧ HR (wd X) L1 h' H1 ∧ VR (wd X) L1 H1 x y) I ⟨L, h, env, x, h', hr, er, e3, fun y L1 H1 x1 hr1 v1 => ⟨L1, x1, hr1, v1⟩⟩) fun u s1 ⟨y, H1, I1, r1, L1, x1, hr1, v1⟩ => ?_)
  exact not_of (thn (tru_okP hu pins s1 σ H1 y u (fun c' H2 => Q (.bl (!c')) H2) I1 r1 ⟨L1, h', x, c, hr1, v1, e4, post _ _ _ x1 hr1 (.bl _)⟩) fun c s2 ⟨H2, I2, q2⟩ => ⟨.bl (!c), H2, I2, rfl, q2⟩)
def ifeF (t : Env → PHeap → R PV) (f g : Env → PHeap → R PV) : Env → PHeap → R PV := fun env h => (t env h).bind fun x h => (R.of (tru h x) h).bind fun t h => if t then f env h else g env h
theorem ifeF_ok {env : Env} {h h' : PHeap} {v : PV} (e : ifeF k f g env h = .ok v h') : ∃ t h1, dTr k env h = .ok t h1 ∧ (if t = true then f env h1 else g env h1) = .ok v h' := by
  obtain ⟨x, h1, e1, e⟩ := R.bind_eq_ok e
  obtain ⟨t, e2, e⟩ := R.of_bind e
  exact ⟨t, h1, dTr_ok.mpr ⟨x, e1, e2⟩, e⟩
theorem se_ife (hc : PT X c (rT X (dTr k))) (ha : PE X a (rE X f)) (hb : PE X b (rE X g)) : PE X (.IfExp c a b pos) (rE X (ifeF k f g)) := imE (pe_ifExp hc ha hb) fun σ H Q ⟨L, h, env, v, h', hr, er, e, post⟩ => by
  obtain ⟨t, h1, e1, e2⟩ := ifeF_ok e
  refine ⟨L, h, env, t, h1, hr, er, e1, fun L1 H1 x1 hr1 => ?_⟩
  cases t with
  | true => exact ⟨L1, h1, env, v, h', hr1, er.mono x1, e2, post.aft hr x1⟩
  | false => exact ⟨L1, h1, env, v, h', hr1, er.mono x1, e2, post.aft hr x1⟩
theorem st_ife (hc : PT X c (rT X (dTr k))) (ha : PT X a (rT X (dTr f))) (hb : PT X b (rT X (dTr g))) : PT X (.IfExp c a b pos) (rT X (dTr (ifeF k f g))) := by
  refine ⟨fun pins s σ H Q I ⟨L, h, env, b', h', hr, er, e, post⟩ => isTrue_IfExp ?_⟩
  obtain ⟨v, e1, e2⟩ := dTr_ok.mp e
  obtain ⟨t, h1, e3, e4⟩ := ifeF_ok e1
  refine thn (hc.run pins s σ H (fun c' H1 => ∃ L1, c' = t ∧ Ext L H L1 H1 ∧ HR (wd X) L1 h1 H1) I ⟨L, h, env, t, h1, hr, er, e3, fun L1 H1 x1 hr1 => ⟨L1, rfl, x1, hr1⟩⟩) fun c' s1 ⟨H1, I1, L1, q, x1, hr1⟩ => ?_
  subst q
  cases c' with
  | true => exact ha.run pins s1 σ H1 Q I1 ⟨L1, h1, env, b', h', hr1, er.mono x1, dTr_ok.mpr ⟨v, e4, e2⟩, post.aft hr x1⟩
  | false => exact hb.run pins s1 σ H1 Q I1 ⟨L1, h1, env, b', h', hr1, er.mono x1, dTr_ok.mpr ⟨v, e4, e2⟩, post.aft hr x1⟩
/-! ### a op b op' c -/
def cmp2F (op op' : COp) (f g k : Env → PHeap → R PV) : Env → PHeap → R PV := fun env h => (f env h).bind fun x h => (g env h).bind fun y h => (R.of (cmpop op x y h) h).bind fun t h =>
      if t then (k env h).bind fun z h => R.of ((cmpop op' y z h).map .bl) h else .ok (.bl false) h
theorem cmp2_le {op op' : COp} : ∀ σ H Q, rE X (cmp2F op op' f g k) σ H Q → tChain (rCmp X op) (rCmp X op') (rE X f) (rE X g) (rE X k) σ H Q := fun σ H Q ⟨L, h, env, v, h', hr, er, e, post⟩ => by
  obtain ⟨p, h1, e1, e⟩ := R.bind_eq_ok e
  obtain ⟨p', h2, e2, e⟩ := R.bind_eq_ok e
  obtain ⟨t, e3, e⟩ := R.of_bind e
  refine ⟨L, h, env, p, h1, hr, er, e1, fun x L1 H1 x1 hr1 v1 => ⟨L1, h1, env, p', h2, hr1, er.mono x1, e2, fun y L2 H2 x2 hr2 v2 => ?_⟩⟩
  refine ⟨L2, h2, p, p', t, hr2, v1.mono x2, v2, e3, fun z L3 H3 x3 hr3 v3 => ?_⟩
  cases v3
  refine ⟨t, rfl, ?_⟩
  have xx := (x1.tr hr x2).tr hr x3
  cases t with
  | true =>
    simp only [if_true] at e ⊢
    obtain ⟨q, h3, e4, e5⟩ := R.bind_eq_ok e
    obtain ⟨e5, rfl⟩ := R.of_eq_ok e5
    obtain ⟨c, e9, rfl⟩ := Option.map_eq_some_iff.mp e5
    refine ⟨L3, h2, env, q, h', hr3, er.mono xx, e4, fun w L4 H4 x4 hr4 v4 => ?_⟩
    exact ⟨L4, h', p', q, c, hr4, (v2.mono x3).mono x4, v4, e9, post.aft hr (xx.tr hr x4)⟩
  | false =>
    simp only [Bool.false_eq_true, if_false, R.ok.injEq] at e ⊢
    obtain ⟨rfl, rfl⟩ := e
    exact post _ _ _ xx hr3 (.bl _)
theorem se_cmp2 (hu : Um X) {op op' : COp} (ha : PE X a (rE X f)) (hb : PE X b (rE X g)) (hc : PE X c (rE X k)) (hm : lastMarks [pyC op, pyC op'] [b, c] = false) : PE X (.Compare a [pyC op, pyC op'] [b, c] pos) (rE X (cmp2F op op' f g k)) :=
  imE (pe_chain (op_cmp hu op) (op_cmp hu op') ha hb hc hm) cmp2_le
theorem st_cmp2 (hu : Um X) {op op' : COp} (ha : PE X a (rE X f)) (hb : PE X b (rE X g)) (hc : PE X c (rE X k)) (hm : lastMarks [pyC op, pyC op'] [b, c] = false) : PT X (.Compare a [pyC op, pyC op'] [b, c] pos) (rT X (dTr (cmp2F op op' f g k))) :=
  imT (pt_chain (op_cmp hu op) (op_cmp hu op') ha hb hc hm) (rT_val cmp2_le fun env h v h' e => by
    obtain ⟨p, h1, e1, e⟩ := R.bind_eq_ok e
    obtain ⟨p', h2, e2, e⟩ := R.bind_eq_ok e
    obtain ⟨t, e3, e⟩ := R.of_bind e
    cases t with
    | true =>
      obtain ⟨q, h3, e4, e5⟩ := R.bind_eq_ok e
      obtain ⟨e5, _⟩ := R.of_eq_ok e5
      obtain ⟨c, _, e6⟩ := Option.map_eq_some_iff.mp e5
      exact ⟨c, e6.symm⟩
    | false => cases e; exact ⟨_, rfl⟩)
end
end HW
/-! HwM: lists of expressions, displays, slices, calls. -/
namespace HW
open PySem PySem.Spec PyProof.Rows L2 C8

def okArg : Expr → Bool
  | .Starred .. => false
  | _ => true
def okIx : Expr → Bool
  | .Slice .. => false
  | _ => true
def okTest : Expr → Bool
  | .UnaryOp .. => false
  | .BoolOp .. => false
  | .IfExp .. => false
  | .Compare .. => false
  | _ => true
def okBase : Expr → Bool
  | .Call _ (_ :: _) _ _ => true
  | .Call .. => false
  | _ => true
theorem star_ok {e : Expr} (h : okArg e = true) (es : List Expr) (env : PySem.Env) : starEach (e :: es) env = (false, eval e env) :: starEach es env := by
  cases e <;> first | rfl | cases h
theorem ix_ok {e : Expr} (h : okIx e = true) : PlainIx e := fun o i => by
  cases e <;> first | rfl | cases h
theorem test_ok {e : Expr} (h : okTest e = true) (env : PySem.Env) : ∀ whole, isTrue e env whole = (do let v ← whole; standAt e.pos; holding [v] (truthy v)) := fun whole => by
  cases e <;> first | rfl | cases h
theorem base_ok {e : Expr} (h : okBase e = true) (attr : Str) (env : PySem.Env) (whole : PySem.Sem Value) : attributeBase e attr env whole = whole := by
  cases e <;> first | rfl | skip
  rename_i f args kws p
  cases args with
  | nil => cases h
  | cons a as =>
    unfold attributeBase
    split
    · rename_i q
      cases q
    · rfl
theorem plain_all {pos : Pos} {env : PySem.Env} : ∀ {es : List Expr}, es.all okArg = true → (backTo pos (starEach es env)).any (·.1) = false
  | [], _ => rfl
  | e :: es, h => by
    rw [List.all_cons, Bool.and_eq_true] at h
    rw [star_ok h.1]
    have ih := plain_all (pos := pos) (env := env) h.2
    show (false || (backTo pos (starEach es env)).any (·.1)) = false
    rw [ih]
    rfl
section
variable {X : Cx} {a b c : Expr} {es : List Expr} {f g k : Env → PHeap → R PV} {fs : Env → PHeap → R (List PV)} {pos : Pos}
def nilF : Env → PHeap → R (List PV) := fun _ h => .ok [] h
def consF (f : Env → PHeap → R PV) (fs : Env → PHeap → R (List PV)) : Env → PHeap → R (List PV) := fun env h => (f env h).bind fun v h => (fs env h).bind fun vs h => .ok (v :: vs) h
theorem sa_nil : PA X [] (rA X nilF) := imA pa_nil fun σ H Q ⟨L, h, env, vs, h', hr, er, e, post⟩ => by
  cases e
  exact post [] _ _ Ext.refl hr .nil
theorem sa_cons (ha : PE X a (rE X f)) (hs : PA X es (rA X fs)) (ho : okArg a = true) : PA X (a :: es) (rA X (consF f fs)) := imA (pa_cons ha hs (star_ok ho _ _)) fun σ H Q ⟨L, h, env, vs, h', hr, er, e, post⟩ => by
  obtain ⟨p, h1, e1, e⟩ := R.bind_eq_ok e
  obtain ⟨ps, h2, e2, e⟩ := R.bind_eq_ok e
  cases e
  refine ⟨L, h, env, p, h1, hr, er, e1, fun x L1 H1 x1 hr1 v1 => ⟨L1, h1, env, ps, h', hr1, er.mono x1, e2, fun xs L2 H2 x2 hr2 v2 => ?_⟩⟩
  exact post (x :: xs) L2 H2 (x1.tr hr x2) hr2 (.cons (v1.mono x2) v2)
/-- a written tuple -/
theorem se_tup {x1 : Nat} (hs : PA X es (rA X fs)) (hl : ∀ env h vs h', fs env h = .ok vs h' → vs.length ≤ sizeLine) : PE X (.Tuple es x1 pos) (rE X fun env h => (fs env h).bind fun vs h => .ok (.tup vs) h) := by
  refine ⟨fun pins s σ H Q I ⟨L, h, env, v, h', hr, er, e, post⟩ => ?_⟩
  obtain ⟨ps, h1, e1, e⟩ := R.bind_eq_ok e
  cases e
  refine wpAny_Tuple_spliced (thn (hs.run pos pins s σ H (fun xs H1 => ∃ L1, Ext L H L1 H1 ∧ HR (wd X) L1 h' H1 ∧ VRs (wd X) L1 H1 ps xs) I ⟨L, h, env, ps, h', hr, er, e1, fun xs L1 H1 x1 hr1 v1 => ⟨L1, x1, hr1, v1⟩⟩) fun us s1 ⟨xs, H1, I1, r, L1, x1, hr1, v1⟩ => ?_)
  have z : xs.length ≤ sizeLine := by rw [v1.length]; exact hl _ _ _ _ e1
  refine ⟨by rw [← r.length]; exact z, ?_⟩
  exact tup_ep I1 hr1 (post.aft hr x1) v1 r z s1.toks
theorem se_lst {al : Bool} (hs : PA X es (rA X fs)) (hl : ∀ env h vs h', fs env h = .ok vs h' → vs.length ≤ sizeLine) : PE X (.List es pos) (rE X fun env h => (fs env h).bind fun vs h => mkList al vs h) := 
  ⟨fun pins s σ H Q I ⟨L, h, env, v, h', hr, er, e, post⟩ => by
  obtain ⟨ps, h1, e1, e⟩ := R.bind_eq_ok e
  refine thn ((pe_lst hs).run pins s σ H (fun x H' => ∃ L1 H1 xs p, Ext L H L1 H1 ∧ HR (wd X) L1 h1 H1 ∧ VRs (wd X) L1 H1 ps xs ∧ x = .ref p ∧ H1 p = none ∧ H' = upd H1 p (.lst xs)) I ⟨L, h, env, ps, h1, hr, er, e1, fun xs L1 H1 x1 hr1 v1 => ⟨by rw [v1.length]; exact hl _ _ _ _ e1, fun p hp => ⟨L1, H1, xs, p, x1, hr1, v1, rfl, hp, rfl⟩⟩⟩) fun u s' ⟨x, H', I', rx, L1, H1, xs, p, x1, hr1, v1, ex, hp, eH⟩ => ?_
  subst ex eH
  cases rx
  exact mk_ep I' hp e (post.aft hr x1) hr1 v1⟩
/-! ### slices -/
def noF : Env → PHeap → R (Option Int) := fun _ h => .ok none h
def someF (f : Env → PHeap → R PV) : Env → PHeap → R (Option Int) := fun env h => (f env h).bind fun v h => (R.of (intOf v) h).bind fun i h => .ok (some i) h
theorem so_none : PO X none (rO X noF) := imO po_none fun σ H Q ⟨L, h, env, o, h', hr, er, e, post⟩ => by
  cases e
  exact post _ _ Ext.refl hr
theorem so_some (ha : PE X a (rE X f)) : PO X (some a) (rO X (someF f)) := imO (po_some ha) fun σ H Q ⟨L, h, env, o, h', hr, er, e, post⟩ => by
  obtain ⟨p, h1, e1, e⟩ := R.bind_eq_ok e
  obtain ⟨i, e2, e⟩ := R.of_bind e
  cases e
  refine ⟨L, h, env, p, _, hr, er, e1, fun x L1 H1 x1 hr1 v1 => ?_⟩
  cases p with
  | int j =>
    cases e2
    cases v1
    exact ⟨_, rfl, post _ _ x1 hr1⟩
  | _ => cases e2
variable {lo hi : Option Expr} {fl fu : Env → PHeap → R (Option Int)} {p2 : Pos}
theorem se_sl (ha : PE X a (rE X f)) (hl : PO X lo (rO X fl)) (hu : PO X hi (rO X fu)) : PE X (.Subscript a (.Slice lo hi none p2) pos) (rE X fun env h => (f env h).bind fun x h => (fl env h).bind fun l h => (fu env h).bind fun u h => R.of (sliceOf h x l u) h) :=
  imE (pe_slice sl_ok ha hl hu) fun σ H Q ⟨L, h, env, v, h', hr, er, e, post⟩ => by
  obtain ⟨p, h1, e1, e⟩ := R.bind_eq_ok e
  obtain ⟨o, h2, e2, e⟩ := R.bind_eq_ok e
  obtain ⟨o', h3, e3, e⟩ := R.bind_eq_ok e
  obtain ⟨e, rfl⟩ := R.of_eq_ok e
  refine ⟨L, h, env, p, h1, hr, er, e1, fun x L1 H1 x1 hr1 v1 => ⟨L1, h1, env, o, h2, hr1, er.mono x1, e2, fun L2 H2 x2 hr2 => ⟨L2, h2, env, o', _, hr2, er.mono (x1.tr hr x2), e3, fun L3 H3 x3 hr3 => ?_⟩⟩⟩
  exact ⟨L3, _, p, v, hr3, (v1.mono x2).mono x3, e, post.aft hr ((x1.tr hr x2).tr hr x3)⟩
/-! ### calls of built-ins -/
variable {x : Str} {id T : String} {r : List V → Hp → VK → Prop} {p : Pos}
theorem calls {F : List PV → PHeap → R PV} {σ : L2.St} {H : Hp} {Q : VK} {k : List V → Hp → VK → Prop} (q : rE X (fun env h => (fs env h).bind F) σ H Q)
    (hk : ∀ xs L H h ps r h', HR (wd X) L h H → VRs (wd X) L H ps xs → F ps h = .ok r h' → Post (wd X) L H r h' Q → k xs H Q) : tCB k (rA X fs) σ H Q := by
  obtain ⟨L, h, env, v, h', hr, er, e, post⟩ := q
  obtain ⟨ps, h1, e1, e2⟩ := R.bind_eq_ok e
  exact ⟨L, h, env, ps, h1, hr, er, e1, fun xs L1 H1 x1 hr1 v1 => hk xs L1 H1 h1 ps v h' hr1 v1 e2 (post.aft hr x1)⟩
theorem se_blt {B : Blt} (hc : CallR X (.builtin id) (rBlt X B)) (hg : Gl X x) (hm : X.mg x = none) (hv : bootBuiltins x = some (.builtin id)) (hn : x ≠ "__name__") (hd : (x == ("__debug__" : Str)) = false) (hs : PA X (a :: es) (rA X fs)) (ho : (a :: es).all okArg = true) :
    PE X (.Call (.Name x p) (a :: es) [] pos) (rE X fun env h => (fs env h).bind fun vs h => R.of (bltop B vs h) h) := by
  rw [List.all_cons, Bool.and_eq_true] at ho
  refine imE (pe_callB hc hg hm hv hs hn hd (star_ok ho.1 _ _) (plain_all ho.2)) fun σ H Q q => calls q fun xs L H h ps r h' hr v1 e post => ?_
  obtain ⟨e, rfl⟩ := R.of_eq_ok e
  exact ⟨L, _, ps, r, hr, v1, e, post⟩
theorem se_bltT {B : Blt} (hc : CallR X (.type T) (rBlt X B)) (hg : Gl X x) (hm : X.mg x = none) (hv : bootBuiltins x = some (.type T)) (hn : x ≠ "__name__") (hd : (x == ("__debug__" : Str)) = false) (hs : PA X (a :: es) (rA X fs)) (ho : (a :: es).all okArg = true) :
    PE X (.Call (.Name x p) (a :: es) [] pos) (rE X fun env h => (fs env h).bind fun vs h => R.of (bltop B vs h) h) := by
  rw [List.all_cons, Bool.and_eq_true] at ho
  refine imE (pe_callTy hc hg hm hv hs hn hd (star_ok ho.1 _ _) (plain_all ho.2)) fun σ H Q q => calls q fun xs L H h ps r h' hr v1 e post => ?_
  obtain ⟨e, rfl⟩ := R.of_eq_ok e
  exact ⟨L, _, ps, r, hr, v1, e, post⟩
theorem one_arg (ha : PE X a (rE X f)) (ho : okArg a = true) : PA X [a] (rA X (consF f nilF)) := sa_cons ha sa_nil ho
theorem conv1 {C : Cnv} {al : Bool} : ∀ σ H Q, rE X (fun env h => (f env h).bind fun v h => convop C al v h) σ H Q → tCB (rConv X C al) (rA X (consF f nilF)) σ H Q := fun σ H Q ⟨L, h, env, v, h', hr, er, e, post⟩ => by
  obtain ⟨p, h1, e1, e2⟩ := R.bind_eq_ok e
  refine ⟨L, h, env, [p], h1, hr, er, by unfold consF nilF; rw [e1]; rfl, fun xs L1 H1 x1 hr1 v1 => ?_⟩
  cases v1 with
  | cons v1 v2 =>
    cases v2
    exact ⟨L1, h1, p, _, v, h', rfl, hr1, v1, e2, post.aft hr x1⟩
theorem se_cnv {C : Cnv} {al : Bool} (hc : CallR X (.builtin id) (rConv X C al)) (hg : Gl X x) (hm : X.mg x = none) (hv : bootBuiltins x = some (.builtin id)) (hn : x ≠ "__name__") (hd : (x == ("__debug__" : Str)) = false) (ha : PE X a (rE X f)) (ho : okArg a = true) :
    PE X (.Call (.Name x p) [a] [] pos) (rE X fun env h => (f env h).bind fun v h => convop C al v h) :=
  imE (pe_callB hc hg hm hv (one_arg ha ho) hn hd (star_ok ho _ _) rfl) conv1
theorem se_cnvT {C : Cnv} {al : Bool} (hc : CallR X (.type T) (rConv X C al)) (hg : Gl X x) (hm : X.mg x = none) (hv : bootBuiltins x = some (.type T)) (hn : x ≠ "__name__") (hd : (x == ("__debug__" : Str)) = false) (ha : PE X a (rE X f)) (ho : okArg a = true) :
    PE X (.Call (.Name x p) [a] [] pos) (rE X fun env h => (f env h).bind fun v h => convop C al v h) :=
  imE (pe_callTy hc hg hm hv (one_arg ha ho) hn hd (star_ok ho _ _) rfl) conv1
/-- isinstance(e, T) -/
theorem se_isi {TN : Str} {p' : Pos} (hg : Gl X "isinstance") (hm : X.mg "isinstance" = none) (hg' : Gl X TN) (hm' : X.mg TN = none) (hv' : bootBuiltins TN = some (.type T)) (hn' : TN ≠ "__name__") (hd' : (TN == ("__debug__" : Str)) = false) (ha : PE X a (rE X f)) (ho : okArg a = true) :
    PE X (.Call (.Name "isinstance" p) [a, .Name TN p'] [] pos) (rE X fun env h => (consF f nilF env h).bind fun vs h => R.of (bltop (.isi T) vs h) h) := by
  have h2 : PE X (.Name TN p') (tC (.ty T)) := pe_bltn hg' hm' hv' rfl hn' hd'
  refine imE (pe_callB (cr_isi T) hg hm rfl (pa_cons ha (pa_cons h2 pa_nil) (star_ok ho _ _)) (by decide) (by decide) (star_ok ho _ _) rfl) fun σ H Q ⟨L, h, env, v, h', hr, er, e, post⟩ => ?_
  obtain ⟨ps, h1, e1, e2⟩ := R.bind_eq_ok e
  obtain ⟨q, h3, e3, e4⟩ := R.bind_eq_ok e1
  cases e4
  obtain ⟨e2, rfl⟩ := R.of_eq_ok e2
  exact ⟨L, h, env, q, _, hr, er, e3, fun x L1 H1 x1 hr1 v1 => ⟨x, rfl, L1, _, [q], v, hr1, .cons v1 .nil, e2, post.aft hr x1⟩⟩
/-- isinstance(e, (T, ..)) -/
theorem tys_pa : ∀ {es : List Expr} {ts : List String}, Paired (fun e T => okArg e = true ∧ PE X e (tC (.ty T))) es ts → PA X es (fun _ H Q => Q (ts.map V.ty) H)
  | [], [], _ => pa_nil
  | _ :: _, _ :: _, .cons h1 h2 => imA (pa_cons h1.2 (tys_pa h2) (star_ok h1.1 _ _)) fun _ _ _ q => q
theorem se_isiT {ts : List String} {p' : Pos} {kk : Nat} (hg : Gl X "isinstance") (hm : X.mg "isinstance" = none) (ht : Paired (fun e T => okArg e = true ∧ PE X e (tC (.ty T))) es ts) (hl : ts.length ≤ 100) (ha : PE X a (rE X f)) (ho : okArg a = true) :
    PE X (.Call (.Name "isinstance" p) [a, .Tuple es kk p'] [] pos) (rE X fun env h => (consF f nilF env h).bind fun vs h => R.of (bltop (.isiT ts) vs h) h) := by
  have h2 : PE X (.Tuple es kk p') (tTup fun _ H Q => Q (ts.map V.ty) H) := pe_tup (tys_pa ht)
  refine imE (pe_callB (cr_isiT ts) hg hm rfl (pa_cons ha (pa_cons h2 pa_nil) (star_ok ho _ _)) (by decide) (by decide) (star_ok ho _ _) rfl) fun σ H Q ⟨L, h, env, v, h', hr, er, e, post⟩ => ?_
  obtain ⟨ps, h1, e1, e2⟩ := R.bind_eq_ok e
  obtain ⟨q, h3, e3, e4⟩ := R.bind_eq_ok e1
  cases e4
  obtain ⟨e2, rfl⟩ := R.of_eq_ok e2
  refine ⟨L, h, env, q, _, hr, er, e3, fun x L1 H1 x1 hr1 v1 => ⟨by rw [List.length_map, sizeLine_eq]; omega, fun tp hp => ?_⟩⟩
  have x2 : Ext L1 H1 L1 (upd H1 tp (.tup (ts.map V.ty))) := ext_new hp
  exact ⟨x, tp, rfl, upd_same, L1, _, [q], v, hr1.new hp, .cons (v1.mono x2) .nil, e2, post.aft hr (x1.tr hr x2)⟩
/-! ### calls of defs -/
/-- what a def promises, by its meaning -/
def spS (Z : Wd) (n : Nat) (sem : Sem) : Sp := fun vs H Q _ => ∃ L h ps r h', HR Z L h H ∧ VRs Z L H ps vs ∧ ps.length = n ∧ sem ps h = .ok r h' ∧ Post Z L H r h' Q
theorem se_call {j k n : Nat} {sem : Sem} (cc : Cal X.prog X.w X.K X.mg X.base k x (spS (wd X) n sem) []) (hr : Room j X.A) (hk : k ≤ j) (hg : Gl X x) (hd : (x == ("__debug__" : Str)) = false) (hs : PA X (a :: es) (rA X fs)) (ho : (a :: es).all okArg = true)
    (hl : ∀ env h vs h', fs env h = .ok vs h' → vs.length = n) : PE X (.Call (.Name x p) (a :: es) [] pos) (rE X fun env h => (fs env h).bind fun vs h => sem vs h) := by
  rw [List.all_cons, Bool.and_eq_true] at ho
  refine imE (pe_c cc hr hk hg hs hd (star_ok ho.1 _ _) (plain_all ho.2)) fun σ H Q ⟨L, h, env, v, h', hr, er, e, post⟩ => ?_
  obtain ⟨ps, h1, e1, e2⟩ := R.bind_eq_ok e
  refine ⟨L, h, env, ps, h1, hr, er, e1, fun xs L1 H1 x1 hr1 v1 => ?_⟩
  show spS (wd X) n sem (xs ++ []) H1 Q _
  rw [List.append_nil]
  exact ⟨L1, h1, ps, v, h', hr1, v1, hl _ _ _ _ e1, e2, post.aft hr x1⟩
theorem se_call0 {j k : Nat} {sem : Sem} (cc : Cal X.prog X.w X.K X.mg X.base k x (spS (wd X) 0 sem) []) (hr : Room j X.A) (hk : k ≤ j) (hg : Gl X x) (hd : (x == ("__debug__" : Str)) = false) : PE X (.Call (.Name x p) [] [] pos) (rE X fun env h => sem [] h) := by
  obtain ⟨f, fd, ps, ds, F, hm, kp, b, d⟩ := cc.ex
  refine imE (pe_call0 (E := C8.E0) F (hr.mono hk) hg hm kp b d C8.pass0 hd) fun σ H Q ⟨L, h, env, v, h', hr, er, e, post⟩ => ?_
  exact ⟨L, h, [], v, h', hr, .nil, rfl, e, post⟩
end
end HW
/-! HwN: methods, dict displays, reversed slices. -/
namespace HW
open PySem PySem.Spec PyProof.Rows L2 C8

def rMth (X : Cx) (m : Mth) : V → List V → Hp → VK → Prop := fun x xs H Q => ∃ L h p ps r h', HR (wd X) L h H ∧ VR (wd X) L H p x ∧ VRs (wd X) L H ps xs ∧ methop m p ps h = .ok r h' ∧ Post (wd X) L H r h' Q
section
variable {X : Cx}
theorem live_lst {L : List Addr} {H : Hp} {h : PHeap} {Z : Wd} (hr : HR Z L h H) {n : Nat} {x : V} {xs : List PV} (v : VR Z L H (.ref n) x) (hc : h[n]? = some (.lst xs)) : ∃ a vs, x = .ref a ∧ L[n]? = some a ∧ a ∈ L ∧ H a = some (.lst vs) ∧ VRs Z L H xs vs := by
  cases v with
  | ref hn =>
    obtain ⟨vs, h1, h2⟩ := hr.cell _ _ _ hc hn
    exact ⟨_, vs, rfl, hn, List.mem_of_getElem? hn, h1, h2⟩
theorem Post.wr {L : List Addr} {H : Hp} {h : PHeap} {Z : Wd} {Q : VK} {r : PV} {y : V} {n : Nat} {a : Addr} {o : HO} {c : Cell} (hr : HR Z L h H) (hn : L[n]? = some a) (hf : NF H a) (post : Post Z L H r (h.set n c) Q) (cr : CR Z L (upd H a o) a c) (v : VR Z L H r y) : Q y (upd H a o) :=
  post _ _ _ (ext_write (List.mem_of_getElem? hn) hf) (hr.write hn hf cr) (v.mono (ext_write (List.mem_of_getElem? hn) hf))
theorem mt_app : MtR X "list.append" (rMth X .lapp) := by
  intro pins s σ H x xs v us Q I rx rs ⟨L, h, p, ps, r, h', hr, vp, vs, e, post⟩
  replace e : mApp p ps h = .ok r h' := e
  unfold mApp at e
  split at e
  rotate_left
  · cases e
  rename_i n z
  split at e
  · rename_i ys hc
    split at e
    · rename_i hz
      cases e
      obtain ⟨a, vs', rfl, hn, hm, h1, h2⟩ := live_lst hr vp hc
      obtain ⟨y, rfl, vy⟩ := vrs1 vs
      refine mt_append pins s σ H (.ref a) [y] v us Q I rx rs ⟨a, vs', y, rfl, rfl, h1, by rw [h2.length, ← lim]; exact hz, ?_⟩
      exact Post.wr hr hn (nf_lst h1) post ⟨_, upd_same, (h2.snoc vy).mono (ext_write hm (nf_lst h1))⟩ .non
    · cases e
  · cases e
theorem mt_extR : MtR X "list.extend" (fun x zs H Q => ∃ a b us ws, x = .ref a ∧ zs = [.ref b] ∧ H a = some (.lst us) ∧ Rd H b (.lst ws) ∧ us.length + ws.length ≤ sizeLine ∧ Q .non (upd H a (.lst (us ++ ws)))) := by
  rintro pins s σ H x zs v vs Q I rx rz ⟨a, b, us, ws, rfl, rfl, ka, kb, few, q⟩
  cases rx
  obtain ⟨u, rfl, ru⟩ := rz.one
  cases ru
  obtain ⟨_, as, na, ra, la, ga⟩ := lst_rd I (.inl ka)
  obtain ⟨_, bs, nb, rb, lb, gb⟩ := lst_rd I kb
  have few' : as.toArray.size + bs.toArray.size ≤ sizeLine := by simp only [List.size_toArray]; omega
  have long : ¬ (!as.toArray.isEmpty && Builtin.List.listTooLong (as.toArray.size + bs.toArray.size)) = true := by rw [notLongL few', Bool.and_false]; decide
  refine call_meets F.slot_list_extend ⟨_, ga, rfl⟩ F.entry_list_extend (F.args_list_extend_2 _ _)
    (AutoSeq1.list_extend_list_list_0 a as.toArray na b bs.toArray nb long (by simp only [List.size_toArray] at few' ⊢; omega) (by omega)) ⟨ga, gb, ?_⟩
  exact ⟨.non, _, I.lset (its' := as ++ bs) ka ga (by simp) (ra.append rb) (by simp only [List.length_append]; omega), rfl, q⟩
theorem mt_ext : MtR X "list.extend" (rMth X .lext) := by
  intro pins s σ H x xs v us Q I rx rs ⟨L, h, p, ps, r, h', hr, vp, vs, e, post⟩
  replace e : mExt p ps h = .ok r h' := e
  unfold mExt at e
  split at e
  rotate_left
  · cases e
  rename_i n z
  split at e
  · rename_i ys zs hc hc2
    split at e
    · rename_i hz
      cases e
      obtain ⟨a, vs', rfl, hn, hm, h1, h2⟩ := live_lst hr vp hc
      obtain ⟨y, rfl, vy⟩ := vrs1 vs
      obtain ⟨b, vs2, rfl, h3, h4⟩ := vy.list hr hc2
      refine mt_extR pins s σ H (.ref a) [.ref b] v us Q I rx rs ⟨a, b, vs', vs2, rfl, rfl, h1, h3, by rw [h2.length, h4.length, ← lim]; exact hz, ?_⟩
      exact Post.wr hr hn (nf_lst h1) post ⟨_, upd_same, (h2.append h4).mono (ext_write hm (nf_lst h1))⟩ .non
    · cases e
  · cases e
theorem mt_popL : MtR X "list.pop" (rMth X .lpop) := by
  intro pins s σ H x xs v us Q I rx rs ⟨L, h, p, ps, r, h', hr, vp, vs, e, post⟩
  replace e : mPop p ps h = .ok r h' := e
  unfold mPop at e
  split at e
  rotate_left
  · cases e
  rename_i n
  split at e
  · rename_i ys hc
    split at e
    · rename_i y hy
      cases e
      obtain ⟨a, vs', rfl, hn, hm, h1, h2⟩ := live_lst hr vp hc
      cases vs
      obtain ⟨z, h3, h4⟩ := h2.get' hy
      refine mt_pop pins s σ H (.ref a) [] v us Q I rx rs ⟨a, vs', z, rfl, rfl, h1, by rw [h2.length]; exact h3, ?_⟩
      exact Post.wr hr hn (nf_lst h1) post ⟨_, upd_same, h2.dropLast.mono (ext_write hm (nf_lst h1))⟩ h4
    · cases e
  · cases e
theorem wide63 {i : Int} (h : wide62 i = true) : -(2 ^ 63) ≤ i ∧ i < 2 ^ 63 := by
  have := of_decide_eq_true h
  omega
theorem mt_popAtL : MtR X "list.pop" (rMth X .lpopAt) := by
  intro pins s σ H x xs v us Q I rx rs ⟨L, h, p, ps, r, h', hr, vp, vs, e, post⟩
  replace e : mPopAt p ps h = .ok r h' := e
  unfold mPopAt at e
  split at e
  rotate_left
  · cases e
  rename_i n i
  split at e
  · rename_i ys hc
    split at e
    · rename_i hw
      split at e
      · rename_i k hk
        split at e
        · rename_i y hy
          cases e
          obtain ⟨a, vs', rfl, hn, hm, h1, h2⟩ := live_lst hr vp hc
          obtain ⟨q, rfl, vq⟩ := vrs1 vs
          cases vq
          obtain ⟨z, h3, h4⟩ := h2.get' hy
          obtain ⟨w1, w2⟩ := wide63 hw
          refine mt_popAt pins s σ H (.ref a) [.int i] v us Q I rx rs ⟨a, vs', i, k, z, rfl, rfl, h1, w1, w2, by rw [h2.length]; exact hk, h3, ?_⟩
          exact Post.wr hr hn (nf_lst h1) post ⟨_, upd_same, (h2.eraseIdx k).mono (ext_write hm (nf_lst h1))⟩ h4
        · cases e
      · cases e
    · cases e
  · cases e
theorem mt_idx (hu : Um X) : MtR X "list.index" (rMth X .lidx) := by
  intro pins s σ H x xs v us Q I rx rs ⟨L, h, p, ps, r, h', hr, vp, vs, e, post⟩
  replace e : mIdx p ps h = .ok r h' := e
  unfold mIdx at e
  split at e
  rotate_left
  · cases e
  rename_i k
  split at e
  · rename_i ys hc
    split at e
    · rename_i ds d e1 e2
      split at e
      · rename_i hsh
        rw [Bool.and_eq_true] at hsh
        split at e
        · rename_i j hj
          cases e
          obtain ⟨a, vs', rfl, h1, h2⟩ := vp.list hr hc
          obtain ⟨y, rfl, vy⟩ := vrs1 vs
          obtain ⟨hlt, p1, p2⟩ := List.findIdx?_eq_some_iff_getElem.mp hj
          refine mt_indexD (um65 hu) pins s σ H (.ref a) [y] v us Q I rx rs ⟨a, y, d, ds, j, ds[j], rfl, rfl, .lst (sqr h1) (VRs.dp _ _ _ h2 e1), vy.resDp hr e2, hsh.1, hsh.2, List.getElem?_eq_getElem hlt, p1, fun m z' hm hz => ?_, post.same hr (.int _)⟩
          obtain ⟨hm2, rfl⟩ := List.getElem?_eq_some_iff.mp hz
          have := p2 m hm
          simpa using this
        · cases e
      · cases e
    · cases e
  · cases e
theorem mt_cntD (hu : X.A.units + 65 < cLine) : MtR X "list.count" (fun x xs H Q => ∃ (a : Addr) (y : V) (d : PyData) (ds : List PyData), x = V.ref a ∧ xs = [y] ∧ Dp X.K H (V.ref a) (.list ds) ∧ Dp X.K H y d ∧
    SeqAt.shaped (.list ds) = true ∧ SeqAt.shaped d = true ∧ Q (.int (ds.countP fun e => PyData.eqv e d : Nat)) H) := by
  rintro pins s σ H x xs v us Q I rx rz ⟨a, y, d, ds, rfl, rfl, hl, hy, sl, sd, q⟩
  cases rx
  obtain ⟨uy, rfl, ry⟩ := rz.one
  obtain ⟨bs, r1⟩ := Dp.reads I d y uy hy ry
  have hxs : PyData.canLayAll0 ds = true := SeqAt.canLay_of_shaped sl
  have hroom : X.A.units + 1 + min (PyData.depthAll ds) d.depth < cLine := room_in_shaped sd hu
  cases hl with
  | lst hs ha =>
    obtain ⟨its, rv, ⟨⟨cls, dd, data, sls⟩, n, ho, hc, hdn, hdt⟩, hlen⟩ := I.list hs
    simp only at hc hdt
    subst hc hdt
    obtain ⟨as, h4⟩ := Dp.readsAll I ds _ its ha rv
    have hmap : its.map (SeqAt.readOf s.heap) = ds := SeqAt.readsAll_map ds its as hxs h4
    refine call_meets PySem.F.slot_list_count ⟨_, ho, rfl⟩ PySem.F.entry_list_count (PySem.F.args_list_count_2 _ _)
      (SeqAt.list_countAt a its.toArray n dd sls uy (fun u => PyData.eqv (SeqAt.readOf s.heap u) d)) ⟨ho, SeqAt.items_eqAt (vs := its.toArray) (show ReadsAll s.heap its.toArray.toList ds as from h4) r1 hxs (SeqAt.canLay_of_shaped sd) hroom, ?_⟩
    have ec : its.toArray.toList.countP (fun u => PyData.eqv (SeqAt.readOf s.heap u) d) = ds.countP fun e => PyData.eqv e d := by
      rw [← hmap, List.countP_map]
      rfl
    rw [ec]
    exact ⟨.int (ds.countP fun e => PyData.eqv e d : Nat), H, I.tok _, ⟨_, rfl⟩, q⟩
theorem mt_cnt (hu : Um X) : MtR X "list.count" (rMth X .lcount) := by
  intro pins s σ H x xs v us Q I rx rs ⟨L, h, p, ps, r, h', hr, vp, vs, e, post⟩
  replace e : mCnt p ps h = .ok r h' := e
  unfold mCnt at e
  split at e
  rotate_left
  · cases e
  rename_i k
  split at e
  · rename_i ys hc
    split at e
    · rename_i ds d e1 e2
      split at e
      · rename_i hsh
        rw [Bool.and_eq_true] at hsh
        cases e
        obtain ⟨a, vs', rfl, h1, h2⟩ := vp.list hr hc
        obtain ⟨y, rfl, vy⟩ := vrs1 vs
        exact mt_cntD (um65 hu) pins s σ H (.ref a) [y] v us Q I rx rs ⟨a, y, d, ds, rfl, rfl, .lst (sqr h1) (VRs.dp _ _ _ h2 e1), vy.resDp hr e2, hsh.1, hsh.2, post.same hr (.int _)⟩
      · cases e
    · cases e
  · cases e
theorem mt_getD (hu : Um X) : MtR X "dict.get" (rMth X .dget) := by
  intro pins s σ H x xs v us Q I rx rs ⟨L, h, p, ps, r, h', hr, vp, vs, e, post⟩
  replace e : mGet p ps h = .ok r h' := e
  unfold mGet at e
  split at e
  rotate_left
  · cases e
  rename_i k z
  split at e
  · rename_i es hc
    split at e
    · rename_i ok
      cases e
      obtain ⟨a, rfl, d⟩ := vp.dict hr hc
      cases rx
      cases vs with
      | cons v1 v2 =>
        obtain ⟨y, rfl, vy⟩ := vrs1 v2
        cases rs with
        | cons r1 r2 =>
          cases r2 with
          | cons r2 r3 =>
            cases r3
            exact dict_getD hu I d ok v1 r1 vy r2 fun y' w' s' I' vy' rw' => ⟨y', H, I', rw', post.same hr vy'⟩
    · cases e
  · cases e
theorem mt_getD1 (hu : Um X) : MtR X "dict.get" (rMth X .dget1) := by
  intro pins s σ H x xs v us Q I rx rs ⟨L, h, p, ps, r, h', hr, vp, vs, e, post⟩
  replace e : mGet1 p ps h = .ok r h' := e
  unfold mGet1 at e
  split at e
  rotate_left
  · cases e
  rename_i k
  split at e
  · rename_i es hc
    split at e
    · rename_i ok
      cases e
      obtain ⟨a, rfl, d⟩ := vp.dict hr hc
      cases rx
      cases vs with
      | cons v1 v2 =>
        cases v2
        cases rs with
        | cons r1 r2 =>
          cases r2
          exact dict_get1 hu I d ok v1 r1 fun y' w' s' I' vy' rw' => ⟨y', H, I', rw', post.same hr vy'⟩
    · cases e
  · cases e
variable {o a : Expr} {es : List Expr} {f : Env → PHeap → R PV} {fs : Env → PHeap → R (List PV)} {name : Str} {apos cpos : Pos} {T id : String} {m : Mth}
def methF (m : Mth) (f : Env → PHeap → R PV) (fs : Env → PHeap → R (List PV)) : Env → PHeap → R PV := fun env h => (f env h).bind fun x h => if recv m h x then (fs env h).bind fun vs h => methop m x vs h else .bad
/-- of that type, with no dict of its own -/
def OfT (m : Mth) (T : String) : Prop := ∀ {X : Cx} {pins : List (Addr × Obj)} {σ : L2.St} {H : Hp} {s : Shared} {L : List Addr} {h : PHeap} {p : PV} {x : V} {v : Value}, Inv X pins σ H s → HR (wd X) L h H → VR (wd X) L H p x → RelV x v → recv m h p = true →
  s.TypeIs v T ∧ ∀ a, v = .ref a → ∃ ob, s.heap.get? a = some ob ∧ ob.dict = none
theorem ofT_dict {m : Mth} (hm : ∀ h p, recv m h p = true → (asDict h p).isSome = true) : OfT m "dict" := fun {X pins σ H s L h p x v} I hr vp rx e => by
  obtain ⟨es, e1⟩ := Option.isSome_iff_exists.mp (hm _ _ e)
  obtain ⟨a, rfl, d⟩ := vp.dict hr e1
  cases rx
  obtain ⟨h1, h2⟩ := dict_typ I d
  exact ⟨h1, fun b eb => by cases eb; exact h2⟩
theorem ofT_list {m : Mth} (hm : ∀ h p, recv m h p = true → (asList h p).isSome = true) : OfT m "list" := fun {X pins σ H s L h p x v} I hr vp rx e => by
  obtain ⟨es, e1⟩ := Option.isSome_iff_exists.mp (hm _ _ e)
  obtain ⟨a, vs, rfl, h1, h2⟩ := vp.list hr e1
  exact tyV_is I rx (.inl ⟨rfl, vs, .inl h1⟩)
theorem se_meth (tyOk : OfT m T) (pa : PlainAttrs T) (slot : Slot T name id) (hty : typeOf (.builtin id) = pure (.type "method_descriptor")) (hm : MtR X id (rMth X m)) (ho : PE X o (rE X f)) (ha : PA X (a :: es) (rA X fs)) (hok : (a :: es).all okArg = true) (hl : (a :: es).length < 30)
    (hbase : okBase o = true) (hline : (apos.endLine == cpos.line) = true) : PE X (.Call (.Attribute o name apos) (a :: es) [] cpos) (rE X (methF m f fs)) := by
  have hall : ∀ (l : List Expr), l.all okArg = true → (backTo cpos (starEach l X.env)).all (fun x => !x.1) = true := fun l hl => by
    have := plain_all (pos := cpos) (env := X.env) hl
    rw [List.any_eq_false] at this
    rw [List.all_eq_true]
    intro x hx
    simpa using this x hx
  have hfew : ((backTo cpos (starEach (a :: es) X.env)).all (fun x => !x.1) && (backToKw cpos (keywordEach [] X.env)).all (fun x => x.1.isSome)
      && decide ((a :: es).length + ([] : List Keyword).length + (if ([] : List Keyword).isEmpty then 0 else 1) < 30)) = true := by
    rw [hall _ hok]
    have : (a :: es).length + ([] : List Keyword).length + (if ([] : List Keyword).isEmpty then 0 else 1) < 30 := by simpa using hl
    rw [decide_eq_true this]
    rfl
  rw [List.all_cons, Bool.and_eq_true] at hok
  have hs := star_ok hok.1 es X.env
  have hplain := plain_all (pos := cpos) (env := X.env) hok.2
  refine ⟨fun pins s σ H Q I ⟨L, h, env, v, h', hr, er, e, post⟩ => ?_⟩
  obtain ⟨p, h1, e1, e2⟩ := R.bind_eq_ok e
  split at e2
  · rename_i hrec
    obtain ⟨ps, h2, e3, e4⟩ := R.bind_eq_ok e2
    refine wpAny_Call_method_late (base_ok hbase _ _ _) hfew hline rfl (thn (ho.run pins s σ H (fun x H1 => ∃ L1, Ext L H L1 H1 ∧ HR (wd X) L1 h1 H1 ∧ VR (wd X) L1 H1 p x) I ⟨L, h, env, p, h1, hr, er, e1, fun x L1 H1 x1 hr1 v1 => ⟨L1, x1, hr1, v1⟩⟩) fun u s1 ⟨x, H1, I1, r1, L1, x1, hr1, v1⟩ => ?_)
    obtain ⟨t1, t2⟩ := tyOk I1 hr1 v1 r1 hrec
    refine ⟨T, id, pa, slot, hty, t1, t2, ?_⟩
    have hA := ha.run cpos pins s1 σ H1 (fun xs H2 => ∃ L2, Ext L1 H1 L2 H2 ∧ HR (wd X) L2 h2 H2 ∧ VRs (wd X) L2 H2 ps xs) I1 ⟨L1, h1, env, ps, h2, hr1, er.mono x1, e3, fun xs L2 H2 x2 hr2 v2 => ⟨L2, x2, hr2, v2⟩⟩
    rw [hs] at hA ⊢
    refine Calls.callWith_builtin (by show (false || (backTo cpos (starEach es X.env)).any (·.1)) = false; rw [hplain]; rfl) (Calls.evalArgs_plain ?_)
    refine thn hA fun us s2 ⟨xs, H2, I2, r2, L2, x2, hr2, v2⟩ => hm pins s2 σ H2 x xs u us Q I2 r1 r2 ⟨L2, h2, p, ps, v, h', hr2, v1.mono x2, v2, e4, post.aft hr (x1.tr hr x2)⟩
  · cases e2
theorem se_meth0 (tyOk : OfT m T) (pa : PlainAttrs T) (slot : Slot T name id) (hty : typeOf (.builtin id) = pure (.type "method_descriptor")) (hm : MtR X id (rMth X m)) (ho : PE X o (rE X f))
    (hbase : okBase o = true) (hline : (apos.endLine == cpos.line) = true) : PE X (.Call (.Attribute o name apos) [] [] cpos) (rE X (methF m f nilF)) := by
  refine ⟨fun pins s σ H Q I ⟨L, h, env, v, h', hr, er, e, post⟩ => ?_⟩
  obtain ⟨p, h1, e1, e2⟩ := R.bind_eq_ok e
  split at e2
  · rename_i hrec
    obtain ⟨ps, h2, e3, e4⟩ := R.bind_eq_ok e2
    cases e3
    refine wpAny_Call_method0_late (base_ok hbase _ _ _) hline (thn (ho.run pins s σ H (fun x H1 => ∃ L1, Ext L H L1 H1 ∧ HR (wd X) L1 h1 H1 ∧ VR (wd X) L1 H1 p x) I ⟨L, h, env, p, h1, hr, er, e1, fun x L1 H1 x1 hr1 v1 => ⟨L1, x1, hr1, v1⟩⟩) fun u s1 ⟨x, H1, I1, r1, L1, x1, hr1, v1⟩ => ?_)
    obtain ⟨t1, t2⟩ := tyOk I1 hr1 v1 r1 hrec
    exact ⟨T, id, pa, slot, hty, t1, t2, Calls.callWith_builtin rfl (PySem.evalArgs_none (hm pins s1 σ H1 x [] u [] Q I1 r1 .nil ⟨L1, h1, p, [], v, h', hr1, v1, .nil, e4, post.aft hr x1⟩))⟩
  · cases e2
end
end HW
/-! HwO: reversed slices, the empty dict. -/
namespace HW
open PySem PySem.Spec PyProof.Rows L2 C8 HT

theorem adjust_rev (n : Nat) : Builtin.Slice.sliceAdjust none none (-1) (n : Int) = ((n : Int) - 1, -1) := by
  unfold Builtin.Slice.sliceAdjust
  simp
theorem places_rev (n : Nat) : Builtin.Slice.slicePlaces ((n : Int) - 1) (-1) (-1) = n := by
  unfold Builtin.Slice.slicePlaces
  have h1 : ¬ ((-1 : Int) > 0) := by omega
  simp only [h1, if_false]
  split
  · rw [show (- -1 : Int) = 1 by decide, Int.ediv_one]; omega
  · omega
theorem pick_rev (xs : Array Value) : ((List.range xs.size).filterMap fun (m : Nat) => xs[(((xs.size : Nat) : Int) - 1 + (m : Int) * (-1)).toNat]?).toArray = xs.toList.reverse.toArray := by
  congr 1
  apply List.ext_getElem?
  intro i
  have key : ((List.range xs.size).filterMap fun (m : Nat) => xs[(((xs.size : Nat) : Int) - 1 + (m : Int) * (-1)).toNat]?) = (List.range xs.size).pmap (fun m (h : m < xs.size) => xs[xs.size - 1 - m]'(by omega)) (fun m hm => List.mem_range.mp hm) := by
    have : ∀ (l : List Nat) (h : ∀ m ∈ l, m < xs.size), (l.filterMap fun (m : Nat) => xs[(((xs.size : Nat) : Int) - 1 + (m : Int) * (-1)).toNat]?) = l.pmap (fun m (h : m < xs.size) => xs[xs.size - 1 - m]'(by omega)) h := by
      intro l h
      induction l with
      | nil => rfl
      | cons m l ih =>
        have hm := h m (by simp)
        have e : (((xs.size : Nat) : Int) - 1 + (m : Int) * (-1)).toNat = xs.size - 1 - m := by omega
        rw [List.filterMap_cons, e, Array.getElem?_eq_getElem (by omega), List.pmap_cons, ih fun m hm => h m (by simp [hm])]
    exact this _ fun m hm => List.mem_range.mp hm
  rw [key]
  by_cases hi : i < xs.size
  · rw [List.getElem?_pmap]
    rw [List.getElem?_reverse (by simpa using hi)]
    simp [hi]
  · rw [List.getElem?_eq_none (by simpa using hi), List.getElem?_eq_none (by simpa using hi)]
section
variable {prog : Program} {w : World} {A : Around} {E : Value → Shared → Prop} {s : Shared}
theorem sliceApplied_rev {sl : Addr} {vl vu vs : Value} {n : Nat} {Q : Int × Int × Nat → Shared → Prop} (hs : s.heap.IsSliceOf sl vl vu vs) (pl : IsPart vl none) (pu : IsPart vu none) (ps : IsPart vs (some (-1)))
    (h : Q ((n : Int) - 1, -1, n) s) : wpAny (model prog w) A (Builtin.Slice.sliceApplied (.ref sl) (pure (n : Int))) Q E s := by
  obtain ⟨os, hos, hcs, hds⟩ := id hs
  unfold Builtin.Slice.sliceApplied Builtin.Slice.sliceFields
  refine wpAny_bind (wpAny_bind (wpAny_field hos hds (x := vl) rfl (wpAny_bind (wpAny_field hos hds (x := vu) rfl (wpAny_bind (wpAny_field hos hds (x := vs) rfl (wpAny_pure ?_)))))))
  refine wpAny_bind (slicePart_ ps ?_)
  show wpAny _ _ (if ((-1 : Int) == 0) = true then _ else _) _ _ s
  rw [if_neg (by decide)]
  refine wpAny_bind (slicePart_ pl (wpAny_bind (slicePart_ pu (wpAny_bind (wpAny_pure ?_)))))
  show wpAny _ _ (match Builtin.Slice.sliceAdjust none none (-1) (n : Int) with | (lo, hi) => pure (lo, (-1 : Int), Builtin.Slice.slicePlaces lo hi (-1))) _ _ s
  rw [adjust_rev n]
  show wpAny _ _ (pure (((n : Int) - 1), (-1 : Int), Builtin.Slice.slicePlaces ((n : Int) - 1) (-1) (-1))) _ _ s
  rw [places_rev]
  exact wpAny_pure h
theorem getItem_tuple_rev {t sl : Addr} {items : Array Value} {vl vu vs : Value} {Q : Value → Shared → Prop} (ht : IsTup s.heap t items) (hs : s.heap.IsSliceOf sl vl vu vs) (pl : IsPart vl none) (pu : IsPart vu none) (ps : IsPart vs (some (-1)))
    (h : Q (.ref s.heap.objs.size) { s with heap := s.heap.push { cls := .type "tuple", data := .seq items.toList.reverse.toArray } })
    (hsz : items.size ≤ sizeLine) : wpAny (model prog w) A (getItem (.ref t) (.ref sl)) Q E s := by
  have htake : sizeOk (.seq items.toList.reverse.toArray) := by
    show items.toList.reverse.toArray.size ≤ sizeLine
    rw [List.size_toArray, List.length_reverse, Array.length_toList]
    exact hsz
  obtain ⟨os, hos, hcs, hds⟩ := id hs
  have hTs : s.TypeIs (.ref sl) "slice" := ⟨os, hos, hcs⟩
  unfold getItem
  try with_reducible refine wpAny_holding ?_
  first | refine wpAny_bind (wpAny_pure ?_) | skip
  refine wpAny_bind (wpAny_sequenceKey ht.typeIs (by decide) ?_)
  refine wpAny_bind (wpAny_callSpecial?_slot (name := Str.ofString "__getitem__") ht.typeIs PyProof.Rows.slot_tuple_getitem
    (wpAny_call_entry PyProof.Rows.slot_tuple_getitem ht.typeIs entry_tuple_getitem ?_ (args_tuple_getitem _ _)))
  show wpAny _ _ (Builtin.Tuple.tupleItemsOf (.ref t) >>= _) _ _ s
  refine wpAny_bind (tupleItemsOf_ ht ?_)
  refine wpAny_bind (wpAny_typeOf hTs ?_)
  rw [if_pos (by decide)]
  refine wpAny_bind (sliceApplied_rev hs pl pu ps ?_)
  have hno : ¬ ((((items.size : Nat) : Int) - 1 == 0 && (-1 : Int) == 1 && (items.size == items.size)) = true) := by simp
  show wpAny _ _ (if (((items.size : Nat) : Int) - 1 == 0 && (-1 : Int) == 1 && (items.size == items.size)) = true then _ else _) _ _ s
  rw [if_neg hno, pick_rev]
  first
    | exact wpAny_bind (m := Builtin.Tuple.tupleExact _) (wpAny_newObj_type (wpAny_pure ⟨_, rfl, wpAny_pure h⟩) htake)
    | exact wpAny_bind (m := Builtin.Tuple.tupleExact _) (wpAny_newObj_type (wpAny_bind (wpAny_pure (wpAny_pure ⟨_, rfl, wpAny_pure h⟩))) htake)
    | exact wpAny_bind (wpAny_bind (m := Builtin.Tuple.tupleExact _) (wpAny_newObj_type (wpAny_pure (wpAny_pure ⟨_, rfl, wpAny_pure h⟩)) htake))
    | exact wpAny_bind (wpAny_bind (m := Builtin.Tuple.tupleExact _) (wpAny_newObj_type (wpAny_pure ⟨_, rfl, wpAny_pure h⟩) htake))
end
section
variable {X : Cx} {a st : Expr} {f g : Env → PHeap → R PV} {pos p3 : Pos}
def revF (f g : Env → PHeap → R PV) : Env → PHeap → R PV := fun env h => (f env h).bind fun x h => (g env h).bind fun y h => R.of (if y = .int (-1) then revOf h x else none) h
theorem se_rev (ha : PE X a (rE X f)) (hs : PE X st (rE X g)) : PE X (.Subscript a (.Slice none none (some st) p3) pos) (rE X (revF f g)) := by
  refine ⟨fun pins s σ H Q I ⟨L, h, env, v, h', hr, er, e, post⟩ => ?_⟩
  obtain ⟨p, h1, e1, e⟩ := R.bind_eq_ok e
  obtain ⟨y, h2, e2, e⟩ := R.bind_eq_ok e
  obtain ⟨e9, rfl⟩ := R.of_eq_ok e
  clear e
  split at e9
  · rename_i hy
    subst hy
    refine Subscript_ (thn (ha.run pins s σ H (fun x H1 => ∃ L1, Ext L H L1 H1 ∧ HR (wd X) L1 h1 H1 ∧ VR (wd X) L1 H1 p x) I ⟨L, h, env, p, h1, hr, er, e1, fun x L1 H1 x1 hr1 v1 => ⟨L1, x1, hr1, v1⟩⟩) fun u s1 ⟨x, H1, I1, r1, L1, x1, hr1, v1⟩ => ?_)
    have hst := so_some hs
    refine wpAny_Slice (thn (po_none.run pins s1 σ H1 (fun o H2 => o = none ∧ H2 = H1) I1 ⟨rfl, rfl⟩) fun vl s2 ⟨l, H2, I2, pl, el, e2'⟩ => ?_)
    subst el e2'
    refine thn (po_none.run pins s2 σ H2 (fun o H3 => o = none ∧ H3 = H2) I2 ⟨rfl, rfl⟩) fun vu s3 ⟨u', H3, I3, pu, eu, e3⟩ => ?_
    subst eu e3
    refine thn (hst.run pins s3 σ H3 (fun o H4 => o = some (-1) ∧ ∃ L4, Ext L1 H3 L4 H4 ∧ HR (wd X) L4 h' H4) I3 ⟨L1, h1, env, some (-1), h', hr1, er.mono x1, by unfold someF; rw [e2]; rfl, fun L4 H4 x4 hr4 => ⟨rfl, L4, x4, hr4⟩⟩) fun vs s4 ⟨o, H4, I4, ps, eo, L4, x4, hr4⟩ => ?_
    subst eo
    have xx := x1.tr hr x4
    have v4 := v1.mono x4
    have I5 : Inv X pins σ H4 { s4 with heap := s4.heap.push { cls := .type "slice", data := .fields #[vl, vu, vs] } } := I4.kept (t' := s4.toks) fun b ob q => Heap.get?_push_of_some _ q
    show wpAny (model X.prog X.w) X.A (subscriptTail a (.Slice none none (some st) p3) u (.ref s4.heap.objs.size)) (EP X pins σ Q) X.xe { s4 with heap := s4.heap.push { cls := .type "slice", data := .fields #[vl, vu, vs] } }
    unfold revOf at e9
    split at e9
    · cases e9
      cases v4 with
      | tup h1 h2 h3 =>
        cases r1
        obtain ⟨its, r, ht, hz⟩ := I5.tuple (TupAt.sq h1)
        have hlen := r.length
        refine tail_any (T := "tuple") (id := "tuple.__getitem__") (ops := [.ref _, .ref s4.heap.objs.size]) ht.typeIs (PyProof.Rows.slot_tuple_getitem.lookup) ?_ (by with_unfolding_all rfl)
        refine getItem_tuple_rev ht (Heap.IsSliceOf.new _ vl vu vs) pl pu ps ?_ (by rw [List.size_toArray]; omega)
        exact tup_ep I5 hr4 (post.aft hr xx) h3.reverse r.reverse (by rw [List.length_reverse]; exact hz) s4.toks
    · obtain ⟨xs, ex, rfl⟩ := Option.map_eq_some_iff.mp e9
      obtain ⟨a', vs', rfl, h1, h2⟩ := v4.list hr4 ex
      cases r1
      obtain ⟨its, r, ht, hz⟩ := I5.list (sqr h1)
      have hlen := r.length
      refine tail_any (ops := [.ref _, .ref s4.heap.objs.size]) ht.isList.typeIs (PySem.slot_list_getitem.lookup) ?_ (by with_unfolding_all rfl)
      refine wpAny_getItem_list_slice ht.isList (Heap.IsSliceOf.new _ vl vu vs) pl pu ps (by decide) ?_ (by rw [List.size_toArray]; omega)
      rw [PySem.W.krv_pick]
      refine mk_ep (al := false) (I5.laid (t' := s4.toks) (o := .lst vs'.reverse) (fun b ob q => Heap.get?_push_of_some _ q) (Nat.le_refl _) ?_) (I5.hok.fresh (Nat.le_refl _)) rfl (post.aft hr xx) hr4 h2.reverse
      exact ⟨by rw [List.length_reverse]; exact hz, _, 0, r.reverse, Heap.get?_push_size _ rfl⟩
  · cases e9
/-- {} -/
theorem se_dct0 {al : Bool} : PE X (.Dict [] [] pos) (rE X fun env h => mkDict al [] h) := by
  refine ⟨fun pins s σ H Q I ⟨L, h, env, v, h', hr, er, e, post⟩ => ?_⟩
  have hs : (s.heap.objs.size == sysModules) = false := by
    rw [beq_eq_false_iff_ne]
    exact Nat.ne_of_gt I.big
  refine wpAny_Dict_empty ?_
  have dd : (s.heap.push { cls := .type "dict", data := .dict #[] }).DictOf (mixKind X.prog X.w) s.heap.objs.size [] := Heap.DictOf.new ..
  exact ep_dict (tk := s.toks) I e post hr (fun b o q => Heap.get?_push_of_some _ q) ⟨_, Heap.get?_push_size _ rfl⟩ (fun _ => dk_new (Nat.zero_le _) hs .nil dd) fun L' o' ex W hW => DP.ofK hW .nil
end
end HW
/-! HwP: what is walked. -/
namespace HW
open PySem PySem.Spec PyProof.Rows L2 C8 RZ

/-- what is fixed stays *)-/
structure ExtW (L : List Addr) (H : Hp) (L' : List Addr) (H' : Hp) : Prop where
  pre : ∃ M, L' = L ++ M ∧ ∀ a ∈ M, ∀ o u, H a ≠ some (.frz o u)
  frz : ∀ a o u, H a = some (.frz o u) → H' a = some (.frz o u)
section
variable {Z : Wd} {L L' L'' : List Addr} {H H' H'' : Hp}
theorem Ext.w (e : Ext L H L' H') : ExtW L H L' H' := ⟨let ⟨M, h1, h2⟩ := e.pre; ⟨M, h1, fun a ha o u q => by rw [h2 a ha] at q; cases q⟩, e.frz⟩
theorem ExtW.refl : ExtW L H L H := (Ext.refl : Ext L H L H).w
theorem ExtW.trE (e : ExtW L H L' H') (f : Ext L' H' L'' H'') : ExtW L H L'' H'' := by
  obtain ⟨M, rfl, hM⟩ := e.pre
  obtain ⟨N, rfl, hN⟩ := f.pre
  refine ⟨⟨M ++ N, by simp, fun a ha o u q => ?_⟩, fun a o u q => f.frz _ _ _ (e.frz _ _ _ q)⟩
  rcases List.mem_append.mp ha with x | x
  · exact hM a x o u q
  · have := e.frz _ _ _ q
    rw [hN a x] at this
    cases this
theorem ExtW.touch {D : Addr} {o : HO} (e : ExtW L H L' H') (hf : NF H' D) : ExtW L H L' (upd H' D o) := ⟨e.pre, fun a o' u q => by
  have := e.frz _ _ _ q
  rw [upd_ne fun x => hf o' u (by rw [← x]; exact this)]
  exact this⟩
theorem ExtW.mem (e : ExtW L H L' H') {a : Addr} {o : Obj} {u : HO} (hn : a ∉ L) (ho : H a = some (.frz o u)) : a ∉ L' := by
  obtain ⟨M, rfl, hM⟩ := e.pre
  intro q
  rcases List.mem_append.mp q with q | q
  · exact hn q
  · exact hM a q o u ho
theorem ExtW.get (e : ExtW L H L' H') {n : Nat} {a : Addr} (x : L[n]? = some a) : L'[n]? = some a := by
  obtain ⟨M, rfl, hM⟩ := e.pre
  obtain ⟨hl, rfl⟩ := List.getElem?_eq_some_iff.mp x
  rw [List.getElem?_append_left hl]
  exact x
theorem ExtW.tup (e : ExtW L H L' H') {a : Addr} {vs : List V} (hn : a ∉ L) (x : TupAt H a vs) : TupAt H' a vs ∧ a ∉ L' := by
  obtain ⟨o, h1, h2⟩ := x
  exact ⟨⟨o, e.frz _ _ _ h1, h2⟩, e.mem hn h1⟩
theorem ExtW.fz (e : ExtW L H L' H') {a : Addr} {u : HO} (hn : a ∉ L) (x : FzAt H a u) : FzAt H' a u ∧ a ∉ L' := let ⟨o, h⟩ := x; ⟨⟨o, e.frz _ _ _ h⟩, e.mem hn h⟩
mutual
theorem VR.monW (e : ExtW L H L' H') : ∀ {p : PV} {v : V}, VR Z L H p v → VR Z L' H' p v
  | _, _, .non => .non
  | _, _, .bl b => .bl b
  | _, _, .int b => .int b
  | _, _, .str b => .str b
  | _, _, .tup h1 h2 h3 => .tup (e.tup h2 h1).1 (e.tup h2 h1).2 (VRs.monW e h3)
  | _, _, .lst h1 h2 h3 => .lst (e.fz h2 h1).1 (e.fz h2 h1).2 (VRs.monW e h3)
  | _, _, .scr h1 h2 => .scr (e.fz h2 h1).1 (e.fz h2 h1).2
  | _, _, .scrK h1 => .scrK h1
  | _, _, .dctK h1 h2 h3 h4 => .dctK (e.fz h2 h1).1 (e.fz h2 h1).2 h3 (VRs.monW e h4)
  | _, _, .dctT h1 h2 h0 h3 h4 h5 h6 => .dctT (e.fz h2 h1).1 (e.fz h2 h1).2 h0 h3 h4 (VRs.monW e h5) (VRs.monW e h6)
  | _, _, .ref h1 => .ref (e.get h1)
theorem VRs.monW (e : ExtW L H L' H') : ∀ {p : List PV} {v : List V}, VRs Z L H p v → VRs Z L' H' p v
  | _, _, .nil => .nil
  | _, _, .cons h1 h2 => .cons (VR.monW e h1) (VRs.monW e h2)
end
theorem ER.monW {env : Env} {σ : L2.St} (e : ExtW L H L' H') (x : ER Z L H env σ) : ER Z L' H' env σ := ⟨x.len, fun i v h1 => let ⟨y, h2, h3⟩ := x.at_ i v h1; ⟨y, h2, h3.monW e⟩⟩
end
/-- what a walk gives: any value, or a tuple that is only taken apart -/
def YR (Z : Wd) (L : List Addr) (H : Hp) (t : Bool) (p : PV) (x : V) : Prop := match t with
  | false => VR Z L H p x
  | true => ∃ ys a vs, (p = .tup ys ∧ SqT Z.K H a vs ∨ p = .lst ys ∧ SqL Z.K H a vs) ∧ x = .ref a ∧ VRs Z L H ys vs
def WalkOk (Z : Wd) (t : Bool) (L : List Addr) (H : Hp) (J : It) (xs : List PV) (chk : Chk) : Prop :=
  ∀ i L' H' g, ExtW L H L' H' → HR Z L' g H' → chk g = true →
    (i = xs.length → J.stop i H') ∧ ∀ p, xs[i]? = some p → J.go i H' ∧ ∀ v H'', J.yld i H' v H'' → Ext L' H' L' H'' ∧ HR Z L' g H'' ∧ YR Z L' H'' t p v
def rI (X : Cx) (t : Bool) (f : Env → PHeap → R (List PV × Chk)) : TI := fun σ H R => ∃ L h env p h', HR (wd X) L h H ∧ ER (wd X) L H env σ ∧ f env h = .ok p h' ∧ ∀ J L' H', Ext L H L' H' → HR (wd X) L' h' H' → WalkOk (wd X) t L' H' J p.1 p.2 → R J H'
theorem imI {X : Cx} {tg it : Expr} {t t' : TI} (h : PI X tg it t) (i : ∀ σ H R, t' σ H R → t σ H R) : PI X tg it t' := ⟨fun pins s σ H R I q => h.run pins s σ H R I (i σ H R q)⟩
section
variable {Z : Wd} {L : List Addr} {H : Hp} {xs : List PV} {chk : Chk}
theorem walk_tup {a : Addr} {vs : List V} (h1 : TupAt H a vs) (hn : a ∉ L) (v : VRs Z L H xs vs) : WalkOk Z false L H (Itt Z.K a) xs chk := fun i L' H' g ex hr _ => by
  have h2 := (ex.tup hn h1).1
  have v' := v.monW ex
  refine ⟨fun e => ⟨vs, h2.sq, by rw [v'.length]; omega⟩, fun p hp => ?_⟩
  obtain ⟨x, hx, vx⟩ := v'.get' hp
  refine ⟨⟨vs, x, h2.sq, hx⟩, fun u H'' y => ?_⟩
  obtain ⟨rfl, y⟩ := y
  have := y vs h2.sq
  rw [hx] at this
  cases this
  exact ⟨Ext.refl, hr, vx⟩
/-- a list that is known to be there as long as chk holds -/
theorem walk_lst {a : Addr} (hk : ∀ L' H' g, ExtW L H L' H' → HR Z L' g H' → chk g = true → ∃ vs, Rd H' a (.lst vs) ∧ VRs Z L' H' xs vs) : WalkOk Z false L H (Itl Z.K a) xs chk := fun i L' H' g ex hr hc => by
  obtain ⟨vs, h2, v'⟩ := hk L' H' g ex hr hc
  refine ⟨fun e => ⟨vs, sqr h2, by rw [v'.length]; omega⟩, fun p hp => ?_⟩
  obtain ⟨x, hx, vx⟩ := v'.get' hp
  refine ⟨⟨vs, x, sqr h2, hx⟩, fun u H'' y => ?_⟩
  obtain ⟨rfl, y⟩ := y
  have := y vs (sqr h2)
  rw [hx] at this
  cases this
  exact ⟨Ext.refl, hr, vx⟩
/-- the list that stands behind a source -/
theorem list_at {h : PHeap} {p : PV} {x : V} (hr : HR Z L h H) (v : VR Z L H p x) (e : listSrc h p = some (xs, chk)) :
    ∃ a vs, x = .ref a ∧ Rd H a (.lst vs) ∧ ∀ L' H' g, ExtW L H L' H' → HR Z L' g H' → chk g = true → ∃ vs, Rd H' a (.lst vs) ∧ VRs Z L' H' xs vs := by
  unfold listSrc at e
  split at e
  · cases e
    cases v with
    | lst h1 h2 h3 => exact ⟨_, _, rfl, .inr h1, fun L' H' g ex _ _ => ⟨_, .inr (ex.fz h2 h1).1, h3.monW ex⟩⟩
  · rename_i n
    split at e
    · rename_i ys hc
      cases e
      obtain ⟨a, vs, rfl, hn, hm, h1, h2⟩ := live_lst hr v hc
      refine ⟨a, vs, rfl, .inl h1, fun L' H' g ex hr' ck => ?_⟩
      obtain ⟨vs', g1, g2⟩ := hr'.cell _ _ _ (of_decide_eq_true ck) (ex.get hn)
      exact ⟨vs', .inl g1, g2⟩
    · cases e
  · cases e
/-! ### the keys, the values, the pairs of a fixed dict -/
def ItK (d : Addr) (o : Obj) (ks : List V) : It := ⟨fun i H => (∃ u, H d = some (.frz o u)) ∧ i < ks.length, fun i H x H' => H' = H ∧ ks[i]? = some x, fun i H => (∃ u, H d = some (.frz o u)) ∧ ks.length ≤ i⟩
def ItP (d : Addr) (o : Obj) (ks vs : List V) : It := ⟨fun i H => (∃ u, H d = some (.frz o u)) ∧ i < ks.length ∧ i < vs.length,
  fun i H x H' => ∃ T k v, ks[i]? = some k ∧ vs[i]? = some v ∧ x = .ref T ∧ H T = none ∧ H' = upd H T (.tup [k, v]), fun i H => (∃ u, H d = some (.frz o u)) ∧ ks.length ≤ i⟩
theorem walk_keys {d : Addr} {o : Obj} {u : HO} {ks : List V} (h1 : H d = some (.frz o u)) (v : VRs Z L H xs ks) : WalkOk Z false L H (ItK d o ks) xs chk := fun i L' H' g ex hr _ => by
  have h2 := ex.frz _ _ _ h1
  have v' := v.monW ex
  refine ⟨fun e => ⟨⟨_, h2⟩, by rw [v'.length]; omega⟩, fun p hp => ?_⟩
  obtain ⟨x, hx, vx⟩ := v'.get' hp
  refine ⟨⟨⟨_, h2⟩, (List.getElem?_eq_some_iff.mp hx).1⟩, fun u H'' y => ?_⟩
  obtain ⟨rfl, y⟩ := y
  rw [hx] at y
  cases y
  exact ⟨Ext.refl, hr, vx⟩
theorem yr_pair {L' : List Addr} {H' : Hp} {g : PHeap} {T : Addr} {x y : V} {p q : PV} (hr : HR Z L' g H') (hT : H' T = none) (v1 : VR Z L' H' p x) (v2 : VR Z L' H' q y) :
    Ext L' H' L' (upd H' T (.tup [x, y])) ∧ HR Z L' g (upd H' T (.tup [x, y])) ∧ YR Z L' (upd H' T (.tup [x, y])) true (.tup [p, q]) (.ref T) :=
  ⟨ext_new hT, hr.new hT, [p, q], T, [x, y], .inl ⟨rfl, SqT.of upd_same⟩, rfl, .cons (v1.mono (ext_new hT)) (.cons (v2.mono (ext_new hT)) .nil)⟩
theorem walk_pairs {d : Addr} {o : Obj} {u : HO} {ks vs : List V} {es : List (PV × PV)} (h1 : H d = some (.frz o u)) (v : VRs Z L H (es.map (·.1)) ks) (w : VRs Z L H (es.map (·.2)) vs) : WalkOk Z true L H (ItP d o ks vs) (es.map fun e => .tup [e.1, e.2]) chk := fun i L' H' g ex hr _ => by
  have h2 := ex.frz _ _ _ h1
  have v' := v.monW ex
  have w' := w.monW ex
  refine ⟨fun e => ⟨⟨_, h2⟩, by rw [v'.length]; simpa using Nat.le_of_eq e.symm⟩, fun p hp => ?_⟩
  rw [List.getElem?_map] at hp
  obtain ⟨e, he, rfl⟩ := Option.map_eq_some_iff.mp hp
  obtain ⟨x, hx, vx⟩ := v'.get' (i := i) (y := e.1) (by rw [List.getElem?_map, he]; rfl)
  obtain ⟨y, hy, vy⟩ := w'.get' (i := i) (y := e.2) (by rw [List.getElem?_map, he]; rfl)
  refine ⟨⟨⟨_, h2⟩, (List.getElem?_eq_some_iff.mp hx).1, (List.getElem?_eq_some_iff.mp hy).1⟩, fun u H'' yl => ?_⟩
  obtain ⟨T, k, z, e1, e2, rfl, hT, rfl⟩ := yl
  rw [hx] at e1
  rw [hy] at e2
  cases e1
  cases e2
  exact yr_pair hr hT vx vy
theorem walk_enum {a : Addr} (hk : ∀ L' H' g, ExtW L H L' H' → HR Z L' g H' → chk g = true → ∃ vs, Rd H' a (.lst vs) ∧ VRs Z L' H' xs vs) : WalkOk Z true L H (Ite Z.K a) (enumOf xs) chk := fun i L' H' g ex hr hc => by
  obtain ⟨vs, h2, v'⟩ := hk L' H' g ex hr hc
  unfold enumOf
  refine ⟨fun e => ⟨vs, sqr h2, by rw [v'.length]; simpa using Nat.le_of_eq e.symm⟩, fun p hp => ?_⟩
  rw [List.getElem?_mapIdx] at hp
  obtain ⟨q, hq, rfl⟩ := Option.map_eq_some_iff.mp hp
  obtain ⟨x, hx, vx⟩ := v'.get' hq
  refine ⟨⟨vs, x, sqr h2, hx⟩, fun u H'' y => ?_⟩
  obtain ⟨T, x', rfl, hT, rfl, y⟩ := y
  have := y vs (sqr h2)
  rw [hx] at this
  cases this
  exact yr_pair hr hT (.int _) vx
theorem zip_get {xs ys : List PV} {i : Nat} {p : PV} (h : (zipOf xs ys)[i]? = some p) : ∃ x y, xs[i]? = some x ∧ ys[i]? = some y ∧ p = .tup [x, y] := by
  unfold zipOf at h
  rw [List.getElem?_zipWith] at h
  cases hx : xs[i]? with
  | none => rw [hx] at h; cases h
  | some x =>
    cases hy : ys[i]? with
    | none => rw [hx, hy] at h; cases h
    | some y => rw [hx, hy] at h; cases h; exact ⟨x, y, rfl, rfl, rfl⟩
theorem zip_len (xs ys : List PV) : (zipOf xs ys).length = min xs.length ys.length := by unfold zipOf; exact List.length_zipWith
theorem walk_zip {a b : Addr} {ys : List PV} {c c' : Chk} (hk : ∀ L' H' g, ExtW L H L' H' → HR Z L' g H' → c g = true → ∃ vs, Rd H' a (.lst vs) ∧ VRs Z L' H' xs vs)
    (hk' : ∀ L' H' g, ExtW L H L' H' → HR Z L' g H' → c' g = true → ∃ vs, Rd H' b (.lst vs) ∧ VRs Z L' H' ys vs) (hc : ∀ g, chk g = true → c g = true ∧ c' g = true) : WalkOk Z true L H (Itz Z.K a b) (zipOf xs ys) chk := fun i L' H' g ex hr ck => by
  obtain ⟨vs, h2, v'⟩ := hk L' H' g ex hr (hc g ck).1
  obtain ⟨ws, h3, w'⟩ := hk' L' H' g ex hr (hc g ck).2
  refine ⟨fun e => ⟨vs, ws, sqr h2, sqr h3, by rw [v'.length, w'.length, e, zip_len]; omega⟩, fun p hp => ?_⟩
  obtain ⟨q, q', h4, h5, rfl⟩ := zip_get hp
  obtain ⟨x, hx, vx⟩ := v'.get' h4
  obtain ⟨y, hy, vy⟩ := w'.get' h5
  refine ⟨⟨vs, ws, x, y, sqr h2, sqr h3, hx, hy⟩, fun u H'' yl => ?_⟩
  obtain ⟨T, x', y', rfl, hT, rfl, e1, e2⟩ := yl
  have e1 := e1 vs (sqr h2)
  have e2 := e2 ws (sqr h3)
  rw [hx] at e1
  rw [hy] at e2
  cases e1
  cases e2
  exact yr_pair hr hT vx vy
theorem walk_zipT {a b : Addr} {ys : List PV} {vs ws : List V} (h1 : TupAt H a vs) (n1 : a ∉ L) (v : VRs Z L H xs vs) (h2 : TupAt H b ws) (n2 : b ∉ L) (w : VRs Z L H ys ws) : WalkOk Z true L H (ItzT Z.K a b) (zipOf xs ys) chk := fun i L' H' g ex hr ck => by
  have h2' := (ex.tup n1 h1).1.sq (K := Z.K)
  have h3' := (ex.tup n2 h2).1.sq (K := Z.K)
  have v' := v.monW ex
  have w' := w.monW ex
  refine ⟨fun e => ⟨vs, ws, h2', h3', by rw [v'.length, w'.length, e, zip_len]; omega⟩, fun p hp => ?_⟩
  obtain ⟨q, q', h4, h5, rfl⟩ := zip_get hp
  obtain ⟨x, hx, vx⟩ := v'.get' h4
  obtain ⟨y, hy, vy⟩ := w'.get' h5
  refine ⟨⟨vs, ws, x, y, h2', h3', hx, hy⟩, fun u H'' yl => ?_⟩
  obtain ⟨T, x', y', rfl, hT, rfl, e1, e2⟩ := yl
  have e1 := e1 vs h2'
  have e2 := e2 ws h3'
  rw [hx] at e1
  rw [hy] at e2
  cases e1
  cases e2
  exact yr_pair hr hT vx vy
theorem walk_rng {lo hi : Int} (e : rangeOf lo hi = some xs) : WalkOk Z false L H (Itr lo (hi - lo).toNat) xs chk := fun i L' H' g ex hr ck => by
  unfold rangeOf at e
  split at e
  · cases e
    refine ⟨fun e => (show (hi - lo).toNat ≤ i by rw [e, List.length_map, List.length_range]; exact Nat.le_refl _), fun p hp => ?_⟩
    rw [List.getElem?_map] at hp
    obtain ⟨q, hq, rfl⟩ := Option.map_eq_some_iff.mp hp
    obtain ⟨hl, e2⟩ := List.getElem?_eq_some_iff.mp hq
    rw [List.getElem_range] at e2
    subst e2
    refine ⟨(show i < (hi - lo).toNat by rw [List.length_range] at hl; exact hl), fun u H'' y => ?_⟩
    obtain ⟨rfl, rfl⟩ := y
    exact ⟨Ext.refl, hr, .int _⟩
  · cases e
end
/-! ### the iterators -/
section
variable {P : Program} {w : World} {K : PySem.W.Frag} {tg : Expr} {d : Addr} {o : Obj} {es : Array DictEntry} {ep : Nat}
theorem raw_of {X : Cx} {pins : List (Addr × Obj)} {σ : L2.St} {H : Hp} {s : Shared} {u : HO} (I : Inv X pins σ H s) (h : H d = some (.frz o u)) (hod : o.data = .dict es ep) (hx : o.ExactDict) : s.heap.DictRaw d es ep :=
  ⟨o, (I.hok d _ h).1, hx, hod⟩
theorem turn_rkeys {ks : List V} (it : Addr) (hod : o.data = .dict es ep) (hx : o.ExactDict) (hk : Vals ks (es.toList.map (·.key))) : Turn P w K tg (ItK d o ks) [it] it (fun i h => h.IsKeyIter it d i es.size ep) where
  mem := by simp
  obj := fun i h st b hb => by
    have e : b = it := by simpa using hb
    subst e
    obtain ⟨oi, e, c, dd⟩ := st
    exact ⟨oi, e, fun v z => by rw [dd] at z; cases z⟩
  keep := fun i h h' st k => st.at fun oi e => k it (by simp) oi e
  item := by
    intro X hP hw hK hc i pins s σ H E I hf st hg
    subst hP hw hK
    obtain ⟨⟨u, hd⟩, hi⟩ := hg
    obtain ⟨f0, f1, f2, f3, f4, f5⟩ := hf it (by simp)
    have hl : ks.length = es.size := by rw [hk.length, List.length_map, Array.length_toList]
    have hi' : i < es.size := by omega
    obtain ⟨uk, hu, ru⟩ := hk.get (List.getElem?_eq_getElem hi)
    have hu' : uk = es[i].key := by
      rw [List.getElem?_map, Array.getElem?_toList, Array.getElem?_eq_getElem hi'] at hu
      exact (Option.some.inj hu).symm
    subst hu'
    refine wpAny_pyNext_keys_item_raw st (raw_of I hd hod hx) hi' fun h' st' sb => ?_
    have I1 : Inv X pins σ H { s with heap := h' } := I.turned (t' := s.toks) (fun b ob hb e => (sb.2 b hb).trans e) f0 f1 f3 f4 f5
    obtain ⟨oi, e, c, dd⟩ := id st'
    exact ⟨es[i].key, rfl, go_of (s := { s with heap := h' }) e c dd (by decide) ⟨ks[i], H, I1, ru, ⟨rfl, List.getElem?_eq_getElem hi⟩, st', fun b hb => (hf b hb).1⟩⟩
  done := by
    intro X hP hw hK hc i pins s σ H E I hf st hg
    subst hP hw hK
    obtain ⟨⟨u, hd⟩, hi⟩ := hg
    obtain ⟨f0, f1, f2, f3, f4, f5⟩ := hf it (by simp)
    have hl : ks.length = es.size := by rw [hk.length, List.length_map, Array.length_toList]
    exact wpAny_pyNext_keys_end_raw (I.ok.hd hc) st (raw_of I hd hod hx) (by omega) fun h' eb => ⟨rfl, I.turned (t' := s.toks) (fun b ob hb e => eb b ob hb e) f0 f1 f3 f4 f5⟩
  self := fun A i s Q E st h => wpAny_pyIter_keyiter st h
theorem turn_rvals {ks : List V} (it : Addr) (hod : o.data = .dict es ep) (hx : o.ExactDict) (hk : Vals ks (es.toList.map (·.val))) : Turn P w K tg (ItK d o ks) [it] it (fun i h => h.IsValIter it d i es.size ep) where
  mem := by simp
  obj := fun i h st b hb => by
    have e : b = it := by simpa using hb
    subst e
    obtain ⟨oi, e, c, dd⟩ := st
    exact ⟨oi, e, fun v z => by rw [dd] at z; cases z⟩
  keep := fun i h h' st k => st.at fun oi e => k it (by simp) oi e
  item := by
    intro X hP hw hK hc i pins s σ H E I hf st hg
    subst hP hw hK
    obtain ⟨⟨u, hd⟩, hi⟩ := hg
    obtain ⟨f0, f1, f2, f3, f4, f5⟩ := hf it (by simp)
    have hl : ks.length = es.size := by rw [hk.length, List.length_map, Array.length_toList]
    have hi' : i < es.size := by omega
    obtain ⟨uk, hu, ru⟩ := hk.get (List.getElem?_eq_getElem hi)
    have hu' : uk = es[i].val := by
      rw [List.getElem?_map, Array.getElem?_toList, Array.getElem?_eq_getElem hi'] at hu
      exact (Option.some.inj hu).symm
    subst hu'
    refine wpAny_pyNext_values_item_raw st (raw_of I hd hod hx) hi' fun h' st' sb => ?_
    have I1 : Inv X pins σ H { s with heap := h' } := I.turned (t' := s.toks) (fun b ob hb e => (sb.2 b hb).trans e) f0 f1 f3 f4 f5
    obtain ⟨oi, e, c, dd⟩ := id st'
    exact ⟨es[i].val, rfl, go_of (s := { s with heap := h' }) e c dd (by decide) ⟨ks[i], H, I1, ru, ⟨rfl, List.getElem?_eq_getElem hi⟩, st', fun b hb => (hf b hb).1⟩⟩
  done := by
    intro X hP hw hK hc i pins s σ H E I hf st hg
    subst hP hw hK
    obtain ⟨⟨u, hd⟩, hi⟩ := hg
    obtain ⟨f0, f1, f2, f3, f4, f5⟩ := hf it (by simp)
    have hl : ks.length = es.size := by rw [hk.length, List.length_map, Array.length_toList]
    exact wpAny_pyNext_values_end_raw (I.ok.hd hc) st (raw_of I hd hod hx) (by omega) fun h' eb => ⟨rfl, I.turned (t' := s.toks) (fun b ob hb e => eb b ob hb e) f0 f1 f3 f4 f5⟩
  self := fun A i s Q E st h => wpAny_pyIter_valiter st h
theorem turn_rpairs {ks vs : List V} {elts : List Expr} {kk : Nat} {tpos : Pos} (it : Addr) (hod : o.data = .dict es ep) (hx : o.ExactDict) (hk : Vals ks (es.toList.map (·.key))) (hv : Vals vs (es.toList.map (·.val))) :
    Turn P w K (.Tuple elts kk tpos) (ItP d o ks vs) [it] it (fun i h => ∃ ok ov, IsItemIter h it d i es.size ep ok ov) where
  mem := by simp
  obj := fun i h st b hb => by
    have e : b = it := by simpa using hb
    subst e
    obtain ⟨ok, ov, e⟩ := st
    exact ⟨_, e, fun v z => nomatch z⟩
  keep := fun i h h' st k => let ⟨ok, ov, e⟩ := st; ⟨ok, ov, k it (by simp) _ e⟩
  item := by
    intro X hP hw hK hc i pins s σ H E I hf st hg
    subst hP hw hK
    obtain ⟨⟨u0, hd⟩, hi, hiv⟩ := hg
    have hl : ks.length = es.size := by rw [hk.length, List.length_map, Array.length_toList]
    have hi' : i < es.size := by omega
    obtain ⟨uk, hu, ru⟩ := hk.get (List.getElem?_eq_getElem hi)
    obtain ⟨uv, hw, rw'⟩ := hv.get (List.getElem?_eq_getElem hiv)
    have hu' : uk = es[i].key := by
      rw [List.getElem?_map, Array.getElem?_toList, Array.getElem?_eq_getElem hi'] at hu
      exact (Option.some.inj hu).symm
    have hw' : uv = es[i].val := by
      rw [List.getElem?_map, Array.getElem?_toList, Array.getElem?_eq_getElem hi'] at hw
      exact (Option.some.inj hw).symm
    subst hu' hw'
    obtain ⟨ok, ov, he⟩ := st
    have hlt : it < s.heap.objs.size := Heap.lt_size he
    refine wpAny_pyNext_items_item_raw he (raw_of I hd hod hx) hi' fun h' ho hT hz hk' => ?_
    refine ⟨_, rfl, wpAny_letOwnedTupleGo_items (s := { s with heap := h' }) ho fun h'' he' sb => ?_⟩
    have hT2 : h''.get? s.heap.objs.size = some { cls := .type "tuple", data := .seq #[es[i].key, es[i].val] } := (sb.2 _ (Nat.ne_of_gt hlt)).trans hT
    have new : ObjOk X.prog X.w (upd H s.heap.objs.size (.tup [ks[i], vs[i]])) h'' s.heap.objs.size (.tup [ks[i], vs[i]]) :=
      ⟨by show 2 ≤ sizeLine; decide, [es[i].key, es[i].val], .cons ru (.cons rw' .nil), ⟨_, hT2, rfl, _, rfl⟩⟩
    have I1 : Inv X pins σ (upd H s.heap.objs.size (.tup [ks[i], vs[i]])) { s with heap := h'' } :=
      I.turnedNew (t' := s.toks) (ch := [it]) (fun b ob hb e => (sb.2 b (by simpa using hb)).trans (hk' b ob (by simpa using hb) e)) hf (Nat.le_refl _) new
    refine ⟨.ref s.heap.objs.size, _, I1, rfl, ⟨_, ks[i], vs[i], List.getElem?_eq_getElem hi, List.getElem?_eq_getElem hiv, rfl, I.hok.fresh (Nat.le_refl _), rfl⟩, ⟨_, _, he'⟩, fun b hb => ?_⟩
    have e : b = it := by simpa using hb
    rw [e, upd_ne (Nat.ne_of_lt hlt)]
    exact (hf it (by simp)).1
  done := by
    intro X hP hw hK hc i pins s σ H E I hf st hg
    subst hP hw hK
    obtain ⟨⟨u0, hd⟩, hi⟩ := hg
    have hl : ks.length = es.size := by rw [hk.length, List.length_map, Array.length_toList]
    obtain ⟨f0, f1, f2, f3, f4, f5⟩ := hf it (by simp)
    obtain ⟨ok, ov, he⟩ := st
    exact wpAny_pyNext_items_end_raw (I.ok.hd hc) he (raw_of I hd hod hx) (by omega) fun h' eb => ⟨rfl, I.turned (t' := s.toks) (fun b o hb e => eb b o hb e) f0 f1 f3 f4 f5⟩
  self := fun A i s Q E st h => let ⟨_, _, e⟩ := st; PySem.W.kcp_self e h
end
end HW
/-! HwQ: iterators by the evaluator; targets. -/
namespace HW
open PySem PySem.Spec PyProof.Rows L2 C8 RZ

section
variable {X : Cx} {tg a b : Expr} {f g : Env → PHeap → R PV} {pos p apos cpos tpos : Pos} {elts : List Expr} {kk : Nat}
/-- a fixed dict, its entries -/
theorem fix_raw {pins : List (Addr × Obj)} {σ : L2.St} {H : Hp} {s : Shared} {L : List Addr} {d : Addr} {es : List (PV × PV)} (I : Inv X pins σ H s) (dl : DL (wd X) L H d es) :
    ∃ o u rs ep, H d = some (.frz o u) ∧ s.heap.get? d = some o ∧ o.ExactDict ∧ o.data = .dict rs ep ∧ RawD (wd X) L H s d es rs ep := by
  obtain ⟨rs, ep, r⟩ := dict_raw I (DP.rdL dl)
  have : ∃ u o, H d = some (.frz o u) := by
    cases dl with
    | k h1 _ _ => obtain ⟨o, h⟩ := h1; exact ⟨_, o, h⟩
    | t h1 _ _ _ _ _ => obtain ⟨o, h⟩ := h1; exact ⟨_, o, h⟩
  obtain ⟨u, o, h⟩ := this
  obtain ⟨o', h1, h2, h3⟩ := r.raw
  have h4 : s.heap.get? d = some o := (I.hok d _ h).1
  rw [h1] at h4
  cases h4
  exact ⟨o, u, rs, ep, h, h1, h2, h3, r⟩
theorem vals_len {α : Type} {ks : List V} {rs : Array DictEntry} {g : DictEntry → Value} (h : Vals ks (rs.toList.map g)) : ks.length = rs.size := by rw [h.length, List.length_map, Array.length_toList]
/-- for .. in e -/
theorem si_ex (ha : PE X a (rE X f)) : PI X tg a (rI X false fun env h => (f env h).bind fun v h => R.of (walkSrc h v) h) := by
  refine ⟨fun pins s σ H W I ⟨L, h, env, q, h', hr, er, e, post⟩ => ?_⟩
  obtain ⟨p, h1, e1, e2⟩ := R.bind_eq_ok e
  obtain ⟨e3, rfl⟩ := R.of_eq_ok e2
  refine thn (ha.run pins s σ H (fun x H1 => ∃ L1, Ext L H L1 H1 ∧ HR (wd X) L1 h' H1 ∧ VR (wd X) L1 H1 p x) I ⟨L, h, env, p, h', hr, er, e1, fun x L1 H1 x1 hr1 v1 => ⟨L1, x1, hr1, v1⟩⟩) fun u s1 ⟨x, H1, I1, r1, L1, x1, hr1, v1⟩ => ?_
  have lst : ∀ {xs : List PV} {chk : Chk}, listSrc h' p = some (xs, chk) → q = (xs, chk) → wpAny (model X.prog X.w) X.A (pyIter u) (PIE X pins σ tg W) X.xe s1 := fun {xs chk} e4 e5 => by
    subst e5
    obtain ⟨d, vs, rfl, h5, h6⟩ := list_at hr1 v1 e4
    cases r1
    obtain ⟨its, rv, pl, hz⟩ := I1.list (sqr h5)
    refine wpAny_pyIter_list pl.isList ?_
    exact pi_one (tk := s1.toks) I1 _ (turn_list d _) ⟨_, Heap.get?_push_size _ rfl, rfl, rfl⟩ (post _ L1 H1 x1 hr1 (walk_lst h6))
  have keys : ∀ {d : Addr} {es : List (PV × PV)}, x = .ref d → DL (wd X) L1 H1 d es → q.1 = es.map (·.1) → wpAny (model X.prog X.w) X.A (pyIter u) (PIE X pins σ tg W) X.xe s1 := fun {d es} ex dl e5 => by
    subst ex
    cases r1
    obtain ⟨o, u', rs, ep, g1, g2, g3, g4, r⟩ := fix_raw I1 dl
    obtain ⟨ks, k1, k2⟩ := r.keys
    refine wpAny_pyIter_dict_raw r.sys r.raw ?_
    refine pi_one (tk := s1.toks) I1 _ (turn_rkeys _ g4 g3 k1) ⟨_, Heap.get?_push_size _ rfl, rfl, rfl⟩ (post _ L1 H1 x1 hr1 ?_)
    rw [e5]
    exact walk_keys g1 k2
  unfold walkSrc at e3
  split at e3
  · cases e3
    cases v1 with
    | tup h1 h2 h3 =>
      cases r1
      obtain ⟨its, rv, pl, hz⟩ := I1.tuple (TupAt.sq h1)
      refine wpAny_pyIter_tuple (show s1.heap.IsTuple _ its.toArray from pl) ?_
      exact pi_one (tk := s1.toks) I1 _ (turn_tuple _ _) ⟨_, Heap.get?_push_size _ rfl, rfl, rfl⟩ (post _ L1 H1 x1 hr1 (walk_tup h1 h2 h3))
  · cases e3
    exact lst rfl rfl
  · cases e3
    cases v1 with
    | dctK h1 h2 h3 h4 => exact keys rfl (.k h1 h3 h4) rfl
    | dctT h1 h2 h0 h3 h4 h5 h6 => exact keys rfl (.t h1 h0 h3 h4 h5 h6) rfl
  · rename_i n
    split at e3
    · rename_i xs hc
      cases e3
      exact lst (by unfold listSrc; simp only [hc]) rfl
    · rename_i es hc
      cases e3
      cases v1 with
      | ref hn => exact keys rfl (hr1.cell _ _ _ hc hn) rfl
    · cases e3
  · cases e3
/-- range -/
theorem int_of {p : PV} {j : Int} (h : intOf p = some j) : p = .int j := by
  cases p <;> simp [intOf] at h
  rw [h]
theorem wide62_ {i : Int} (h : wide62 i = true) : -(2 ^ 62) ≤ i ∧ i < 2 ^ 62 := of_decide_eq_true h
theorem range_w {lo hi : Int} {xs : List PV} (h : rangeOf lo hi = some xs) : wide62 lo = true ∧ wide62 hi = true := by
  unfold rangeOf at h
  split at h
  · rename_i q
    rw [Bool.and_eq_true] at q
    exact q
  · cases h
theorem si_rng1 (hg : Gl X "range") (hm : X.mg "range" = none) (ha : PE X a (rE X f)) (ho : okArg a = true) :
    PI X tg (.Call (.Name "range" p) [a] [] pos) (rI X false fun env h => (f env h).bind fun v h => (R.of ((intOf v).bind (rangeOf 0)) h).bind fun xs h => .ok (xs, fun _ => true) h) :=
  imI (pi_range1 hg hm (one_arg ha ho) (star_ok ho _ _)) fun σ H W ⟨L, h, env, q, h', hr, er, e, post⟩ => by
  obtain ⟨v, h1, e1, e⟩ := R.bind_eq_ok e
  obtain ⟨xs, e2, e⟩ := R.of_bind e
  cases e
  obtain ⟨j, e3, e4⟩ := Option.bind_eq_some_iff.mp e2
  obtain rfl := int_of e3
  obtain ⟨w1, w2⟩ := range_w e4
  obtain ⟨w3, w4⟩ := wide62_ w2
  refine ⟨L, h, env, [.int j], h', hr, er, by unfold consF nilF; rw [e1]; rfl, fun zs L1 H1 x1 hr1 v1 => ?_⟩
  cases v1 with
  | cons v1 v2 =>
    cases v2
    cases v1
    refine ⟨j, rfl, w3, w4, post _ _ _ x1 hr1 ?_⟩
    have := walk_rng (Z := wd X) (L := L1) (H := H1) (chk := fun _ => true) e4
    rw [Int.sub_zero] at this
    exact this
theorem two_args (ha : PE X a (rE X f)) (hb : PE X b (rE X g)) (ho : okArg a = true) (ho' : okArg b = true) : PA X [a, b] (rA X (consF f (consF g nilF))) := sa_cons ha (sa_cons hb sa_nil ho') ho
theorem si_rng2 (hg : Gl X "range") (hm : X.mg "range" = none) (ha : PE X a (rE X f)) (hb : PE X b (rE X g)) (ho : okArg a = true) (ho' : okArg b = true) :
    PI X tg (.Call (.Name "range" p) [a, b] [] pos) (rI X false fun env h => (f env h).bind fun v h => (g env h).bind fun w h => (R.of ((intOf v).bind fun i => (intOf w).bind (rangeOf i)) h).bind fun xs h => .ok (xs, fun _ => true) h) :=
  imI (pi_range2 hg hm (two_args ha hb ho ho') (by rw [star_ok ho, star_ok ho']; rfl) (star_ok ho' _ _)) fun σ H W ⟨L, h, env, q, h', hr, er, e, post⟩ => by
  obtain ⟨v, h1, e1, e⟩ := R.bind_eq_ok e
  obtain ⟨w, h2, e1', e⟩ := R.bind_eq_ok e
  obtain ⟨xs, e2, e⟩ := R.of_bind e
  cases e
  obtain ⟨i, e3, e4⟩ := Option.bind_eq_some_iff.mp e2
  obtain ⟨j, e5, e6⟩ := Option.bind_eq_some_iff.mp e4
  obtain rfl := int_of e3
  obtain rfl := int_of e5
  obtain ⟨w1, w2⟩ := range_w e6
  refine ⟨L, h, env, [.int i, .int j], h', hr, er, by unfold consF nilF; rw [e1, R.bind_ok, e1']; rfl, fun zs L1 H1 x1 hr1 v1 => ?_⟩
  cases v1 with
  | cons v1 v2 =>
    cases v2 with
    | cons v2 v3 =>
      cases v3
      cases v1
      cases v2
      exact ⟨i, j, rfl, ⟨(wide62_ w1).1, (wide62_ w1).2, (wide62_ w2).1, (wide62_ w2).2⟩, post _ _ _ x1 hr1 (walk_rng e6)⟩
theorem si_enum (hg : Gl X "enumerate") (hm : X.mg "enumerate" = none) (ha : PE X a (rE X f)) (ho : okArg a = true) :
    PI X (.Tuple elts kk tpos) (.Call (.Name "enumerate" p) [a] [] pos) (rI X true fun env h => (f env h).bind fun v h => (R.of (listSrc h v) h).bind fun p h => .ok (enumOf p.1, p.2) h) :=
  imI (pi_enum hg hm (one_arg ha ho) (star_ok ho _ _)) fun σ H W ⟨L, h, env, q, h', hr, er, e, post⟩ => by
  obtain ⟨v, h1, e1, e⟩ := R.bind_eq_ok e
  obtain ⟨pp, e2, e⟩ := R.of_bind e
  cases e
  refine ⟨L, h, env, [v], h', hr, er, by unfold consF nilF; rw [e1]; rfl, fun zs L1 H1 x1 hr1 v1 => ?_⟩
  cases v1 with
  | cons v1 v2 =>
    cases v2
    obtain ⟨d, vs, rfl, h5, h6⟩ := list_at (xs := pp.1) (chk := pp.2) hr1 v1 e2
    exact ⟨d, vs, rfl, sqr h5, post _ _ _ x1 hr1 (walk_enum h6)⟩
theorem si_zip (hg : Gl X "zip") (hm : X.mg "zip" = none) (ha : PE X a (rE X f)) (hb : PE X b (rE X g)) (ho : okArg a = true) (ho' : okArg b = true) :
    PI X (.Tuple elts kk tpos) (.Call (.Name "zip" p) [a, b] [] pos) (rI X true fun env h => (f env h).bind fun v h => (g env h).bind fun w h => (R.of (zipSrc h v w) h).bind fun p h => .ok (zipOf p.1.1 p.1.2, p.2) h) :=
  imI (pi_zipA hg hm (two_args ha hb ho ho') (star_ok ho _ _) (by rw [star_ok ho']; rfl)) fun σ H W ⟨L, h, env, q, h', hr, er, e, post⟩ => by
  obtain ⟨v, h1, e1, e⟩ := R.bind_eq_ok e
  obtain ⟨w, h2, e1', e⟩ := R.bind_eq_ok e
  obtain ⟨pp, e2, e⟩ := R.of_bind e
  cases e
  refine ⟨L, h, env, [v, w], h', hr, er, by unfold consF nilF; rw [e1, R.bind_ok, e1']; rfl, fun zs L1 H1 x1 hr1 v1 => ?_⟩
  cases v1 with
  | cons v1 v2 =>
    cases v2 with
    | cons v2 v3 =>
      cases v3
      unfold zipSrc at e2
      split at e2
      · cases e2
        cases v1 with
        | tup g1 g2 g3 =>
          cases v2 with
          | tup k1 k2 k3 => exact ⟨_, _, _, _, rfl, .inr ⟨TupAt.sq g1, TupAt.sq k1, post _ _ _ x1 hr1 (walk_zipT g1 g2 g3 k1 k2 k3)⟩⟩
      · split at e2
        · rename_i c c' h4 h5
          cases e2
          obtain ⟨d, vs, rfl, h6, h7⟩ := list_at (xs := c.1) (chk := c.2) hr1 v1 h4
          obtain ⟨d', vs', rfl, h8, h9⟩ := list_at (xs := c'.1) (chk := c'.2) hr1 v2 h5
          refine ⟨d, d', vs, vs', rfl, .inl ⟨sqr h6, sqr h8, post _ _ _ x1 hr1 (walk_zip h7 h9 fun g hg => ?_)⟩⟩
          exact (Bool.and_eq_true _ _).mp hg
        · cases e2
/-- d.items(), d.values() -/
theorem dict_at {L : List Addr} {H : Hp} {h : PHeap} {Z : Wd} {p : PV} {x : V} {es : List (PV × PV)} {chk : Chk} (hr : HR Z L h H) (v : VR Z L H p x) (e : dictSrc h p = some (es, chk)) : ∃ d, x = .ref d ∧ DL Z L H d es := by
  unfold dictSrc at e
  split at e
  · cases e
    cases v with
    | dctK h1 h2 h3 h4 => exact ⟨_, rfl, .k h1 h3 h4⟩
    | dctT h1 h2 h0 h3 h4 h5 h6 => exact ⟨_, rfl, .t h1 h0 h3 h4 h5 h6⟩
  · rename_i n
    split at e
    · rename_i es' hc
      cases e
      cases v with
      | ref hn => exact ⟨_, rfl, hr.cell _ _ _ hc hn⟩
    · cases e
  · cases e
theorem si_items (ha : PE X a (rE X f)) (hbase : okBase a = true) (hline : (apos.endLine == cpos.line) = true) :
    PI X (.Tuple elts kk tpos) (.Call (.Attribute a "items" apos) [] [] cpos) (rI X true fun env h => (f env h).bind fun v h => (R.of (dictSrc h v) h).bind fun p h => .ok (p.1.map fun e => .tup [e.1, e.2], p.2) h) := by
  refine ⟨fun pins s σ H W I ⟨L, h, env, q, h', hr, er, e, post⟩ => ?_⟩
  obtain ⟨p, h1, e1, e⟩ := R.bind_eq_ok e
  obtain ⟨pp, e2, e⟩ := R.of_bind e
  cases e
  refine wpAny_Call_method (T := "dict") (id := "dict.items") (base_ok hbase _ _ _) rfl hline F.plainAttrs_dict F.slot_dict_items F.type_dict_items (thn (ha.run pins s σ H (fun x H1 => ∃ L1, Ext L H L1 H1 ∧ HR (wd X) L1 h' H1 ∧ VR (wd X) L1 H1 p x) I ⟨L, h, env, p, h', hr, er, e1, fun x L1 H1 x1 hr1 v1 => ⟨L1, x1, hr1, v1⟩⟩) fun u s1 ⟨x, H1, I1, r1, L1, x1, hr1, v1⟩ => ?_)
  obtain ⟨d, rfl, dl⟩ := dict_at (es := pp.1) (chk := pp.2) hr1 v1 e2
  cases r1
  obtain ⟨o, u', rs, ep, g1, g2, g3, g4, r⟩ := fix_raw I1 dl
  obtain ⟨ks, k1, k2⟩ := r.keys
  obtain ⟨vs, k3, k4⟩ := r.vals
  refine ⟨r.raw.typeIs, fun b eb => by cases eb; exact ⟨o, g2, g3.2.1⟩, ?_⟩
  have I2 : Inv X pins σ H1 { s1 with heap := s1.heap.push { cls := .type "dict_items", data := .fields #[.ref d] } } := I1.kept (t' := s1.toks) fun b ob q => Heap.get?_push_of_some _ q
  have fin : wpAny (model X.prog X.w) X.A (pyIter (.ref s1.heap.objs.size)) (PIE X pins σ (.Tuple elts kk tpos) W) X.xe { s1 with heap := s1.heap.push { cls := .type "dict_items", data := .fields #[.ref d] } } := by
    refine wpAny_pyIter_items_raw (d := d) ⟨_, Heap.get?_push_size _ rfl, rfl, rfl⟩ (raw_of I2 g1 g4 g3) (pi_one (tk := s1.toks) I2 _ (turn_rpairs _ g4 g3 k1 k3) ⟨.none, .none, Heap.get?_push_size _ rfl⟩ (post _ L1 H1 x1 hr1 (walk_pairs g1 k2 k4)))
  show wpAny _ _ (callWith cpos (.builtin "dict.items") [.ref d] [] []) _ X.xe s1
  exact method_meetsIn F.slot_dict_items F.entry_dict_items rfl (PySem.evalArgs_none ⟨rfl, r.raw.typeIs, F.args_dict_items_1 _, _, meets_dict_items_raw d r.sys, ⟨_, _, r.raw⟩, fin⟩)
theorem si_values (ha : PE X a (rE X f)) (hbase : okBase a = true) (hline : (apos.endLine == cpos.line) = true) :
    PI X tg (.Call (.Attribute a "values" apos) [] [] cpos) (rI X false fun env h => (f env h).bind fun v h => (R.of (dictSrc h v) h).bind fun p h => .ok (p.1.map (·.2), p.2) h) := by
  refine ⟨fun pins s σ H W I ⟨L, h, env, q, h', hr, er, e, post⟩ => ?_⟩
  obtain ⟨p, h1, e1, e⟩ := R.bind_eq_ok e
  obtain ⟨pp, e2, e⟩ := R.of_bind e
  cases e
  refine wpAny_Call_method (T := "dict") (id := "dict.values") (base_ok hbase _ _ _) rfl hline F.plainAttrs_dict F.slot_dict_values F.type_dict_values (thn (ha.run pins s σ H (fun x H1 => ∃ L1, Ext L H L1 H1 ∧ HR (wd X) L1 h' H1 ∧ VR (wd X) L1 H1 p x) I ⟨L, h, env, p, h', hr, er, e1, fun x L1 H1 x1 hr1 v1 => ⟨L1, x1, hr1, v1⟩⟩) fun u s1 ⟨x, H1, I1, r1, L1, x1, hr1, v1⟩ => ?_)
  obtain ⟨d, rfl, dl⟩ := dict_at (es := pp.1) (chk := pp.2) hr1 v1 e2
  cases r1
  obtain ⟨o, u', rs, ep, g1, g2, g3, g4, r⟩ := fix_raw I1 dl
  obtain ⟨vs, k3, k4⟩ := r.vals
  refine ⟨r.raw.typeIs, fun b eb => by cases eb; exact ⟨o, g2, g3.2.1⟩, ?_⟩
  have I2 : Inv X pins σ H1 { s1 with heap := s1.heap.push { cls := .type "dict_values", data := .fields #[.ref d] } } := I1.kept (t' := s1.toks) fun b ob q => Heap.get?_push_of_some _ q
  have fin : wpAny (model X.prog X.w) X.A (pyIter (.ref s1.heap.objs.size)) (PIE X pins σ tg W) X.xe { s1 with heap := s1.heap.push { cls := .type "dict_values", data := .fields #[.ref d] } } := by
    refine wpAny_pyIter_values_raw (d := d) ⟨_, Heap.get?_push_size _ rfl, rfl, rfl⟩ (raw_of I2 g1 g4 g3) (pi_one (tk := s1.toks) I2 _ (turn_rvals _ g4 g3 k3) ⟨_, Heap.get?_push_size _ rfl, rfl, rfl⟩ (post _ L1 H1 x1 hr1 (walk_keys g1 k4)))
  show wpAny _ _ (callWith cpos (.builtin "dict.values") [.ref d] [] []) _ X.xe s1
  exact method_meetsIn F.slot_dict_values F.entry_dict_values rfl (PySem.evalArgs_none ⟨rfl, r.raw.typeIs, F.args_dict_values_1 _, _, meets_dict_values_raw d r.sys, ⟨_, _, r.raw⟩, fin⟩)
/-! ### targets -/
def isTp : Tg → Bool
  | .nm _ => false
  | .tp _ => true
mutual
def tgIx : Tg → List Nat
  | .nm i => [i]
  | .tp ts => tgIxs ts
def tgIxs : List Tg → List Nat
  | [] => []
  | t :: ts => tgIx t ++ tgIxs ts
end
def rG (X : Cx) (t : Tg) : TG := fun v σ H Q => ∃ L h env p env', HR (wd X) L h H ∧ ER (wd X) L H env σ ∧ YR (wd X) L H (isTp t) p v ∧ tgSet t p env = some env' ∧ ∀ σ', ER (wd X) L H env' σ' → (∀ vs, (∀ i ∈ tgIx t, i ∈ vs) → L2.wipe σ' vs = L2.wipe σ vs) → Q σ' H
def rGs (X : Cx) (ts : List Tg) : TGs := fun vs σ H Q => ∃ L h env ps env', HR (wd X) L h H ∧ ER (wd X) L H env σ ∧ VRs (wd X) L H ps vs ∧ ps.length = ts.length ∧ tgSets ts ps env = some env' ∧ ∀ σ', ER (wd X) L H env' σ' → (∀ vs, (∀ i ∈ tgIxs ts, i ∈ vs) → L2.wipe σ' vs = L2.wipe σ vs) → Q σ' H
theorem imG {t t' : TG} {e : Expr} (h : PG X e t) (i : ∀ v σ H Q, t' v σ H Q → t v σ H Q) : PG X e t' := ⟨fun pins s σ H v u Q I r q => h.run pins s σ H v u Q I r (i v σ H Q q)⟩
theorem imGs {t t' : TGs} {e : List Expr} (h : PGs X e t) (i : ∀ v σ H Q, t' v σ H Q → t v σ H Q) : PGs X e t' := ⟨fun pins s σ H v u Q I r q => h.run pins s σ H v u Q I r (i v σ H Q q)⟩
theorem wipe_get {σ : L2.St} : ∀ {vs : List Nat} {i : Nat}, (L2.wipe σ vs)[i]? = if i ∈ vs ∧ i < σ.length then some none else σ[i]?
  | [], i => by simp [L2.wipe]
  | v :: vs, i => by
    rw [L2.wipe, List.getElem?_set, wipe_get (vs := vs), L2.wipe_length]
    by_cases hv : v = i
    · subst hv
      by_cases hl : v < σ.length
      · simp [hl]
      · simp [hl]
    · have hv' : ¬ i = v := fun e => hv e.symm
      simp [hv, hv']
theorem wipe_set {σ : L2.St} {x : Option V} {i : Nat} {vs : List Nat} (h : i ∈ vs) : L2.wipe (σ.set i x) vs = L2.wipe σ vs := by
  apply List.ext_getElem?
  intro j
  rw [wipe_get, wipe_get, List.length_set, List.getElem?_set]
  by_cases hj : j ∈ vs ∧ j < σ.length
  · rw [if_pos hj, if_pos hj]
  · rw [if_neg hj, if_neg hj]
    by_cases e : i = j
    · subst e
      rw [if_pos rfl]
      have hl : ¬ i < σ.length := fun q => hj ⟨h, q⟩
      rw [if_neg hl, List.getElem?_eq_none (by omega)]
    · rw [if_neg e]
theorem sg_nm (hN : X.N.Nodup) {i : Nat} {x : Str} (hi : X.N[i]? = some x) (hx : X.env.scope.names.lookup x = some .local) : PG X (.Name x pos) (rG X (.nm i)) :=
  imG (pg_name hN hi (.inl hx) (.inr hx)) fun v σ H Q ⟨L, h, env, p, env', hr, er, y, e, q⟩ => by
  rw [tgSet] at e
  split at e
  · cases e
    exact q _ (er.set y) fun vs hv => wipe_set (hv i (by simp [tgIx]))
  · cases e
theorem sgs_nil : PGs X [] (rGs X []) := imGs pgs_nil fun v σ H Q ⟨L, h, env, ps, env', hr, er, y, hl, e, q⟩ => by
  cases ps with
  | cons _ _ => cases hl
  | nil =>
    cases y
    rw [tgSets] at e
    cases e
    exact ⟨rfl, q σ er fun _ _ => rfl⟩
theorem yr_of {Z : Wd} {L : List Addr} {H : Hp} {p : PV} {x : V} {t : Tg} {env env' : Env} (v : VR Z L H p x) (e : tgSet t p env = some env') : YR Z L H (isTp t) p x := by
  cases t with
  | nm i => exact v
  | tp ts =>
    cases v with
    | tup h1 h2 h3 => exact ⟨_, _, _, .inl ⟨rfl, TupAt.sq h1⟩, rfl, h3⟩
    | lst h1 h2 h3 => exact ⟨_, _, _, .inr ⟨rfl, sqr (.inr h1)⟩, rfl, h3⟩
    | _ => simp [tgSet] at e
theorem yr_fix {Z : Wd} {L : List Addr} {H : Hp} {p : PV} {x : V} {t : Tg} {env env' : Env} {fl : Bool} (hf : fl = true → isTp t = true) (y : YR Z L H fl p x) (e : tgSet t p env = some env') : YR Z L H (isTp t) p x := by
  cases fl with
  | false => exact yr_of y e
  | true => rw [hf rfl]; exact y
theorem assign_star {e : Expr} (h : okArg e = true) (es : List Expr) (env : PySem.Env) : assignEach (e :: es) env = (false, assign e env) :: assignEach es env := by
  cases e <;> first | rfl | cases h
theorem sgs_cons {t : Tg} {ts : List Tg} {es : List Expr} (h1 : PG X a (rG X t)) (h2 : PGs X es (rGs X ts)) (ho : okArg a = true) : PGs X (a :: es) (rGs X (t :: ts)) :=
  imGs (pgs_cons h1 h2 (by rw [assign_star ho]; rfl)) fun v σ H Q ⟨L, h, env, ps, env', hr, er, y, hl, e, q⟩ => by
  cases ps with
  | nil => cases hl
  | cons p ps =>
    cases y with
    | cons y1 y2 =>
      rw [tgSets] at e
      split at e
      · rename_i env1 e1
        refine ⟨_, _, rfl, L, h, env, p, env1, hr, er, yr_of y1 e1, e1, fun σ' er' w1 => ⟨L, h, env1, ps, env', hr, er', y2, by simpa using hl, e, fun σ2 er2 w2 => q σ2 er2 fun vs hv => ?_⟩⟩
        rw [w2 vs fun i hi => hv i (by simp [tgIxs, hi]), w1 vs fun i hi => hv i (by simp [tgIxs, hi])]
      · cases e
theorem assign_len {env : PySem.Env} : ∀ {es : List Expr}, es.all okArg = true → (assignEach es env).length = es.length ∧ (assignEach es env).findIdx? (·.1) = none
  | [], _ => ⟨rfl, rfl⟩
  | e :: es, h => by
    rw [List.all_cons, Bool.and_eq_true] at h
    obtain ⟨h1, h2⟩ := assign_len (env := env) h.2
    rw [assign_star h.1]
    refine ⟨by simp [h1], ?_⟩
    rw [List.findIdx?_cons]
    simp [h2]
theorem sg_tp (hc : X.calm = true) {ts : List Tg} (h : PGs X elts (rGs X ts)) (ho : elts.all okArg = true) (hl : elts.length = ts.length) : PG X (.Tuple elts kk tpos) (rG X (.tp ts)) := by
  refine ⟨fun pins s σ H v u Q I r hw => ?_⟩
  obtain ⟨L, hh, env, p, env', hr, er, y, e, q⟩ := hw
  obtain ⟨ys, a, vs, y1, rfl, y2⟩ := y
  rcases y1 with ⟨rfl, y1⟩ | ⟨rfl, y1⟩
  · refine (pg_tup (pos := tpos) (k := kk) hc h (assign_len ho).1 (assign_len ho).2).run pins s σ H _ u Q I r ?_
    rw [tgSet] at e
    split at e
    · rename_i hl3
      exact ⟨a, vs, rfl, y1, by rw [y2.length, hl3, hl], L, hh, env, _, env', hr, er, y2, hl3, e, fun σ' er' w => q σ' er' fun vs hv => w vs fun i hi => hv i (by rw [tgIx]; exact hi)⟩
    · cases e
  · refine (pg_unl (pos := tpos) (k := kk) hc h (assign_len ho).1 (assign_len ho).2).run pins s σ H _ u Q I r ?_
    rw [tgSet] at e
    split at e
    · rename_i hl3
      exact ⟨a, vs, rfl, y1, by rw [y2.length, hl3, hl], L, hh, env, _, env', hr, er, y2, hl3, e, fun σ' er' w => q σ' er' fun vs hv => w vs fun i hi => hv i (by rw [tgIx]; exact hi)⟩
    · cases e
end
end HW
/-! HwR: list comprehensions. -/
namespace HW
open PySem PySem.Spec PyProof.Rows L2 C8

section
variable {Z : Wd} {L L' : List Addr} {H H' : Hp} {h : PHeap} {D : Addr}
/-- what is fixed there is fixed here *)-/
def Agr (H H' : Hp) : Prop := ∀ a o u, H a = some (.frz o u) → H' a = some (.frz o u)
theorem FzAt.agr (h : Agr H H') {a : Addr} {u : HO} (x : FzAt H a u) : FzAt H' a u := let ⟨o, e⟩ := x; ⟨o, h _ _ _ e⟩
mutual
theorem VR.agr (e : Agr H H') : ∀ {p : PV} {v : V}, VR Z L H p v → VR Z L H' p v
  | _, _, .non => .non
  | _, _, .bl b => .bl b
  | _, _, .int b => .int b
  | _, _, .str b => .str b
  | _, _, .tup ⟨o, h1, h1'⟩ h2 h3 => .tup ⟨o, e _ _ _ h1, h1'⟩ h2 (VRs.agr e h3)
  | _, _, .lst h1 h2 h3 => .lst (h1.agr e) h2 (VRs.agr e h3)
  | _, _, .scr h1 h2 => .scr (h1.agr e) h2
  | _, _, .scrK h1 => .scrK h1
  | _, _, .dctK h1 h2 h3 h4 => .dctK (h1.agr e) h2 h3 (VRs.agr e h4)
  | _, _, .dctT h1 h2 h0 h3 h4 h5 h6 => .dctT (h1.agr e) h2 h0 h3 h4 (VRs.agr e h5) (VRs.agr e h6)
  | _, _, .ref h1 => .ref h1
theorem VRs.agr (e : Agr H H') : ∀ {p : List PV} {v : List V}, VRs Z L H p v → VRs Z L H' p v
  | _, _, .nil => .nil
  | _, _, .cons h1 h2 => .cons (VR.agr e h1) (VRs.agr e h2)
end
theorem DP.map {a : Addr} {W W' : HO → Prop} {es : List (PV × PV)} (x : DP Z L H a W es) (hv : ∀ p v, VRs Z L H p v → VRs Z L' H' p v) (hw : ∀ u, W u → W' u) : DP Z L' H' a W' es := by
  cases x with
  | k h1 h2 h3 => exact .k (hw _ h1) h2 (hv _ _ h3)
  | t h1 h0 h2 h3 h4 h5 => exact .t (hw _ h1) h0 h2 h3 (hv _ _ h4) (hv _ _ h5)
theorem CR.map {a : Addr} {c : Cell} (x : CR Z L H a c) (hv : ∀ p v, VRs Z L H p v → VRs Z L' H' p v) (ha : H' a = H a) : CR Z L' H' a c := by
  cases c with
  | lst xs => obtain ⟨vs, h1, h2⟩ := x; exact ⟨vs, by rw [ha]; exact h1, hv _ _ h2⟩
  | dct es => exact DP.map x hv fun u e => by rw [ha]; exact e
  | dctL es => exact DP.map x hv fun u ⟨o, e⟩ => ⟨o, by rw [ha]; exact e⟩
  | obj _ _ => exact x
/-- a thing that is built, not yet seen -/
theorem agr_upd {o : HO} (hf : NF H D) : Agr H (upd H D o) := fun a o' u e => by
  rw [upd_ne fun q => hf o' u (by rw [← q]; exact e)]
  exact e
theorem HR.touch {o : HO} (r : HR Z L h H) (hD : D ∉ L) (hf : NF H D) : HR Z L h (upd H D o) :=
  ⟨r.len, r.nd, fun n c a h1 h2 => (r.cell n c a h1 h2).map (fun _ _ => VRs.agr (agr_upd hf)) (upd_ne fun q => hD (by rw [← q]; exact List.mem_of_getElem? h2))⟩
theorem Ext.touch {o : HO} (e : Ext L H L' H') (hD : H D = none) : Ext L H L' (upd H' D o) := by
  refine ⟨e.pre, fun a u hn ha => ?_, fun a ha => ?_, fun a o' u ha => ?_⟩
  · rw [upd_ne (ne_of_none ha hD)]; exact e.keep a u hn ha
  · unfold upd; split
    · simp
    · exact e.dom a ha
  · rw [upd_ne (ne_of_none ha hD)]; exact e.frz a o' u ha
theorem ER.agr {env : Env} {σ : L2.St} (e : Agr H H') (x : ER Z L H env σ) : ER Z L H' env σ := ⟨x.len, fun i v h1 => let ⟨y, h2, h3⟩ := x.at_ i v h1; ⟨y, h2, h3.agr e⟩⟩
/-- it becomes live -/
theorem notin_snoc {a : Addr} {o : Obj} {u : HO} (ha : a ∉ L) (e : H a = some (.frz o u)) (hf : NF H D) : a ∉ L ++ [D] := fun q => by
  rcases List.mem_append.mp q with q | q
  · exact ha q
  · have : a = D := by simpa using q
    subst this
    exact hf _ _ e
mutual
theorem VR.grow (hf : NF H D) : ∀ {p : PV} {v : V}, VR Z L H p v → VR Z (L ++ [D]) H p v
  | _, _, .non => .non
  | _, _, .bl b => .bl b
  | _, _, .int b => .int b
  | _, _, .str b => .str b
  | _, _, .tup ⟨o, h1, h1'⟩ h2 h3 => .tup ⟨o, h1, h1'⟩ (notin_snoc h2 h1 hf) (VRs.grow hf h3)
  | _, _, .lst ⟨o, h1⟩ h2 h3 => .lst ⟨o, h1⟩ (notin_snoc h2 h1 hf) (VRs.grow hf h3)
  | _, _, .scr ⟨o, h1⟩ h2 => .scr ⟨o, h1⟩ (notin_snoc h2 h1 hf)
  | _, _, .scrK h1 => .scrK h1
  | _, _, .dctK ⟨o, h1⟩ h2 h3 h4 => .dctK ⟨o, h1⟩ (notin_snoc h2 h1 hf) h3 (VRs.grow hf h4)
  | _, _, .dctT ⟨o, h1⟩ h2 h0 h3 h4 h5 h6 => .dctT ⟨o, h1⟩ (notin_snoc h2 h1 hf) h0 h3 h4 (VRs.grow hf h5) (VRs.grow hf h6)
  | _, _, .ref h1 => .ref (by rw [List.getElem?_append_left (List.getElem?_eq_some_iff.mp h1).1]; exact h1)
theorem VRs.grow (hf : NF H D) : ∀ {p : List PV} {v : List V}, VRs Z L H p v → VRs Z (L ++ [D]) H p v
  | _, _, .nil => .nil
  | _, _, .cons h1 h2 => .cons (VR.grow hf h1) (VRs.grow hf h2)
end
theorem HR.grow (r : HR Z L h H) (hD : D ∉ L) (hf : NF H D) {c : Cell} (x : CR Z (L ++ [D]) H D c) : HR Z (L ++ [D]) (h ++ [c]) H := by
  refine ⟨by simp [r.len], ?_, fun n c' a h1 h2 => ?_⟩
  · rw [List.nodup_append]
    refine ⟨r.nd, by simp, fun a ha b hb => ?_⟩
    simp only [List.mem_singleton] at hb
    subst hb
    intro e
    subst e
    exact hD ha
  · have hrl := r.len
    by_cases hn : n < L.length
    · rw [List.getElem?_append_left (by omega)] at h1
      rw [List.getElem?_append_left hn] at h2
      exact (r.cell n c' a h1 h2).map (fun _ _ => VRs.grow hf) rfl
    · have hl : n < (L ++ [D]).length := (List.getElem?_eq_some_iff.mp h2).1
      have en : n = L.length := by simp at hl; omega
      have en' : n = h.length := by omega
      rw [en'] at h1
      rw [en] at h2
      simp at h1 h2
      subst h1 h2
      exact x
theorem Ext.grow (e : Ext L H L' H') (hD : H D = none) : Ext L H (L' ++ [D]) H' := by
  obtain ⟨M, rfl, hM⟩ := e.pre
  refine ⟨⟨M ++ [D], by simp, fun a ha => ?_⟩, e.keep, e.dom, e.frz⟩
  rcases List.mem_append.mp ha with q | q
  · exact hM a q
  · have : a = D := by simpa using q
    subst this
    exact hD
end
section
variable {X : Cx} {pins : List (Addr × Obj)} {σ : L2.St}
/-- the list at D is ready -/
theorem made_ep {s : Shared} {H H' : Hp} {L L2 : List Addr} {h h' : PHeap} {al : Bool} {xs : List PV} {vs : List V} {r : PV} {D : Addr} {Q : VK} (I : Inv X pins σ H' s) (hD : H' D = some (.lst vs)) (hn : D ∉ L2) (h0 : H D = none) (ex : Ext L H L2 H') (hr : HR (wd X) L2 h H') (v : VRs (wd X) L2 H' xs vs)
    (e : mkList al xs h = .ok r h') (post : Post (wd X) L H r h' Q) : EP X pins σ Q (.ref D) s := by
  have hf := nf_lst hD
  unfold mkList at e
  cases al with
  | false =>
    simp only [Bool.false_eq_true, if_false, R.ok.injEq] at e
    obtain ⟨rfl, rfl⟩ := e
    obtain ⟨od, I1⟩ := I.lock hD trivial
    exact ⟨.ref D, _, I1, rfl, post _ _ _ (ex.touch h0) (hr.touch hn hf) (.lst ⟨od, upd_same⟩ hn (v.agr (agr_upd hf)))⟩
  | true =>
    simp only [if_true, R.ok.injEq] at e
    obtain ⟨rfl, rfl⟩ := e
    refine ⟨.ref D, _, I, rfl, post _ _ _ (ex.grow h0) (hr.grow hn hf ⟨vs, hD, v.grow hf⟩) (.ref ?_)⟩
    rw [← hr.len]
    simp
theorem wipe_wipe (σ : L2.St) (vs : List Nat) : L2.wipe (L2.wipe σ vs) vs = L2.wipe σ vs := by
  apply List.ext_getElem?
  intro j
  rw [wipe_get, wipe_get, L2.wipe_length]
  split <;> rfl
def compF (al : Bool) (fI : Env → PHeap → R (List PV × Chk)) (tg : Tg) (fT : Env → PHeap → R Bool) (fE : Env → PHeap → R PV) (vs : List Nat) : Env → PHeap → R PV := fun env h => (fI env h).bind fun p h =>
  (compGo p.2 (tgSet tg) fT fE (wipeE env vs) p.1 h []).bind fun acc h => mkList al acc h
end
/-! ### locks -/
section
variable {Z : Wd} {L L' : List Addr} {H H' : Hp} {h : PHeap} {d : Addr}
theorem ne_mem {a : Addr} (ha : a ∉ L) (hd : d ∈ L) : a ≠ d := fun e => ha (by rw [e]; exact hd)
theorem FzAt.away {o : HO} {a : Addr} {u : HO} (hd : d ∈ L) (ha : a ∉ L) (x : FzAt H a u) : FzAt (upd H d o) a u := let ⟨b, e⟩ := x; ⟨b, by rw [upd_ne (ne_mem ha hd)]; exact e⟩
mutual
theorem VR.away {o : HO} (hd : d ∈ L) : ∀ {p : PV} {v : V}, VR Z L H p v → VR Z L (upd H d o) p v
  | _, _, .non => .non
  | _, _, .bl b => .bl b
  | _, _, .int b => .int b
  | _, _, .str b => .str b
  | _, _, .tup ⟨b, h1, h1'⟩ h2 h3 => .tup ⟨b, by rw [upd_ne (ne_mem h2 hd)]; exact h1, h1'⟩ h2 (VRs.away hd h3)
  | _, _, .lst h1 h2 h3 => .lst (h1.away hd h2) h2 (VRs.away hd h3)
  | _, _, .scr h1 h2 => .scr (h1.away hd h2) h2
  | _, _, .scrK h1 => .scrK h1
  | _, _, .dctK h1 h2 h3 h4 => .dctK (h1.away hd h2) h2 h3 (VRs.away hd h4)
  | _, _, .dctT h1 h2 h0 h3 h4 h5 h6 => .dctT (h1.away hd h2) h2 h0 h3 h4 (VRs.away hd h5) (VRs.away hd h6)
  | _, _, .ref h1 => .ref h1
theorem VRs.away {o : HO} (hd : d ∈ L) : ∀ {p : List PV} {v : List V}, VRs Z L H p v → VRs Z L (upd H d o) p v
  | _, _, .nil => .nil
  | _, _, .cons h1 h2 => .cons (VR.away hd h1) (VRs.away hd h2)
end
theorem HR.away {o : HO} {n : Nat} {c : Cell} (r : HR Z L h H) (hp : L[n]? = some d) (x : CR Z L (upd H d o) d c) : HR Z L (h.set n c) (upd H d o) := by
  have hm : d ∈ L := List.mem_of_getElem? hp
  refine ⟨by simp [r.len], r.nd, fun m c' a h1 h2 => ?_⟩
  by_cases hmn : m = n
  · subst hmn
    rw [hp] at h2; cases h2
    have hn : m < h.length := by have := r.len; have := (List.getElem?_eq_some_iff.mp hp).1; omega
    rw [List.getElem?_set_self hn] at h1
    cases h1
    exact x
  · rw [List.getElem?_set_ne (Ne.symm hmn)] at h1
    have hap : a ≠ d := fun e => by
      subst e
      exact hmn ((List.getElem?_inj (List.getElem?_eq_some_iff.mp h2).1 r.nd).mp (h2.trans hp.symm))
    exact (r.cell m c' a h1 h2).map (fun _ _ => VRs.away hm) (upd_ne hap)
theorem ER.away {o : HO} {env : Env} {σ : L2.St} (hd : d ∈ L) (x : ER Z L H env σ) : ER Z L (upd H d o) env σ := ⟨x.len, fun i v h1 => let ⟨y, h2, h3⟩ := x.at_ i v h1; ⟨y, h2, h3.away hd⟩⟩
theorem dx_mut {es : List (PV × PV)} (x : DX Z L H d es) : ∃ u, H d = some u ∧ Mut (some u) ∧ (∀ W : HO → Prop, W u → DP Z L H d W es) ∧ NF H d := by
  have nf := nf_dx x
  cases x with
  | k h1 h2 h3 => exact ⟨_, h1, trivial, fun W w => .k w h2 h3, nf⟩
  | t h1 h0 h2 h3 h4 h5 => exact ⟨_, h1, trivial, fun W w => .t w h0 h2 h3 h4 h5, nf⟩
theorem dl_u {es : List (PV × PV)} (x : DL Z L H d es) : ∃ od u, H d = some (.frz od u) ∧ ∀ W : HO → Prop, W u → DP Z L H d W es := by
  cases x with
  | k h1 h2 h3 => obtain ⟨od, h⟩ := h1; exact ⟨od, _, h, fun W w => .k w h2 h3⟩
  | t h1 h0 h2 h3 h4 h5 => obtain ⟨od, h⟩ := h1; exact ⟨od, _, h, fun W w => .t w h0 h2 h3 h4 h5⟩
theorem ext_lock {od : Obj} {u u' : HO} (hd : d ∈ L) (nf : NF H d) (hH : H d = some u) (e : Ext L (upd H d (.frz od u)) L' H') : Ext L H L' (upd H' d u') := by
  obtain ⟨M, rfl, hM⟩ := e.pre
  refine ⟨⟨M, rfl, fun a ha => ?_⟩, fun a o hn ha => ?_, fun a ha => ?_, fun a o v ha => ?_⟩
  · have := hM a ha
    by_cases q : a = d
    · subst q; rw [upd_same] at this; cases this
    · rw [upd_ne q] at this; exact this
  · have q := ne_mem hn hd
    rw [upd_ne q]
    exact e.keep a o hn (by rw [upd_ne q]; exact ha)
  · unfold upd; split
    · simp
    · rename_i q
      exact e.dom a (by rw [upd_ne q]; exact ha)
  · have q : a ≠ d := fun z => nf o v (by rw [← z]; exact ha)
    rw [upd_ne q]
    exact e.frz a o v (by rw [upd_ne q]; exact ha)
end
section
variable {X : Cx} {pins : List (Addr × Obj)} {σ : L2.St} {s : Shared} {H : Hp} {L : List Addr} {h : PHeap}
/-- a cell is locked -/
theorem lock_in {n : Nat} {es : List (PV × PV)} (I : Inv X pins σ H s) (hr : HR (wd X) L h H) (hc : h[n]? = some (.dct es)) : ∃ d u od, L[n]? = some d ∧ H d = some u ∧ NF H d ∧ (∀ o' u', X.H_0 d ≠ some (.frz o' u')) ∧ Inv X pins σ (upd H d (.frz od u)) s ∧ HR (wd X) L (h.set n (.dctL es)) (upd H d (.frz od u)) := by
  obtain ⟨d, hn, cr⟩ := hr.addr hc
  obtain ⟨u, hu, mu, mk, nf⟩ := dx_mut cr
  obtain ⟨od, I1⟩ := I.lock hu mu
  refine ⟨d, u, od, hn, hu, nf, I.nofrz hu mu, I1, hr.away hn ?_⟩
  exact DP.map (mk (FzAt (upd H d (.frz od u)) d) ⟨od, upd_same⟩) (fun _ _ => VRs.away (List.mem_of_getElem? hn)) fun _ x => x
/-- .. unlocked -/
theorem lock_out {n : Nat} {d : Addr} {es : List (PV × PV)} (I : Inv X pins σ H s) (hr : HR (wd X) L h H) (hn : L[n]? = some d) (hf : ∀ o' u', X.H_0 d ≠ some (.frz o' u')) (hc : h[n]? = some (.dctL es)) : ∃ u, Inv X pins σ (upd H d u) s ∧ HR (wd X) L (h.set n (.dct es)) (upd H d u) := by
  obtain ⟨od, u, hu, mk⟩ := dl_u (hr.cell _ _ _ hc hn)
  refine ⟨u, I.unlock hu hf, hr.away hn ?_⟩
  exact DP.map (mk (fun v => upd H d u d = some v) upd_same) (fun _ _ => VRs.away (List.mem_of_getElem? hn)) fun _ x => x
theorem withLock_ok {α : Type} {n : Nat} {F : PHeap → R α} {h h' : PHeap} {v : α} (e : withLock (some n) F h = .ok v h') : ∃ es g, h[n]? = some (.dct es) ∧ F (h.set n (.dctL es)) = .ok v g ∧ g[n]? = some (.dctL es) ∧ h' = g.set n (.dct es) := by
  unfold withLock at e
  dsimp only at e
  split at e
  · rename_i es hc
    obtain ⟨r, g, e1, e2⟩ := R.bind_eq_ok e
    split at e2
    · rename_i hg
      cases e2
      exact ⟨es, g, hc, e1, hg, rfl⟩
    · cases e2
  · cases e
def lkF (it : II) (F : Env → PHeap → R PV) : Env → PHeap → R PV := fun env h => withLock (lockI it env h) (F env) h
theorem se_lock {it : II} {F : Env → PHeap → R PV} {e : Expr} (pe : PE X e (rE X F)) : PE X e (rE X (lkF it F)) := ⟨fun pins s σ H Q I ⟨L, h, env, v, h', hr, er, eq, post⟩ => by
  unfold lkF at eq
  cases hl : lockI it env h with
  | none => rw [hl] at eq; exact pe.run pins s σ H Q I ⟨L, h, env, v, h', hr, er, eq, post⟩
  | some n =>
    rw [hl] at eq
    obtain ⟨es, g, hc, e1, hg, rfl⟩ := withLock_ok eq
    obtain ⟨d, u, od, hn, hu, nf, hf, I1, hr1⟩ := lock_in I hr hc
    have hm := List.mem_of_getElem? hn
    refine thn (pe.run pins s σ _ (fun x H1 => ∃ L1, Ext L (upd H d (.frz od u)) L1 H1 ∧ HR (wd X) L1 g H1 ∧ VR (wd X) L1 H1 v x) I1 ⟨L, _, env, v, g, hr1, er.away hm, e1, fun x L1 H1 x1 hr1 v1 => ⟨L1, x1, hr1, v1⟩⟩) fun w s1 ⟨x, H1, I2, rx, L1, x1, hr2, v1⟩ => ?_
    obtain ⟨u', I3, hr3⟩ := lock_out I2 hr2 (x1.get hn) hf hg
    exact ⟨x, _, I3, rx, post x L1 _ (ext_lock hm nf hu x1) hr3 (v1.away (List.mem_of_getElem? (x1.get hn)))⟩⟩
end
end HW
/-! HwS: statements. -/
namespace HW
open PySem PySem.Spec PyProof.Rows L2 C8

/-- how a statement's end is read -/
def OutP (Z : Wd) (L : List Addr) (H : Hp) (D : Ends) : Out → Prop
  | .nx e => ∀ σ, ER Z L H e σ → D.nx σ H
  | .bk e => ∀ σ, ER Z L H e σ → D.bk σ H
  | .ct e => ∀ σ, ER Z L H e σ → D.ct σ H
  | .rt v => ∀ x, VR Z L H v x → D.rt x H
def PostS (Z : Wd) (L : List Addr) (H : Hp) (D : Ends) (o : Out) (h' : PHeap) : Prop := ∀ L' H', Ext L H L' H' → HR Z L' h' H' → OutP Z L' H' D o
def rS (X : Cx) (f : Env → PHeap → R Out) : TS := fun D σ H => ∃ L h env o h', HR (wd X) L h H ∧ ER (wd X) L H env σ ∧ f env h = .ok o h' ∧ PostS (wd X) L H D o h'
theorem imS {X : Cx} {e : Stmt} {t t' : TS} (h : PS X e t) (i : ∀ D σ H, t' D σ H → t D σ H) : PS X e t' := ⟨fun pins s σ H D I q => h.run pins s σ H D I (i D σ H q)⟩
theorem imSs {X : Cx} {e : List Stmt} {t t' : TS} (h : PSs X e t) (i : ∀ D σ H, t' D σ H → t D σ H) : PSs X e t' := ⟨fun pins s σ H D I q => h.run pins s σ H D I (i D σ H q)⟩
theorem PostS.aft {Z : Wd} {L L' : List Addr} {H H' : Hp} {h h' : PHeap} {D : Ends} {o : Out} (p : PostS Z L H D o h') (r : HR Z L h H) (e : Ext L H L' H') : PostS Z L' H' D o h' := fun L2 H2 e2 r2 => p L2 H2 (e.tr r e2) r2
def okNoComp : Expr → Bool
  | .ListComp .. => false
  | .SetComp .. => false
  | .DictComp .. => false
  | _ => true
def okNoTup : Expr → Bool
  | .Tuple .. => false
  | _ => true
theorem swaps_no {e : Expr} (h : okNoComp e = true) (t : Option Expr) (l : Nat) (env : PySem.Env) : swapsWith e t l env = pure false := by
  cases e <;> first | rfl | cases h
theorem sole_no {e : Expr} (h : okNoComp e = true) (t : Expr) (l : Nat) (env : PySem.Env) : swapsWithSole [t] e l env = pure false := swaps_no h _ _ _
theorem swapped_no {e : Expr} (h : okNoTup e = true) (t : Expr) (env : PySem.Env) : swappedStores [t] e env = pure none := by
  cases e <;> first | (cases t <;> rfl) | cases h
section
variable {X : Cx} {a b c : Expr} {st : Stmt} {rest : List Stmt} {f g k : Env → PHeap → R PV} {fs gs : Env → PHeap → R Out} {pos p tpos : Pos}
def nxF : Env → PHeap → R Out := fun env h => .ok (.nx env) h
theorem ss_next {t : Stmt} (h : PS X t tNext) : PS X t (rS X nxF) := imS h fun D σ H ⟨L, h, env, o, h', hr, er, e, post⟩ => by
  cases e
  exact post _ _ Ext.refl hr σ er
theorem ss_brk : PS X (.Break pos) (rS X fun env h => .ok (.bk env) h) := imS ps_break fun D σ H ⟨L, h, env, o, h', hr, er, e, post⟩ => by
  cases e
  exact post _ _ Ext.refl hr σ er
theorem ss_cont : PS X (.Continue pos) (rS X fun env h => .ok (.ct env) h) := imS ps_continue fun D σ H ⟨L, h, env, o, h', hr, er, e, post⟩ => by
  cases e
  exact post _ _ Ext.refl hr σ er
theorem ss_expr (ha : PE X a (rE X f)) (ho : okNoComp a = true) : PS X (.Expr a pos) (rS X fun env h => (f env h).bind fun _ h => .ok (.nx env) h) := imS (ps_expr ha (swaps_no ho _ _ _)) fun D σ H ⟨L, h, env, o, h', hr, er, e, post⟩ => by
  obtain ⟨v, h1, e1, e2⟩ := R.bind_eq_ok e
  cases e2
  exact ⟨L, h, env, v, h', hr, er, e1, fun x L1 H1 x1 hr1 v1 => post _ _ x1 hr1 σ (er.mono x1)⟩
theorem ss_ret (ha : PE X a (rE X f)) : PS X (.Return (some a) pos) (rS X fun env h => (f env h).bind fun v h => .ok (.rt v) h) := imS (ps_ret ha) fun D σ H ⟨L, h, env, o, h', hr, er, e, post⟩ => by
  obtain ⟨v, h1, e1, e2⟩ := R.bind_eq_ok e
  cases e2
  exact ⟨L, h, env, v, h', hr, er, e1, fun x L1 H1 x1 hr1 v1 => post _ _ x1 hr1 x v1⟩
theorem ss_retN : PS X (.Return none pos) (rS X fun _ h => .ok (.rt .non) h) := imS ps_retN fun D σ H ⟨L, h, env, o, h', hr, er, e, post⟩ => by
  cases e
  exact post _ _ Ext.refl hr _ .non
/-- name = e -/
def setF (i : Nat) (f : Env → PHeap → R PV) : Env → PHeap → R Out := fun env h => (f env h).bind fun v h => (R.of (tgSet (.nm i) v env) h).bind fun env h => .ok (.nx env) h
theorem setF_ok {i : Nat} {env : Env} {h h' : PHeap} {o : Out} (e : setF i f env h = .ok o h') : ∃ v, f env h = .ok v h' ∧ o = .nx (env.set i (some v)) := by
  obtain ⟨v, h1, e1, e2⟩ := R.bind_eq_ok e
  obtain ⟨env', e3, e4⟩ := R.of_bind e2
  rw [tgSet] at e3
  split at e3
  · cases e3
    cases e4
    exact ⟨v, e1, rfl⟩
  · cases e3
theorem ss_set (hN : X.N.Nodup) {i : Nat} {x : Str} (hi : X.N[i]? = some x) (hx : X.env.scope.names.lookup x = some .local) (ha : PE X a (rE X f)) (ho : okNoComp a = true) : PS X (.Assign [.Name x p] a pos) (rS X (setF i f)) :=
  imS (ps_set hN hi (.inl hx) ha (swaps_no ho _ _ _) (.inr hx)) fun D σ H ⟨L, h, env, o, h', hr, er, e, post⟩ => by
  obtain ⟨v, e1, rfl⟩ := setF_ok e
  exact ⟨L, h, env, v, h', hr, er, e1, fun x L1 H1 x1 hr1 v1 => post _ _ x1 hr1 _ ((er.mono x1).set v1)⟩
/-- o[i] = e -/
def subF (f : Env → PHeap → R PV) (fo fi : Env → PHeap → R PV) : Env → PHeap → R Out := fun env h => (f env h).bind fun v h => ((fo env h).bind fun x h => (fi env h).bind fun y h => match putItem h x y v with
    | some h' => .ok env h'
    | none => .bad).bind fun env h => .ok (.nx env) h
theorem assign_sub {o i : Expr} (h : okIx i = true) (env : PySem.Env) : ∀ v, assign (.Subscript o i pos) env v = (do
      let ov ← holding [v] (eval o env)
      let iv ← holding [v, ov] (eval i env)
      standAt pos
      holding [v, ov, iv] (setItem ov iv v)
      release [v, ov, iv] []) := fun v => by
  cases i <;> first | rfl | cases h
theorem ss_sub (hu : Um X) (ha : PE X a (rE X f)) (hb : PE X b (rE X g)) (hc : PE X c (rE X k)) (ho : okNoComp a = true) (ht : okNoTup a = true) (hi : okIx c = true) : PS X (.Assign [.Subscript b c tpos] a pos) (rS X (subF f g k)) :=
  imS (ps_asg ha (pg_sub hb hc (set_item hu) (assign_sub hi _)) (sole_no ho _ _ _) (swapped_no ht _ _)) fun D σ H ⟨L, h, env, o, h', hr, er, e, post⟩ => by
  obtain ⟨v, h1, e1, e⟩ := R.bind_eq_ok e
  obtain ⟨env', h2, e2, e⟩ := R.bind_eq_ok e
  cases e
  obtain ⟨x, h3, e3, e2⟩ := R.bind_eq_ok e2
  obtain ⟨y, h4, e4, e2⟩ := R.bind_eq_ok e2
  split at e2
  · rename_i h5 hp
    cases e2
    refine ⟨L, h, env, v, h1, hr, er, e1, fun w L1 H1 x1 hr1 v1 => ⟨L1, h1, env, x, h3, hr1, er.mono x1, e3, fun w2 L2 H2 x2 hr2 v2 => ⟨L2, h3, env, y, h4, hr2, er.mono (x1.tr hr x2), e4, fun w3 L3 H3 x3 hr3 v3 => ?_⟩⟩⟩
    have xx := (x1.tr hr x2).tr hr x3
    exact ⟨L3, h4, x, y, v, h', hr3, v2.mono x3, v3, (v1.mono x2).mono x3, hp, fun L4 H4 x4 hr4 => post _ _ (xx.tr hr x4) hr4 σ (er.mono (xx.tr hr x4))⟩
  · cases e2
/-- a tuple of targets = e -/
def tgF (t : Tg) (f : Env → PHeap → R PV) : Env → PHeap → R Out := fun env h => (f env h).bind fun v h => (R.of (tgSet t v env) h).bind fun env h => .ok (.nx env) h
theorem ss_tg {t : Tg} {tge : Expr} (ha : PE X a (rE X f)) (hg : PG X tge (rG X t)) (ho : okNoComp a = true) (ht : okNoTup a = true) (h1 : (assignEach [tge] X.env).map (·.2) = [assign tge X.env]) : PS X (.Assign [tge] a pos) (rS X (tgF t f)) :=
  imS (ps_asg ha hg (sole_no ho _ _ _) (swapped_no ht _ _) h1) fun D σ H ⟨L, h, env, o, h', hr, er, e, post⟩ => by
  obtain ⟨v, h1, e1, e⟩ := R.bind_eq_ok e
  obtain ⟨env', e2, e⟩ := R.of_bind e
  cases e
  exact ⟨L, h, env, v, h', hr, er, e1, fun x L1 H1 x1 hr1 v1 => ⟨L1, h', env, v, env', hr1, er.mono x1, yr_of v1 e2, e2, fun σ' er' _ => post _ _ x1 hr1 σ' er'⟩⟩
/-- name += e -/
def augF (i : Nat) (op : BOp) (f : Env → PHeap → R PV) : Env → PHeap → R Out := fun env h => match env[i]? with
  | some (some x) => (f env h).bind fun y h => (R.of (match x, y with
        | .int _, .int _ => binop op x y h
        | _, _ => none) h).bind fun z h => .ok (.nx (env.set i (some z))) h
  | _ => .bad
theorem ss_aug {g : Int → Int → Int} {op : BOp} {i : Nat} {x : Str} (hN : X.N.Nodup) (hi : X.N[i]? = some x) (hx : Loc X.env.scope x) (hf : X.fn x = true ∨ X.env.scope.names.lookup x = some .local) (ha : PE X a (rE X f)) (hp : PIp X (pyB op) (ipI g)) (hg : ∀ (a b : Int) h, binop op (.int a) (.int b) h = some (.int (g a b))) :
    PS X (.AugAssign (.Name x p) (pyB op) a pos) (rS X (augF i op f)) :=
  imS (ps_aug hN hi hx ha hp hf) fun D σ H ⟨L, h, env, o, h', hr, er, e, post⟩ => by
  unfold augF at e
  split at e
  · rename_i xv hx1
    obtain ⟨y, h1, e1, e2⟩ := R.bind_eq_ok e
    obtain ⟨z, e3, e4⟩ := R.of_bind e2
    cases e4
    split at e3
    · rename_i ia ib
      rw [hg] at e3
      cases e3
      obtain ⟨w, w1, w2⟩ := er.at_ i _ hx1
      cases w2
      refine ⟨.int ia, w1, L, h, env, _, h', hr, er, e1, fun yv L1 H1 x1 hr1 v1 => ?_⟩
      cases v1
      exact ⟨ia, ib, rfl, rfl, post _ _ x1 hr1 _ ((er.mono x1).set (.int _))⟩
    · cases e3
  · cases e
/-! ### blocks, if, for, while -/
def seqF (f g : Env → PHeap → R Out) : Env → PHeap → R Out := fun env h => (f env h).bind fun o h => match o with
    | .nx env => g env h
    | o => .ok o h
theorem sss_nil : PSs X [] (rS X nxF) := imSs pss_nil fun D σ H ⟨L, h, env, o, h', hr, er, e, post⟩ => by
  cases e
  exact post _ _ Ext.refl hr σ er
theorem sss_cons (h1 : PS X st (rS X fs)) (h2 : PSs X rest (rS X gs)) : PSs X (st :: rest) (rS X (seqF fs gs)) := imSs (pss_cons h1 h2) fun D σ H ⟨L, h, env, o, h', hr, er, e, post⟩ => by
  obtain ⟨o1, h1, e1, e2⟩ := R.bind_eq_ok e
  refine ⟨L, h, env, o1, h1, hr, er, e1, fun L1 H1 x1 hr1 => ?_⟩
  cases o1 with
  | nx env1 => exact fun σ1 er1 => ⟨L1, h1, env1, o, h', hr1, er1, e2, post.aft hr x1⟩
  | bk e => cases e2; exact post _ _ x1 hr1
  | ct e => cases e2; exact post _ _ x1 hr1
  | rt v => cases e2; exact post _ _ x1 hr1
def ifF (t : Env → PHeap → R Bool) (f g : Env → PHeap → R Out) : Env → PHeap → R Out := fun env h => (t env h).bind fun t h => if t then f env h else g env h
theorem ss_if {ft : Env → PHeap → R Bool} {xs ys : List Stmt} (hc : PT X c (rT X ft)) (h1 : PSs X xs (rS X fs)) (h2 : PSs X ys (rS X gs)) : PS X (.If c xs ys pos) (rS X (ifF ft fs gs)) := imS (ps_if hc h1 h2) fun D σ H ⟨L, h, env, o, h', hr, er, e, post⟩ => by
  obtain ⟨t, h1, e1, e2⟩ := R.bind_eq_ok e
  refine ⟨L, h, env, t, h1, hr, er, e1, fun L1 H1 x1 hr1 => ?_⟩
  cases t with
  | true => exact ⟨L1, h1, env, o, h', hr1, er.mono x1, e2, post.aft hr x1⟩
  | false => exact ⟨L1, h1, env, o, h', hr1, er.mono x1, e2, post.aft hr x1⟩
def forF (fI : Env → PHeap → R (List PV × Chk)) (t : Tg) (fb : Env → PHeap → R Out) : Env → PHeap → R Out := fun env h => (fI env h).bind fun p h => forGo p.2 (tgSet t) fb p.1 env h
theorem ss_for {fl : Bool} {fI : Env → PHeap → R (List PV × Chk)} {t : Tg} {tge iter : Expr} {body : List Stmt} (hp : PassesOwn (model X.prog X.w) X.A X.env X.xe) (hc : X.calm = true) (hi : PI X tge iter (rI X fl fI)) (hfl : fl = true → isTp t = true) (hg : PG X tge (rG X t)) (hb : PSs X body (rS X fs))
    (hs : ∀ x, foldedSetIterable iter X.env x = pure x) : PS X (.For tge iter body [] pos) (rS X (forF fI t fs)) := imS (ps_for hp hc hi hg hb hs) fun D σ H ⟨L, h, env, o, h', hr, er, e, post⟩ => by
  obtain ⟨⟨xs, chk⟩, h1, e1, e2⟩ := R.bind_eq_ok e
  refine ⟨L, h, env, (xs, chk), h1, hr, er, e1, fun J L1 H1 x1 hr1 walk => ?_⟩
  refine ⟨fun i m σc Hc => m = xs.length - i ∧ i ≤ xs.length ∧ ∃ Lc gc ec, Ext L1 H1 Lc Hc ∧ HR (wd X) Lc gc Hc ∧ ER (wd X) Lc Hc ec σc ∧ forGo chk (tgSet t) fs (xs.drop i) ec gc = .ok o h',
    ⟨xs.length, rfl, Nat.zero_le _, L1, h1, env, Ext.refl, hr1, er.mono x1, e2⟩, ?_⟩
  rintro i m σc Hc ⟨rfl, hile, Lc, gc, ec, xc, hrc, erc, eq⟩
  by_cases hlt : i < xs.length
  · right
    obtain ⟨p, hp⟩ : ∃ p, xs[i]? = some p := ⟨xs[i], List.getElem?_eq_getElem hlt⟩
    have hdrop : xs.drop i = p :: xs.drop (i + 1) := by
      rw [List.drop_eq_getElem_cons hlt]
      have := List.getElem?_eq_some_iff.mp hp
      rw [this.2]
    rw [hdrop] at eq
    unfold forGo at eq
    split at eq
    · rename_i hck
      split at eq
      · rename_i env1 ht1
        obtain ⟨o1, g1, eb, eq2⟩ := R.bind_eq_ok eq
        obtain ⟨go, yl⟩ := (walk i Lc Hc gc xc.w hrc hck).2 p hp
        refine ⟨go, fun σ' H' => ∃ Lc gc ec, Ext L1 H1 Lc H' ∧ HR (wd X) Lc gc H' ∧ ER (wd X) Lc H' ec σ' ∧ forGo chk (tgSet t) fs (xs.drop (i + 1)) ec gc = .ok o h',
          fun σ' H' q => ⟨_, by omega, rfl, hlt, q⟩, fun x H' y => ?_⟩
        obtain ⟨xy, hry, yr⟩ := yl x H' y
        have xx := xc.tr hr1 xy
        refine ⟨Lc, gc, ec, p, env1, hry, erc.mono xy, yr_fix hfl yr ht1, ht1, fun σ' er' _ => ⟨Lc, gc, env1, o1, g1, hry, er', eb, fun L3 H3 x3 hr3 => ?_⟩⟩
        have xx3 := xx.tr hr1 x3
        cases o1 with
        | nx e' => exact fun σ3 er3 => ⟨L3, g1, e', xx3, hr3, er3, eq2⟩
        | ct e' => exact fun σ3 er3 => ⟨L3, g1, e', xx3, hr3, er3, eq2⟩
        | bk e' => cases eq2; exact post _ _ (x1.tr hr xx3) hr3
        | rt v => cases eq2; exact post _ _ (x1.tr hr xx3) hr3
      · cases eq
    · cases eq
  · left
    have hi2 : i = xs.length := by omega
    subst hi2
    rw [List.drop_length] at eq
    unfold forGo at eq
    split at eq
    · rename_i hck
      cases eq
      exact ⟨(walk _ Lc Hc h' xc.w hrc hck).1 rfl, post _ _ (x1.tr hr xc) hrc σc erc⟩
    · cases eq
theorem ss_while {ft : Env → PHeap → R Bool} {n : Nat} {body : List Stmt} (hp : PassesOwn (model X.prog X.w) X.A X.env X.xe) (hc : PT X c (rT X ft)) (hb : PSs X body (rS X fs)) : PS X (.While c body [] pos) (rS X (whileGo ft fs n)) := imS (ps_while hp hc hb) fun D σ H ⟨L, h, env, o, h', hr, er, e, post⟩ => by
  refine ⟨fun m σc Hc => ∃ Lc gc ec, Ext L H Lc Hc ∧ HR (wd X) Lc gc Hc ∧ ER (wd X) Lc Hc ec σc ∧ whileGo ft fs m ec gc = .ok o h', ⟨n, L, h, env, Ext.refl, hr, er, e⟩, ?_⟩
  rintro m σc Hc ⟨Lc, gc, ec, xc, hrc, erc, eq⟩
  cases m with
  | zero => cases eq
  | succ m =>
    unfold whileGo at eq
    obtain ⟨t, g1, e1, e2⟩ := R.bind_eq_ok eq
    refine ⟨Lc, gc, ec, t, g1, hrc, erc, e1, fun L1 H1 x1 hr1 => ?_⟩
    have xx := xc.tr hr x1
    cases t with
    | true =>
      simp only [if_true] at e2 ⊢
      obtain ⟨o1, g2, e3, e4⟩ := R.bind_eq_ok e2
      refine ⟨fun σ' H' => ∃ Lc gc ec, Ext L H Lc H' ∧ HR (wd X) Lc gc H' ∧ ER (wd X) Lc H' ec σ' ∧ whileGo ft fs m ec gc = .ok o h', fun σ' H' q => ⟨m, Nat.lt_succ_self m, q⟩, L1, g1, ec, o1, g2, hr1, erc.mono x1, e3, fun L3 H3 x3 hr3 => ?_⟩
      have xx3 := xx.tr hr x3
      cases o1 with
      | nx e' => exact fun σ3 er3 => ⟨L3, g2, e', xx3, hr3, er3, e4⟩
      | ct e' => exact fun σ3 er3 => ⟨L3, g2, e', xx3, hr3, er3, e4⟩
      | bk e' => cases e4; exact post _ _ xx3 hr3
      | rt v => cases e4; exact post _ _ xx3 hr3
    | false =>
      simp only [Bool.false_eq_true, if_false] at e2 ⊢
      cases e2
      exact post _ _ xx hr1 σc (erc.mono x1)
/-! ### targets of a general kind -/
section
variable {ctx : List Sem} {elts : List Expr} {kk : Nat}
def rTI (X : Cx) (ctx : List Sem) (t : ITgt) : TG := fun v σ H Q => ∃ L h env p env' h', HR (wd X) L h H ∧ ER (wd X) L H env σ ∧ VR (wd X) L H p v ∧ dTg ctx t p env h = .ok env' h' ∧ ∀ σ' L' H', Ext L H L' H' → HR (wd X) L' h' H' → ER (wd X) L' H' env' σ' → Q σ' H'
def rTIs (X : Cx) (ctx : List Sem) (ts : List ITgt) : TGs := fun vs σ H Q => ∃ L h env ps env' h', HR (wd X) L h H ∧ ER (wd X) L H env σ ∧ VRs (wd X) L H ps vs ∧ ps.length = ts.length ∧ dTgs ctx ts ps env h = .ok env' h' ∧ ∀ σ' L' H', Ext L H L' H' → HR (wd X) L' h' H' → ER (wd X) L' H' env' σ' → Q σ' H'
theorem sg_nmI (hN : X.N.Nodup) {i : Nat} {x : Str} (hi : X.N[i]? = some x) (hx : Loc X.env.scope x) (hf : X.fn x = true ∨ X.env.scope.names.lookup x = some .local) : PG X (.Name x pos) (rTI X ctx (.tg (.nm i))) :=
  imG (pg_name hN hi hx hf) fun v σ H Q ⟨L, h, env, p, env', h', hr, er, y, e, q⟩ => by
  obtain ⟨e1, rfl⟩ := R.of_eq_ok (show R.of (tgSet (.nm i) p env) h = .ok env' h' from e)
  rw [tgSet] at e1
  split at e1
  · cases e1
    exact q _ _ _ Ext.refl hr (er.set y)
  · cases e1
theorem sg_subI (hu : Um X) {fo fi : IE} {o i : Expr} (hb : PE X o (rE X (dE ctx fo))) (hc : PE X i (rE X (dE ctx fi))) (hi : okIx i = true) : PG X (.Subscript o i tpos) (rTI X ctx (.sub fo fi)) :=
  imG (pg_sub hb hc (set_item hu) (assign_sub hi _)) fun v σ H Q ⟨L, h, env, p, env', h', hr, er, vp, e, q⟩ => by
  obtain ⟨x, h3, e3, e2⟩ := R.bind_eq_ok (show ((dE ctx fo env h).bind fun x h => (dE ctx fi env h).bind fun y h => match putItem h x y p with
    | some h' => .ok env h'
    | none => .bad) = .ok env' h' from e)
  obtain ⟨y, h4, e4, e2⟩ := R.bind_eq_ok e2
  split at e2
  · rename_i h5 hp
    cases e2
    refine ⟨L, h, env, x, h3, hr, er, e3, fun w2 L2 H2 x2 hr2 v2 => ⟨L2, h3, env, y, h4, hr2, er.mono x2, e4, fun w3 L3 H3 x3 hr3 v3 => ?_⟩⟩
    have xx := x2.tr hr x3
    exact ⟨L3, h4, x, y, p, h', hr3, v2.mono x3, v3, (vp.mono x2).mono x3, hp, fun L4 H4 x4 hr4 => q σ _ _ (xx.tr hr x4) hr4 (er.mono (xx.tr hr x4))⟩
  · cases e2
theorem sgsI_nil : PGs X [] (rTIs X ctx []) := imGs pgs_nil fun v σ H Q ⟨L, h, env, ps, env', h', hr, er, y, hl, e, q⟩ => by
  cases ps with
  | cons _ _ => cases hl
  | nil =>
    cases y
    cases e
    exact ⟨rfl, q σ _ _ Ext.refl hr er⟩
theorem sgsI_cons {t : ITgt} {ts : List ITgt} {es : List Expr} (h1 : PG X a (rTI X ctx t)) (h2 : PGs X es (rTIs X ctx ts)) (ho : okArg a = true) : PGs X (a :: es) (rTIs X ctx (t :: ts)) :=
  imGs (pgs_cons h1 h2 (by rw [assign_star ho]; rfl)) fun v σ H Q ⟨L, h, env, ps, env', h', hr, er, y, hl, e, q⟩ => by
  cases ps with
  | nil => cases hl
  | cons p ps =>
    cases y with
    | cons y1 y2 =>
      obtain ⟨env1, h1', e1, e2⟩ := R.bind_eq_ok (show ((dTg ctx t p env h).bind fun env h => dTgs ctx ts ps env h) = .ok env' h' from e)
      exact ⟨_, _, rfl, L, h, env, p, env1, h1', hr, er, y1, e1, fun σ' L' H' x hr' er' => ⟨L', h1', env1, ps, env', h', hr', er', y2.mono x, by simpa using hl, e2, fun σ2 L2 H2 x2 hr2 er2 => q σ2 L2 H2 (x.tr hr x2) hr2 er2⟩⟩
theorem dTgs_len : ∀ {ts : List ITgt} {vs : List PV} {env env' : Env} {h h' : PHeap}, dTgs ctx ts vs env h = .ok env' h' → vs.length = ts.length
  | [], [], _, _, _, _, _ => rfl
  | [], _ :: _, _, _, _, _, e => by cases e
  | _ :: _, [], _, _, _, _, e => by cases e
  | t :: ts, v :: vs, env, env', h, h', e => by
    obtain ⟨env1, h1, e1, e2⟩ := R.bind_eq_ok (show ((dTg ctx t v env h).bind fun env h => dTgs ctx ts vs env h) = .ok env' h' from e)
    simp [dTgs_len e2]
theorem ss_parG {tes ves : List Expr} {k k2 : Nat} {pt p2 : Pos} {ts : List ITgt} {fa : Env → PHeap → R (List PV)} (hc : X.calm = true) (ha : PA X ves (rA X fa)) (hl : ∀ env h vs h', fa env h = .ok vs h' → vs.length ≤ sizeLine) (hg : PGs X tes (rTIs X ctx ts)) (ho : tes.all okArg = true) (hlen : tes.length = ts.length)
    (hw : swappedStores [.Tuple tes k pt] (.Tuple ves k2 p2) X.env = pure none) : PS X (.Assign [.Tuple tes k pt] (.Tuple ves k2 p2) pos) (rS X fun env h => (fa env h).bind fun vs h => (dTgs ctx ts vs env h).bind fun env h => .ok (.nx env) h) :=
  imS (ps_asg (se_tup (pos := p2) (x1 := k2) ha hl) (pg_tup (pos := pt) (k := k) hc hg (assign_len ho).1 (assign_len ho).2) (sole_no rfl _ _ _) hw rfl) fun D σ H ⟨L, h, env, o, h', hr, er, e, post⟩ => by
  obtain ⟨vs, h1, e1, e⟩ := R.bind_eq_ok e
  obtain ⟨env', h2, e2, e⟩ := R.bind_eq_ok e
  cases e
  refine ⟨L, h, env, .tup vs, h1, hr, er, by show ((fa env h).bind fun vs h => R.ok (PV.tup vs) h) = _; rw [e1]; rfl, fun x L1 H1 x1 hr1 v1 => ?_⟩
  cases v1 with
  | tup g1 g2 g3 =>
    have l2 := dTgs_len e2
    exact ⟨_, _, rfl, TupAt.sq g1, by rw [g3.length, l2, hlen], L1, h1, env, vs, env', h', hr1, er.mono x1, g3, l2, e2, fun σ' L' H' x2 hr2 er2 => post _ _ (x1.tr hr x2) hr2 σ' er2⟩
end
/-! ### several names at once -/
theorem ss_par2 {es : List Expr} {fa : Env → PHeap → R (List PV)} {i j : Nat} {x y : Str} {px py pt pt2 : Pos} {kt k2 : Nat} (hc : X.calm = true) (hN : X.N.Nodup) (hi : X.N[i]? = some x) (hj : X.N[j]? = some y) (hij : i ≠ j)
    (hx : X.env.scope.names.lookup x = some .local) (hy : X.env.scope.names.lookup y = some .local) (ha : PA X [a, b] (rA X fa)) (hw : swappedStores [.Tuple [.Name x px, .Name y py] kt pt] (.Tuple [a, b] k2 pt2) X.env = pure (some [x, y])) :
    PS X (.Assign [.Tuple [.Name x px, .Name y py] kt pt] (.Tuple [a, b] k2 pt2) pos) (rS X fun env h => (fa env h).bind fun vs h => match vs with
      | [v, w] => .ok (.nx ((env.set i (some v)).set j (some w))) h
      | _ => .bad) := imS (ps_par hc hN hi hj hij hx hy ha hw (sole_no rfl _ _ _)) fun D σ H ⟨L, h, env, o, h', hr, er, e, post⟩ => by
  obtain ⟨vs, h1, e1, e2⟩ := R.bind_eq_ok e
  split at e2
  · rename_i v w
    cases e2
    refine ⟨L, h, env, _, h', hr, er, e1, fun xs L1 H1 x1 hr1 v1 => ?_⟩
    cases v1 with
    | cons v1 v2 =>
      cases v2 with
      | cons v2 v3 =>
        cases v3
        exact ⟨_, _, rfl, post _ _ x1 hr1 _ (((er.mono x1).set v1).set v2)⟩
  · cases e2
theorem ss_par3 {es : List Expr} {fa : Env → PHeap → R (List PV)} {i j l : Nat} {x y z : Str} {px py pz pt pt2 : Pos} {kt k2 : Nat} (hc : X.calm = true) (hN : X.N.Nodup) (hi : X.N[i]? = some x) (hj : X.N[j]? = some y) (hl : X.N[l]? = some z) (hij : i ≠ j) (hil : i ≠ l) (hjl : j ≠ l)
    (hx : X.env.scope.names.lookup x = some .local) (hy : X.env.scope.names.lookup y = some .local) (hz : X.env.scope.names.lookup z = some .local) (ha : PA X [a, b, c] (rA X fa)) (hw : swappedStores [.Tuple [.Name x px, .Name y py, .Name z pz] kt pt] (.Tuple [a, b, c] k2 pt2) X.env = pure (some [x, y, z])) :
    PS X (.Assign [.Tuple [.Name x px, .Name y py, .Name z pz] kt pt] (.Tuple [a, b, c] k2 pt2) pos) (rS X fun env h => (fa env h).bind fun vs h => match vs with
      | [u, v, w] => .ok (.nx (((env.set i (some u)).set j (some v)).set l (some w))) h
      | _ => .bad) := imS (ps_par3 hc hN hi hj hl hij hil hjl hx hy hz ha hw (sole_no rfl _ _ _)) fun D σ H ⟨L, h, env, o, h', hr, er, e, post⟩ => by
  obtain ⟨vs, h1, e1, e2⟩ := R.bind_eq_ok e
  split at e2
  · rename_i u v w
    cases e2
    refine ⟨L, h, env, _, h', hr, er, e1, fun xs L1 H1 x1 hr1 v1 => ?_⟩
    cases v1 with
    | cons v1 v2 =>
      cases v2 with
      | cons v2 v3 =>
        cases v3 with
        | cons v3 v4 =>
          cases v4
          exact ⟨_, _, _, rfl, post _ _ x1 hr1 _ ((((er.mono x1).set v1).set v2).set v3)⟩
  · cases e2
/-! ### a dict that is walked -/
def lkS (it : II) (F : Env → PHeap → R Out) : Env → PHeap → R Out := fun env h => withLock (lockI it env h) (F env) h
theorem ss_lock {it : II} {F : Env → PHeap → R Out} (ps : PS X st (rS X F)) : PS X st (rS X (lkS it F)) := ⟨fun pins s σ H D I ⟨L, h, env, o, h', hr, er, eq, post⟩ => by
  unfold lkS at eq
  cases hl : lockI it env h with
  | none => rw [hl] at eq; exact ps.run pins s σ H D I ⟨L, h, env, o, h', hr, er, eq, post⟩
  | some n =>
    rw [hl] at eq
    obtain ⟨es, g, hc, e1, hg, rfl⟩ := withLock_ok eq
    obtain ⟨d, u, od, hn, hu, nf, hf, I1, hr1⟩ := lock_in I hr hc
    have hm := List.mem_of_getElem? hn
    have back : ∀ {σ1 : L2.St} {s1 : Shared} {L1 : List Addr} {H1 : Hp}, Inv X pins σ1 H1 s1 → Ext L (upd H d (.frz od u)) L1 H1 → HR (wd X) L1 g H1 → ∃ u', Inv X pins σ1 (upd H1 d u') s1 ∧ HR (wd X) L1 (g.set n (.dct es)) (upd H1 d u') ∧ Ext L H L1 (upd H1 d u') ∧ d ∈ L1 := fun {σ1 s1 L1 H1} I2 x1 hr2 => by
      obtain ⟨u', I3, hr3⟩ := lock_out I2 hr2 (x1.get hn) hf hg
      exact ⟨u', I3, hr3, ext_lock hm nf hu x1, List.mem_of_getElem? (x1.get hn)⟩
    let D' : Ends := ⟨fun σ1 H1 => ∃ L1 e, o = .nx e ∧ Ext L (upd H d (.frz od u)) L1 H1 ∧ HR (wd X) L1 g H1 ∧ ER (wd X) L1 H1 e σ1, fun x H1 => ∃ L1 v, o = .rt v ∧ Ext L (upd H d (.frz od u)) L1 H1 ∧ HR (wd X) L1 g H1 ∧ VR (wd X) L1 H1 v x,
      fun σ1 H1 => ∃ L1 e, o = .bk e ∧ Ext L (upd H d (.frz od u)) L1 H1 ∧ HR (wd X) L1 g H1 ∧ ER (wd X) L1 H1 e σ1, fun σ1 H1 => ∃ L1 e, o = .ct e ∧ Ext L (upd H d (.frz od u)) L1 H1 ∧ HR (wd X) L1 g H1 ∧ ER (wd X) L1 H1 e σ1⟩
    refine thn (ps.run pins s σ _ D' I1 ⟨L, _, env, o, g, hr1, er.away hm, e1, fun L1 H1 x1 hr1' => ?_⟩) fun fl s1 q => ?_
    · cases o with
      | nx e => exact fun σ1 er1 => ⟨L1, e, rfl, x1, hr1', er1⟩
      | bk e => exact fun σ1 er1 => ⟨L1, e, rfl, x1, hr1', er1⟩
      | ct e => exact fun σ1 er1 => ⟨L1, e, rfl, x1, hr1', er1⟩
      | rt v => exact fun x v1 => ⟨L1, v, rfl, x1, hr1', v1⟩
    · cases fl with
      | next =>
        obtain ⟨σ1, H1, I2, L1, e, rfl, x1, hr2, er2⟩ := q
        obtain ⟨u', I3, hr3, x2, hm2⟩ := back I2 x1 hr2
        exact ⟨σ1, _, I3, post _ _ x2 hr3 σ1 (er2.away hm2)⟩
      | brk =>
        obtain ⟨σ1, H1, I2, L1, e, rfl, x1, hr2, er2⟩ := q
        obtain ⟨u', I3, hr3, x2, hm2⟩ := back I2 x1 hr2
        exact ⟨σ1, _, I3, post _ _ x2 hr3 σ1 (er2.away hm2)⟩
      | cont =>
        obtain ⟨σ1, H1, I2, L1, e, rfl, x1, hr2, er2⟩ := q
        obtain ⟨u', I3, hr3, x2, hm2⟩ := back I2 x1 hr2
        exact ⟨σ1, _, I3, post _ _ x2 hr3 σ1 (er2.away hm2)⟩
      | ret w =>
        obtain ⟨x, σ1, H1, I2, rx, L1, v, rfl, x1, hr2, v2⟩ := q
        obtain ⟨u', I3, hr3, x2, hm2⟩ := back I2 x1 hr2
        exact ⟨x, σ1, _, I3, rx, post _ _ x2 hr3 x (v2.away hm2)⟩⟩
end
end HW
/-! HwT: dict comprehensions with any keys; comprehensions that are named. -/
namespace HW
open PySem PySem.Spec PyProof.Rows L2 C8

/-- d[k] = v within a comprehension, by values -/
abbrev TDs := Addr → V → V → Hp → (Hp → Prop) → Prop
def PDs (X : Cx) (ts : TDs) : Prop := ∀ (pins : List (Addr × Obj)) (s : Shared) (σ : L2.St) (H : Hp) (D : Addr) (y z : V) (u r : Value) (Q : Hp → Prop) (E : Value → Shared → Prop), Inv X pins σ H s → RelV y u → RelV z r → ts D y z H Q →
  wpAny (model X.prog X.w) X.A (dictSet D u r) (fun _ s' => ∃ H', Inv X pins σ H' s' ∧ Q H') E s
def tDcP (wi : TI) (g : TG) (tt : TT) (tk tv : TE) (ts : TDs) (vs : List Nat) : TE := fun σ H Q => wi σ H fun J H1 => ∀ D, H1 D = none → ∃ W : Nat → Nat → Hp → Prop, (∃ m, W 0 m (upd H1 D (.dK []))) ∧ ∀ i m H, W i m H →
  (J.stop i H ∧ Q (.ref D) H) ∨ (J.go i H ∧ ∃ Nx : Hp → Prop, (∀ H', Nx H' → ∃ m', m' < m ∧ W (i + 1) m' H') ∧ ∀ x H', J.yld i H x H' → g x (wipe σ vs) H' fun σ2 H2 => wipe σ2 vs = wipe σ vs ∧ tt σ2 H2 fun b H3 =>
    if b = true then tk σ2 H3 fun y H4 => tv σ2 H4 fun z H5 => ts D y z H5 Nx else Nx H3)
section
variable {X : Cx}
theorem dcP_core {pins : List (Addr × Obj)} {s : Shared} {σ : L2.St} {H : Hp} {Q : VK} {kx vx tg iter : Expr} {ifs : List Expr} {sco : Scope} {ow : List (Str × Nat)} {pos pos' : Pos} {wi : TI} {g : TG} {tt : TT} {tk tv : TE} {ts : TDs} {use : Option (Value → PySem.Sem Unit)} {Qf : Value → Shared → Prop}
    (hc : X.calm = true) (hN : X.N.Nodup) (I : Inv X pins σ H s) (hi : PI X tg iter wi) (ok : BlkOk X.N X.env.scope sco ow)
    (hg : ∀ (s : Shared) (H : Hp) (C : Addr) (cl : List (Str × Addr)) (fq : List Addr), PG (X.blk s H sco (compEnvC sco cl C X.env) fq) tg g) (ht : ∀ (s : Shared) (H : Hp) (C : Addr) (cl : List (Str × Addr)) (fq : List Addr), PTs (X.blk s H sco (compEnvC sco cl C X.env) fq) ifs tt)
    (hk : ∀ (s : Shared) (H : Hp) (C : Addr) (cl : List (Str × Addr)) (fq : List Addr), PE (X.blk s H sco (compEnvC sco cl C X.env) fq) kx tk)
    (he : ∀ (s : Shared) (H : Hp) (C : Addr) (cl : List (Str × Addr)) (fq : List Addr), PE (X.blk s H sco (compEnvC sco cl C X.env) fq) vx tv) (hs : ∀ x, foldedSetIterable iter X.env x = pure x)
    (hstep : ∀ (s : Shared) (H : Hp) (C : Addr) (cl : List (Str × Addr)) (fq : List Addr), PDs (X.blk s H sco (compEnvC sco cl C X.env) fq) ts)
    (h : tDcP wi g tt tk tv ts (ow.map (·.2)) σ H Q)
    (hEnd : ∀ N0 C s' m H', Inv X pins σ H' s' → Q (.ref N0) H' → s'.heap.Ns C m → FpOk X pins H' C → compPost (model X.prog X.w) X.A X.xe use Qf (.ref N0) C (.ok .next) s') :
    wpAny (model X.prog X.w) X.A (comprehension (.DictComp kx vx [⟨tg, iter, ifs, 0⟩] sco pos) sco X.env pos' newDict false (eval iter X.env) use) Qf X.xe s := by
  have hfr : ∀ y ∈ sco.names, y.2 = .free → ∃ c, X.env.cells.lookup y.1 = some c := fun y hy e => by
    rcases ok.free y hy e with k | k
    · exact I.ok.has _ (.inl k)
    · exact I.ok.has _ (.inr k)
  refine wpAny_comprehension_free (use := use) rfl hs (closure_ok hfr) ok.kind (fun y hy e => by rw [ok.uniq y hy, e])
    (thn (hi.run pins s σ H _ I h) fun xv z1 hx => thn hx fun itv z2 h2 => ?_)
  obtain ⟨itr, fq, tn, J, G2, e, J2, Tn, ut2, e2_, q⟩ := h2
  subst e
  refine wpAny_newObj_type (newEnv_comp ?_)
  generalize hN0 : z2.heap.objs.size = N0
  have hNn : G2 N0 = none := J2.hok.fresh (Nat.le_of_eq hN0)
  obtain ⟨Wn, ⟨k0, v0⟩, turns⟩ := q N0 hNn
  -- the new list
  generalize ht3 : ({ z2 with heap := z2.heap.push { cls := .type "dict", data := .dict #[] } } : Shared) = z3
  have J3 : Inv X pins σ (upd G2 N0 (.dK [])) z3 := by
    rw [← ht3]
    refine J2.laid (t' := z2.toks) (fun b o e => Heap.get?_push_of_some _ e) (Nat.le_of_eq hN0) ?_
    rw [← hN0]
    exact dk_empty z2.heap J2.big
  have k3 : z3.heap = z2.heap.push { cls := .type "dict", data := .dict #[] } := by rw [← ht3]
  have szs : ∀ b ∈ fq, b < z2.heap.objs.size := fun b hb => by
    obtain ⟨o, e, _⟩ := Tn.obj _ _ ut2 b hb
    exact Heap.lt_size e
  have e3_ : ∀ b ∈ fq, FpOk X pins (upd G2 N0 (.dK [])) b ∧ b < z3.heap.objs.size := fun b hb => by
    have hlt := szs b hb
    refine ⟨⟨?_, (e2_ b hb).2⟩, by rw [k3, Heap.size_push]; exact Nat.lt_succ_of_lt hlt⟩
    rw [upd_ne (by rw [← hN0]; exact Nat.ne_of_lt hlt)]
    exact (e2_ b hb).1
  have ut3 : tn 0 z3.heap := Tn.keep _ _ _ ut2 fun b _ o e => by rw [k3]; exact Heap.get?_push_of_some _ e
  have J4 := block_start J3 ok hN e3_
  have pg := hg z3 (upd G2 N0 (.dK [])) z3.heap.objs.size (cellsFrom (z3.heap.objs.size + 1) sco.names (cloFrom X.env.cells sco.names [])) fq
  have pt := ht z3 (upd G2 N0 (.dK [])) z3.heap.objs.size (cellsFrom (z3.heap.objs.size + 1) sco.names (cloFrom X.env.cells sco.names [])) fq
  have pk := hk z3 (upd G2 N0 (.dK [])) z3.heap.objs.size (cellsFrom (z3.heap.objs.size + 1) sco.names (cloFrom X.env.cells sco.names [])) fq
  have pd := hstep z3 (upd G2 N0 (.dK [])) z3.heap.objs.size (cellsFrom (z3.heap.objs.size + 1) sco.names (cloFrom X.env.cells sco.names [])) fq
  have pe := he z3 (upd G2 N0 (.dK [])) z3.heap.objs.size (cellsFrom (z3.heap.objs.size + 1) sco.names (cloFrom X.env.cells sco.names [])) fq
  show codeAny _ _ (.compStart (.DictComp kx vx [⟨tg, iter, ifs, 0⟩] sco pos) 0 (.ref itr) (.ref N0) (compEnvC sco (cellsFrom (z3.heap.objs.size + 1) sco.names (cloFrom X.env.cells sco.names [])) z3.heap.objs.size X.env)) (compPost (model X.prog X.w) X.A X.xe use Qf (.ref N0) z3.heap.objs.size) { z3 with heap := pushCells (z3.heap.push { cls := .type "dict", data := .dict #[] }) sco.names }
  have nfq : ∀ b ∈ fq, (upd G2 N0 (.dK [])) b = none := fun b hb => (e3_ b hb).1.1
  generalize hbe : compEnvC sco (cellsFrom (z3.heap.objs.size + 1) sco.names (cloFrom X.env.cells sco.names [])) z3.heap.objs.size X.env = be at J4 pg pt pk pd pe ⊢
  have bL : be.locals = z3.heap.objs.size := by subst hbe; rfl
  generalize hG3 : upd G2 N0 (.dK []) = G3 at J3 J4 pg pt pk pd pe v0 nfq e3_
  generalize ht4 : ({ z3 with heap := pushCells (z3.heap.push { cls := .type "dict", data := .dict #[] }) sco.names } : Shared) = z4 at J4 ⊢
  have ut4 : tn 0 z4.heap := Tn.keep _ _ _ ut3 fun b _ o e => by rw [← ht4]; exact pushCells_keeps _ _ _ _ (Heap.get?_push_of_some _ e)
  have stays : ∀ {σ' : L2.St} {H' : Hp} {s' : Shared}, Inv (X.blk z3 G3 sco be fq) [] σ' H' s' → (∀ b ∈ fq, H' b = none) → ∀ b ∈ fq, FpOk (X.blk z3 G3 sco be fq) [] H' b := fun {σ' H' s'} I' hn b hb =>
    ⟨hn b hb, (I'.ok.exf b hb).1, I'.ok.exfs b hb, .inl hb, fun x c e => (I'.ok.exf b hb).2 x c e, fun p hp => absurd (show p ∈ ([] : List (Addr × Obj)) ++ [] from hp) (by simp)⟩
  have goes : codeAny (model X.prog X.w) X.A (.compLoop (.DictComp kx vx [⟨tg, iter, ifs, 0⟩] sco pos) 0 (.ref itr) (.ref N0) be) (compPost (model X.prog X.w) X.A X.xe use Qf (.ref N0) z3.heap.objs.size) z4 := by
    refine compLoop_anyD (fun n s' => ∃ i H', Inv (X.blk z3 G3 sco be fq) [] (wipe σ (ow.map (·.2))) H' s' ∧ tn i s'.heap ∧ (∀ b ∈ fq, H' b = none) ∧ Wn i n H') ?_ k0 ⟨0, G3, J4, ut4, nfq, v0⟩
    rintro n z5 ⟨i, G5, J5, ut5, n5, w5⟩
    rcases turns i n G5 w5 with ⟨stop, qq⟩ | ⟨go, Ny, hNy, step⟩
    · have td := Tn.done (X.blk z3 G3 sco be fq) rfl rfl rfl hc i [] z5 _ G5 (fun _ _ => False) J5 (stays J5 n5) ut5 stop
      refine thnF td fun r z6 ⟨hr, J6⟩ => ?_
      subst hr
      -- back in the def's context
      have J7 : Inv X pins σ G5 z6 := J3.call' (ch := fq) J6.os J6.base J6.hok J6.bare fun b hb => ⟨(e3_ b hb).1.2.2.2.1, (e3_ b hb).1.2.1, (e3_ b hb).1.2.2.2.2.1, (e3_ b hb).1.2.2.2.2.2⟩
      have nC : G5 z3.heap.objs.size = none := by
        have zz : G5 be.locals = none := J6.free
        rw [bL] at zz
        exact zz
      obtain ⟨m, hn, _⟩ := J6.loc
      have hn : z6.heap.Ns be.locals m := hn
      rw [bL] at hn
      exact hEnd N0 z3.heap.objs.size z6 m G5 J7 qq hn (J3.fpOk (Nat.le_refl _) nC)
    · have ti := Tn.item (X.blk z3 G3 sco be fq) rfl rfl rfl hc i [] z5 _ G5 (fun _ _ => False) J5 (stays J5 n5) ut5 go
      refine thnF ti fun r z6 ⟨u, hr, h6⟩ => ?_
      subst hr
      refine thnF h6 fun _ z7 ⟨x, G7, J7, r7, y7, ut7, n7⟩ => ?_
      have I7' := J7.pinned (stays J7 n7) (Tn.obj _ _ ut7)
      refine thnF (pg.run _ z7 _ G7 x u _ I7' r7 (step x G7 y7)) fun _ z8 ⟨σ8, G8, J8, hw8, q8⟩ => ?_
      refine thnF (pt.run _ z8 σ8 G8 _ J8 q8) fun b z9 ⟨G9, J9, q9⟩ => ?_
      -- the turn's end
      have ends : ∀ {s' : Shared} {H' : Hp}, Inv (X.blk z3 G3 sco be fq) ([] ++ pinsAt fq z7.heap) σ8 H' s' → Ny H' → ∃ m, m < n ∧ ∃ i H', Inv (X.blk z3 G3 sco be fq) [] (wipe σ (ow.map (·.2))) H' s' ∧ tn i s'.heap ∧ (∀ b ∈ fq, H' b = none) ∧ Wn i m H' := fun {s' H'} I' nx => by
        obtain ⟨m', hm, w'⟩ := hNy H' nx
        have pinned' : ∀ b ∈ fq, ∀ o, z7.heap.get? b = some o → s'.heap.get? b = some o ∧ H' b = none := fun b hb o e =>
          let zz := I'.pin (b, o) (List.mem_append_right _ (List.mem_append_right _ (mem_pinsAt hb e)))
          ⟨zz.1, zz.2.1⟩
        have hl : (wipe σ (ow.map (·.2))).length = σ8.length := by rw [← hw8, wipe_length]
        refine ⟨m', hm, i + 1, H', (I'.unpinned (pins := [])).weak hl (fun j v e => ?_), Tn.keep _ _ _ ut7 fun b hb o e => (pinned' b hb o e).1, fun b hb => ?_, w'⟩
        · rw [← hw8] at e
          exact (wipe_some e).1
        · obtain ⟨o, e, _⟩ := Tn.obj _ _ ut7 b hb
          exact (pinned' b hb o e).2
      cases b with
      | false =>
        simp only [Bool.false_eq_true, if_false] at q9 ⊢
        exact ends J9 q9
      | true =>
        simp only [if_true] at q9 ⊢
        refine thnF (pk.run _ z9 σ8 G9 _ J9 q9) fun zz z10 ⟨yk, G10, J10, r10, q10⟩ => ?_
        refine thnF (pe.run _ z10 σ8 G10 _ J10 q10) fun zw z11 ⟨yv, G11, J11, r11, nx⟩ => ?_
        exact thnF (pd _ z11 σ8 G11 N0 yk yv zz zw _ (fun _ _ => False) J11 r10 r11 nx) fun _ z12 ⟨G12, J12, n12⟩ => ends J12 n12
  exact codeAny_compStart_dict goes (Tn.self X.A 0 _ _ _ ut4 goes)

theorem pe_dcP {kx vx tg iter : Expr} {ifs : List Expr} {sco : Scope} {ow : List (Str × Nat)} {pos : Pos} {wi : TI} {g : TG} {tt : TT} {tk tv : TE} {ts : TDs} (hc : X.calm = true) (hN : X.N.Nodup) (hi : PI X tg iter wi) (ok : BlkOk X.N X.env.scope sco ow)
    (hg : ∀ (s : Shared) (H : Hp) (C : Addr) (cl : List (Str × Addr)) (fq : List Addr), PG (X.blk s H sco (compEnvC sco cl C X.env) fq) tg g) (ht : ∀ (s : Shared) (H : Hp) (C : Addr) (cl : List (Str × Addr)) (fq : List Addr), PTs (X.blk s H sco (compEnvC sco cl C X.env) fq) ifs tt)
    (hk : ∀ (s : Shared) (H : Hp) (C : Addr) (cl : List (Str × Addr)) (fq : List Addr), PE (X.blk s H sco (compEnvC sco cl C X.env) fq) kx tk)
    (he : ∀ (s : Shared) (H : Hp) (C : Addr) (cl : List (Str × Addr)) (fq : List Addr), PE (X.blk s H sco (compEnvC sco cl C X.env) fq) vx tv) (hs : ∀ x, foldedSetIterable iter X.env x = pure x)
    (hstep : ∀ (s : Shared) (H : Hp) (C : Addr) (cl : List (Str × Addr)) (fq : List Addr), PDs (X.blk s H sco (compEnvC sco cl C X.env) fq) ts) :
    PE X (.DictComp kx vx [⟨tg, iter, ifs, 0⟩] sco pos) (tDcP wi g tt tk tv ts (ow.map (·.2))) := ⟨fun pins s σ H Q I h => by
  rw [arm_eval_DictComp]
  refine dcP_core hc hN I hi ok hg ht hk he hs hstep h fun N0 C s' m H' J q hn f => ⟨m, hn, fun h'' sb => ?_⟩
  exact ⟨.ref N0, H', J.turned (t' := s'.toks) (fun b o hb e => (sb.2 b hb).trans e) f.1 f.2.1 f.2.2.2.1 f.2.2.2.2.1 f.2.2.2.2.2, rfl, q⟩⟩
/-- name = {..} on one line *)-/
theorem ps_setDcP {i : Nat} {y : Str} {py : Pos} {kx vx tg iter : Expr} {ifs : List Expr} {sco : Scope} {ow : List (Str × Nat)} {pos spos : Pos} {wi : TI} {g : TG} {tt : TT} {tk tv : TE} {ts : TDs} (hc : X.calm = true) (hN : X.N.Nodup) (hy : X.N[i]? = some y) (hyl : X.env.scope.names.lookup y = some .local)
    (hsw : swapsWith (.DictComp kx vx [⟨tg, iter, ifs, 0⟩] sco pos) (some (.Name y py)) spos.line X.env = pure true) (hi : PI X tg iter wi) (ok : BlkOk X.N X.env.scope sco ow)
    (hg : ∀ (s : Shared) (H : Hp) (C : Addr) (cl : List (Str × Addr)) (fq : List Addr), PG (X.blk s H sco (compEnvC sco cl C X.env) fq) tg g) (ht : ∀ (s : Shared) (H : Hp) (C : Addr) (cl : List (Str × Addr)) (fq : List Addr), PTs (X.blk s H sco (compEnvC sco cl C X.env) fq) ifs tt)
    (hk : ∀ (s : Shared) (H : Hp) (C : Addr) (cl : List (Str × Addr)) (fq : List Addr), PE (X.blk s H sco (compEnvC sco cl C X.env) fq) kx tk)
    (he : ∀ (s : Shared) (H : Hp) (C : Addr) (cl : List (Str × Addr)) (fq : List Addr), PE (X.blk s H sco (compEnvC sco cl C X.env) fq) vx tv) (hs : ∀ x, foldedSetIterable iter X.env x = pure x)
    (hstep : ∀ (s : Shared) (H : Hp) (C : Addr) (cl : List (Str × Addr)) (fq : List Addr), PDs (X.blk s H sco (compEnvC sco cl C X.env) fq) ts) :
    PS X (.Assign [.Name y py] (.DictComp kx vx [⟨tg, iter, ifs, 0⟩] sco pos) spos) (tAsg (tDcP wi g tt tk tv ts (ow.map (·.2))) (gName i)) := ⟨fun pins s σ H D I h => by
  rw [exec_Assign_Name_used _ _ _ _ hsw]
  refine wpAny_bind (wpAny_standAt (wpAny_bind ?_))
  show wpAny _ X.A (do let _ ← comprehension (.DictComp kx vx [⟨tg, iter, ifs, 0⟩] sco pos) sco X.env (firstIterPos [⟨tg, iter, ifs, 0⟩] pos) newDict false (eval iter X.env) (some (assign (.Name y py) X.env))) _ _ s
  have hq : tDcP wi g tt tk tv ts (ow.map (·.2)) σ H (fun x H1 => gName i x σ H1 D.nx) := h
  refine wpAny_bind (thn (dcP_core (Qf := fun _ s' => SP X pins D .next s') hc hN I hi ok hg ht hk he hs hstep hq fun N0 C s' m H' J q hn f => ?_) fun _ s' hq => wpAny_pure (wpAny_pure hq))
  show wpAny _ _ (assign (.Name y py) X.env (.ref N0)) _ _ _
  refine wpAny_assign_Name (store_ok2 (v := V.ref N0) J hN hy (.inl hyl) rfl (fun z2 J2 ⟨a, sb, ha⟩ => ?_) (.inr hyl))
  have apart : C ≠ a := by
    rcases ha with z | z
    · rw [z]; exact f.2.1
    · exact fun e => f.2.2.2.2.1 y a z e.symm
  refine ⟨m, hn.sameBut sb apart, fun h3 sb3 => ?_⟩
  exact ⟨_, H', J2.turned (t' := z2.toks) (fun b o hb e => (sb3.2 b hb).trans e) f.1 f.2.1 f.2.2.2.1 f.2.2.2.2.1 f.2.2.2.2.2, q⟩⟩
/-- d[k] = v, by the evaluator -/
def rDset (X : Cx) : TDs := fun D y z H Q => ∃ L es p q, DX (wd X) L H D es ∧ VR (wd X) L H p y ∧ VR (wd X) L H q z ∧ keyOk es p = true ∧ es.length < LIM ∧
  ∀ o, (∀ (L' : List Addr) (H' : Hp), (∀ p x, VR (wd X) L H p x → VR (wd X) L' H' p x) → H' D = some o → DX (wd X) L' H' D (dPut es p q)) → Q (upd H D o)
theorem pds_ok (hu : Um X) : PDs X (rDset X) := fun pins s σ H D y z u r Q E I ry rz ⟨L, es, p, q, d, vp, vq, ok, hl, post⟩ => by
  rw [lim] at hl
  rcases dict_case (W := fun u => H D = some u) I (fun _ => .inl) d ok vp ry with ⟨kvs, k, ha, hp, rfl, rfl⟩ | ⟨xs, ys, k, b, hp, hy, h1, h2, h3, h4, h5, h6, rfl, rfl, h7⟩
  · refine d_dictSet I ha (by rw [← Paired.length hp]; exact hl) ry rz fun s' I' => ⟨_, I', post _ fun L' H' up e => DP.ofK e ?_⟩
    exact Paired.mapP (hp.put k vq) fun a b ⟨q1, q2⟩ => ⟨q1, up _ _ q2⟩
  · have hxl : xs.length < sizeLine := by rw [← Paired.length hp]; exact hl
    have hz : ys.length ≤ sizeLine := by rw [← Paired.length hy]; omega
    have room : (nestedKind X.prog X.w).room X.A := by
      show X.A.units + 8 < cLine
      have : X.A.units + 100 < cLine := hu
      omega
    refine wpAny_dictSet_heap (hsz := hz) room h6 h3 fun h' dd' hs => ?_
    have hxl2 := storedT_len xs k b z
    refine ⟨upd H D (dictB X.prog X.w D (storedT xs k b z)), ?_, post _ fun L' H' up e => DP.ofT e (dPut_ne _ _ _) ?_⟩
    · exact d_write I (mut_of h7) hs (let ⟨q, _, _, hq, _⟩ := dd'; ⟨q, hq⟩) (dictB_ok (stored_ys hy k b rz) (by omega) h2 dd')
    · exact Paired.mapP (hp.put h4 h5 vp vq) fun a b ⟨q1, q2, q3, q4⟩ => ⟨q1, q2, up _ _ q3, up _ _ q4⟩
/-- the dict at D is ready -/
theorem made_epD {pins : List (Addr × Obj)} {σ : L2.St} {s : Shared} {H H' : Hp} {L L2 : List Addr} {h h' : PHeap} {al : Bool} {es : List (PV × PV)} {r : PV} {D : Addr} {Q : VK} (I : Inv X pins σ H' s) (d : DX (wd X) L2 H' D es) (hn : D ∉ L2) (h0 : H D = none) (ex : Ext L H L2 H') (hr : HR (wd X) L2 h H')
    (e : mkDict al es h = .ok r h') (post : Post (wd X) L H r h' Q) : EP X pins σ Q (.ref D) s := by
  obtain ⟨u, hu, mu, mk, hf⟩ := dx_mut d
  unfold mkDict at e
  cases al with
  | false =>
    simp only [Bool.false_eq_true, if_false, R.ok.injEq] at e
    obtain ⟨rfl, rfl⟩ := e
    obtain ⟨od, I1⟩ := I.lock hu mu
    refine ⟨.ref D, _, I1, rfl, post _ _ _ (ex.touch h0) (hr.touch hn hf) ?_⟩
    have := DP.map (mk (FzAt (upd H' D (.frz od u)) D) ⟨od, upd_same⟩) (L' := L2) (H' := upd H' D (.frz od u)) (fun _ _ => VRs.agr (agr_upd hf)) fun _ x => x
    cases this with
    | k h1 h2 h3 => exact .dctK h1 hn h2 h3
    | t h1 h0 h2 h3 h4 h5 => exact .dctT h1 hn h0 h2 h3 h4 h5
  | true =>
    simp only [if_true, R.ok.injEq] at e
    obtain ⟨rfl, rfl⟩ := e
    refine ⟨.ref D, _, I, rfl, post _ _ _ (ex.grow h0) (hr.grow hn hf (DP.map d (fun _ _ => VRs.grow hf) fun _ x => x)) (.ref ?_)⟩
    rw [← hr.len]
    simp
/-- {k: v} -/
theorem se_dct1 {X : Cx} {a b : Expr} {pos : Pos} {al : Bool} {fk fv : Env → PHeap → R PV} (hk : PE X a (rE X fk)) (hv : PE X b (rE X fv)) :
    PE X (.Dict [some a] [b] pos) (rE X fun env h => (fk env h).bind fun k h => (fv env h).bind fun v h => if keyV k then mkDict al [(k, v)] h else .bad) := ⟨fun pins s σ H Q I ⟨L, h, env, r, h', hr, er, e, post⟩ => by
  obtain ⟨k, h1, e1, e⟩ := R.bind_eq_ok e
  obtain ⟨v, h2, e2, e⟩ := R.bind_eq_ok e
  split at e
  rotate_left
  · cases e
  rename_i hkey
  refine thn ((pe_disp (pos := pos) (trs := [(rE X fk, rE X fv)]) (pps_cons hk hv pps_nil) rfl rfl (by simp) (by simp)).run pins s σ H (fun x H' => ∃ D L2, x = .ref D ∧ DX (wd X) L2 H' D [(k, v)] ∧ D ∉ L2 ∧ H D = none ∧ Ext L H L2 H' ∧ HR (wd X) L2 h2 H') I ?_) fun u s1 ⟨x, H1, I1, r1, D, L2, q1, q2, q3, q4, q5, q6⟩ => ?_
  · intro p hp
    have hn := hr.free hp
    refine ⟨L, h, env, k, h1, hr.new hp, er.mono (ext_new hp), e1, fun x L1 H1 x1 hr1 v1 => ⟨L1, h1, env, v, h2, hr1, (er.mono (ext_new hp)).mono x1, e2, fun y L2 H2 x2 hr2 v2 => ?_⟩⟩
    have hD1 := x1.keep p _ hn upd_same
    have hn1 := x1.mem hn upd_same
    have hD2 := x2.keep p _ hn1 hD1
    have hn2 := x2.mem hn1 hD1
    have nf : NF H2 p := fun o u q => by rw [hD2] at q; cases q
    have key : ∃ kk : Key, x = kV kk ∧ k = kP kk := by
      cases k <;> simp [keyV] at hkey
      · cases v1
        exact ⟨.inl _, rfl, rfl⟩
      · cases v1
        exact ⟨.inr _, rfl, rfl⟩
    obtain ⟨kk, rfl, rfl⟩ := key
    refine ⟨hD2, [(kk, y)], rfl, by simp, p, L2, rfl, ?_, hn2, hp, (((ext_new hp).tr hr x1).tr hr x2).touch hp, hr2.touch hn2 nf⟩
    exact .k (kvs := [(kk, y)]) upd_same rfl (.cons (v2.agr (agr_upd nf)) .nil)
  · subst q1
    cases r1
    exact made_epD I1 q2 q3 q4 q5 q6 e post⟩
def dcompF (al : Bool) (fI : Env → PHeap → R (List PV × Chk)) (tg : Tg) (fT : Env → PHeap → R Bool) (fK fV : Env → PHeap → R PV) (vs : List Nat) : Env → PHeap → R PV := fun env h => (fI env h).bind fun p h =>
  (dcompGo p.2 (tgSet tg) fT fK fV (wipeE env vs) p.1 h []).bind fun acc h => mkDict al acc h
section
variable {al fl : Bool} {fI : Env → PHeap → R (List PV × Chk)} {tg : Tg} {fT : Env → PHeap → R Bool} {fE fK fV : Env → PHeap → R PV} {vs : List Nat} {σ : L2.St} {H : Hp} {Q : VK}
theorem dcomp_core (hown : ∀ i ∈ tgIx tg, i ∈ vs) (hfl : fl = true → isTp tg = true) : rE X (dcompF al fI tg fT fK fV vs) σ H Q → ∃ Q' : VK, (∀ Q'' : VK, (∀ x H', Q' x H' → Q'' x H') → tDcP (rI X fl fI) (rG X tg) (rT X fT) (rE X fK) (rE X fV) (rDset X) vs σ H Q'') ∧ (∀ x H', Q' x H' → ∃ D, x = .ref D) ∧
    ∀ pins σ1 s u, EP X pins σ1 Q' u s → EP X pins σ1 Q u s := fun ⟨L, h, env, v, h', hr, er, e, post⟩ => by
  obtain ⟨⟨xs, chk⟩, h1, e1, e⟩ := R.bind_eq_ok e
  obtain ⟨accF, h2, e2, e3⟩ := R.bind_eq_ok e
  refine ⟨fun x H' => ∃ D L2, x = .ref D ∧ DX (wd X) L2 H' D accF ∧ D ∉ L2 ∧ H D = none ∧ Ext L H L2 H' ∧ HR (wd X) L2 h2 H', fun Q'' hQ => ?_, fun x H' ⟨D, _, e, _⟩ => ⟨D, e⟩, fun pins σ1 s u ⟨x, H', I, rx, D, L2, q1, q2, q3, q4, q5, q6⟩ => ?_⟩
  · refine ⟨L, h, env, (xs, chk), h1, hr, er, e1, fun J L1 H1 x1 hr1 walk D hD => ?_⟩
    have hD0 : H D = none := by
      cases hh : H D with
      | none => rfl
      | some o => exact absurd hD (x1.dom D (by rw [hh]; simp))
    have er1 := (er.mono x1).wipe vs
    refine ⟨fun i m Hc => m = xs.length - i ∧ i ≤ xs.length ∧ ∃ Lc gc acc, Ext L1 H1 Lc Hc ∧ DX (wd X) Lc Hc D acc ∧ D ∉ Lc ∧ HR (wd X) Lc gc Hc ∧ dcompGo chk (tgSet tg) fT fK fV (wipeE env vs) (xs.drop i) gc acc = .ok accF h2,
      ⟨xs.length, rfl, Nat.zero_le _, L1, h1, [], ext_new hD, DP.ofK upd_same .nil, hr1.free hD, hr1.new hD, e2⟩, ?_⟩
    rintro i m Hc ⟨rfl, hile, Lc, gc, acc, xc, dc, hnc, hrc, ec⟩
    obtain ⟨uc, hDc, _, _, _⟩ := dx_mut dc
    by_cases hlt : i < xs.length
    · right
      obtain ⟨p, hp⟩ : ∃ p, xs[i]? = some p := ⟨xs[i], List.getElem?_eq_getElem hlt⟩
      have hdrop : xs.drop i = p :: xs.drop (i + 1) := by
        rw [List.drop_eq_getElem_cons hlt]
        have := List.getElem?_eq_some_iff.mp hp
        rw [this.2]
      rw [hdrop] at ec
      unfold dcompGo at ec
      split at ec
      · rename_i hck
        split at ec
        · rename_i env1 ht1
          obtain ⟨b, g1, ec1, ec2⟩ := R.bind_eq_ok ec
          obtain ⟨go, yl⟩ := (walk i Lc Hc gc xc.w hrc hck).2 p hp
          refine ⟨go, fun H' => ∃ Lc gc acc, Ext L1 H1 Lc H' ∧ DX (wd X) Lc H' D acc ∧ D ∉ Lc ∧ HR (wd X) Lc gc H' ∧ dcompGo chk (tgSet tg) fT fK fV (wipeE env vs) (xs.drop (i + 1)) gc acc = .ok accF h2,
            fun H' q => ⟨_, by omega, rfl, hlt, q⟩, fun x H' y => ?_⟩
          obtain ⟨xy, hry, yr⟩ := yl x H' y
          have xx := xc.tr hr1 xy
          have hD' := xy.keep D _ hnc hDc
          have dy := DP.mono xy (W' := fun u => H' D = some u) (fun u hu => xy.keep D u hnc hu) dc
          refine ⟨Lc, gc, _, p, env1, hry, er1.mono xx, yr_fix hfl yr ht1, ht1, fun σ' er' w => ⟨(w _ hown).trans (wipe_wipe _ _), Lc, gc, env1, b, g1, hry, er', ec1, fun L3 H3 x3 hr3 => ?_⟩⟩
          have xx3 := xx.tr hr1 x3
          have hD3 := x3.keep D _ hnc hD'
          have hn3 := x3.mem hnc hD'
          have d3 := DP.mono x3 (W' := fun u => H3 D = some u) (fun u hu => x3.keep D u hnc hu) dy
          cases b with
          | true =>
            simp only [if_true] at ec2 ⊢
            obtain ⟨k', g2, ec3, ec4⟩ := R.bind_eq_ok ec2
            obtain ⟨v', g3, ec5, ec6⟩ := R.bind_eq_ok ec4
            split at ec6
            · rename_i hck2
              rw [Bool.and_eq_true, decide_eq_true_eq] at hck2
              refine ⟨L3, g1, env1, k', g2, hr3, er'.mono x3, ec3, fun w1 L4 H4 x4 hr4 v4 => ⟨L4, g2, env1, v', g3, hr4, er'.mono (x3.tr hry x4), ec5, fun w2 L5 H5 x5 hr5 v5 => ?_⟩⟩
              have hD4 := x4.keep D _ hn3 hD3
              have hn4 := x4.mem hn3 hD3
              have hn5 := x5.mem hn4 hD4
              have d4 := DP.mono x4 (W' := fun u => H4 D = some u) (fun u hu => x4.keep D u hn3 hu) d3
              have d5 := DP.mono x5 (W' := fun u => H5 D = some u) (fun u hu => x5.keep D u hn4 hu) d4
              have hf5 := nf_dx d5
              refine ⟨L5, acc, k', v', d5, v4.mono x5, v5, hck2.1, hck2.2, fun o mk => ?_⟩
              exact ⟨L5, g3, dPut acc k' v', ((xx3.tr hr1 x4).tr hr1 x5).touch hD, mk L5 _ (fun _ _ => VR.agr (agr_upd hf5)) upd_same, hn5, hr5.touch hn5 hf5, ec6⟩
            · cases ec6
          | false =>
            simp only [Bool.false_eq_true, if_false] at ec2 ⊢
            exact ⟨L3, g1, acc, xx3, d3, hn3, hr3, ec2⟩
        · cases ec
      · cases ec
    · left
      have hi2 : i = xs.length := by omega
      subst hi2
      rw [List.drop_length] at ec
      unfold dcompGo at ec
      split at ec
      · rename_i hck
        cases ec
        exact ⟨(walk _ Lc Hc h2 xc.w hrc hck).1 rfl, hQ _ _ ⟨D, Lc, rfl, dc, hnc, hD0, x1.tr hr xc, hrc⟩⟩
      · cases ec
  · subst q1
    cases rx
    exact made_epD I q2 q3 q4 q5 q6 e3 post
theorem comp_core (hown : ∀ i ∈ tgIx tg, i ∈ vs) (hfl : fl = true → isTp tg = true) : rE X (compF al fI tg fT fE vs) σ H Q → ∃ Q' : VK, (∀ Q'' : VK, (∀ x H', Q' x H' → Q'' x H') → tLc (rI X fl fI) (rG X tg) (rT X fT) (rE X fE) vs σ H Q'') ∧ (∀ x H', Q' x H' → ∃ D, x = .ref D) ∧
    ∀ pins σ1 s u, EP X pins σ1 Q' u s → EP X pins σ1 Q u s := fun ⟨L, h, env, v, h', hr, er, e, post⟩ => by
  obtain ⟨⟨xs, chk⟩, h1, e1, e⟩ := R.bind_eq_ok e
  obtain ⟨accF, h2, e2, e3⟩ := R.bind_eq_ok e
  refine ⟨fun x H' => ∃ D L2 us, x = .ref D ∧ H' D = some (.lst us) ∧ D ∉ L2 ∧ H D = none ∧ Ext L H L2 H' ∧ HR (wd X) L2 h2 H' ∧ VRs (wd X) L2 H' accF us, fun Q'' hQ => ?_, fun x H' ⟨D, _, _, e, _⟩ => ⟨D, e⟩, fun pins σ1 s u ⟨x, H', I, rx, D, L2, us, q1, q2, q3, q4, q5, q6, q7⟩ => ?_⟩
  · refine ⟨L, h, env, (xs, chk), h1, hr, er, e1, fun J L1 H1 x1 hr1 walk D hD => ?_⟩
    have hD0 : H D = none := by
      cases hh : H D with
      | none => rfl
      | some o => exact absurd hD (x1.dom D (by rw [hh]; simp))
    have er1 := (er.mono x1).wipe vs
    refine ⟨fun i m Hc => m = xs.length - i ∧ i ≤ xs.length ∧ ∃ Lc gc acc accV, Ext L1 H1 Lc Hc ∧ Hc D = some (.lst accV) ∧ D ∉ Lc ∧ HR (wd X) Lc gc Hc ∧ VRs (wd X) Lc Hc acc accV ∧ compGo chk (tgSet tg) fT fE (wipeE env vs) (xs.drop i) gc acc = .ok accF h2,
      ⟨xs.length, rfl, Nat.zero_le _, L1, h1, [], [], ext_new hD, upd_same, hr1.free hD, hr1.new hD, .nil, e2⟩, ?_⟩
    rintro i m Hc ⟨rfl, hile, Lc, gc, acc, accV, xc, hDc, hnc, hrc, vc, ec⟩
    by_cases hlt : i < xs.length
    · right
      obtain ⟨p, hp⟩ : ∃ p, xs[i]? = some p := ⟨xs[i], List.getElem?_eq_getElem hlt⟩
      have hdrop : xs.drop i = p :: xs.drop (i + 1) := by
        rw [List.drop_eq_getElem_cons hlt]
        have := List.getElem?_eq_some_iff.mp hp
        rw [this.2]
      rw [hdrop] at ec
      unfold compGo at ec
      split at ec
      · rename_i hck
        split at ec
        · rename_i env1 ht1
          obtain ⟨b, g1, ec1, ec2⟩ := R.bind_eq_ok ec
          obtain ⟨go, yl⟩ := (walk i Lc Hc gc xc.w hrc hck).2 p hp
          refine ⟨go, fun H' => ∃ Lc gc acc accV, Ext L1 H1 Lc H' ∧ H' D = some (.lst accV) ∧ D ∉ Lc ∧ HR (wd X) Lc gc H' ∧ VRs (wd X) Lc H' acc accV ∧ compGo chk (tgSet tg) fT fE (wipeE env vs) (xs.drop (i + 1)) gc acc = .ok accF h2,
            fun H' q => ⟨_, by omega, rfl, hlt, q⟩, fun x H' y => ?_⟩
          obtain ⟨xy, hry, yr⟩ := yl x H' y
          have xx := xc.tr hr1 xy
          have hD' := xy.keep D _ hnc hDc
          refine ⟨Lc, gc, _, p, env1, hry, er1.mono xx, yr_fix hfl yr ht1, ht1, fun σ' er' w => ⟨(w _ hown).trans (wipe_wipe _ _), Lc, gc, env1, b, g1, hry, er', ec1, fun L3 H3 x3 hr3 => ?_⟩⟩
          have xx3 := xx.tr hr1 x3
          have hD3 := x3.keep D _ hnc hD'
          have hn3 := x3.mem hnc hD'
          have v3 := (vc.mono xy).mono x3
          cases b with
          | true =>
            simp only [if_true] at ec2 ⊢
            obtain ⟨y', g2, ec3, ec4⟩ := R.bind_eq_ok ec2
            split at ec4
            · rename_i hlen
              refine ⟨L3, g1, env1, y', g2, hr3, er'.mono x3, ec3, fun w' L4 H4 x4 hr4 v4 => ?_⟩
              have hD4 := x4.keep D _ hn3 hD3
              have hn4 := x4.mem hn3 hD3
              have hf4 := nf_lst hD4
              refine ⟨accV, hD4, by rw [vc.length, ← lim]; exact hlen, L4, g2, acc ++ [y'], accV ++ [w'], (xx3.tr hr1 x4).touch hD, upd_same, hn4, hr4.touch hn4 hf4, ?_, ec4⟩
              exact ((v3.mono x4).snoc v4).agr (agr_upd hf4)
            · cases ec4
          | false =>
            simp only [Bool.false_eq_true, if_false] at ec2 ⊢
            exact ⟨L3, g1, acc, accV, xx3, hD3, hn3, hr3, v3, ec2⟩
        · cases ec
      · cases ec
    · left
      have hi2 : i = xs.length := by omega
      subst hi2
      rw [List.drop_length] at ec
      unfold compGo at ec
      split at ec
      · rename_i hck
        cases ec
        exact ⟨(walk _ Lc Hc h2 xc.w hrc hck).1 rfl, hQ _ _ ⟨D, Lc, accV, rfl, hDc, hnc, hD0, x1.tr hr xc, hrc, vc⟩⟩
      · cases ec
  · subst q1
    cases rx
    exact made_ep I q2 q3 q4 q5 q6 q7 e3 post
def comp2F (al : Bool) (fI : Env → PHeap → R (List PV × Chk)) (tg : Tg) (fT : Env → PHeap → R Bool) (fI1 : Env → PHeap → R (List PV × Chk)) (tg1 : Tg) (fT1 : Env → PHeap → R Bool) (fE : Env → PHeap → R PV) (vs1 vs : List Nat) : Env → PHeap → R PV := fun env h => (fI env h).bind fun p h =>
  (comp2Go p.2 (tgSet tg) fT fI1 (tgSet tg1) fT1 fE vs1 (wipeE env vs) p.1 h []).bind fun acc h => mkList al acc h
theorem comp2_core {fI1 : Env → PHeap → R (List PV × Chk)} {tg1 : Tg} {fT1 : Env → PHeap → R Bool} {vs1 : List Nat} (hown : ∀ i ∈ tgIx tg, i ∈ vs) (hown1 : ∀ i ∈ tgIx tg1, i ∈ vs1) (hfl : fl = true → isTp tg = true) : rE X (comp2F al fI tg fT fI1 tg1 fT1 fE vs1 vs) σ H Q → ∃ Q' : VK,
    tLc2 (rI X fl fI) (rG X tg) (rT X fT) (rI X false fI1) (rG X tg1) (rT X fT1) (rE X fE) vs vs1 σ H Q' ∧ ∀ pins σ1 s u, EP X pins σ1 Q' u s → EP X pins σ1 Q u s := fun ⟨L, h, env, v, h', hr, er, e, post⟩ => by
  obtain ⟨⟨xs, chk⟩, h1, e1, e⟩ := R.bind_eq_ok e
  obtain ⟨accF, h2, e2, e3⟩ := R.bind_eq_ok e
  refine ⟨fun x H' => ∃ D L2 us, x = .ref D ∧ H' D = some (.lst us) ∧ D ∉ L2 ∧ H D = none ∧ Ext L H L2 H' ∧ HR (wd X) L2 h2 H' ∧ VRs (wd X) L2 H' accF us, ?_, fun pins σ1 s u ⟨x, H', I, rx, D, L2, us, q1, q2, q3, q4, q5, q6, q7⟩ => ?_⟩
  · refine ⟨L, h, env, (xs, chk), h1, hr, er, e1, fun J L1 H1 x1 hr1 walk D hD => ?_⟩
    have hD0 : H D = none := by
      cases hh : H D with
      | none => rfl
      | some o => exact absurd hD (x1.dom D (by rw [hh]; simp))
    have er1 := (er.mono x1).wipe vs
    refine ⟨fun i m Hc => m = xs.length - i ∧ i ≤ xs.length ∧ ∃ Lc gc acc accV, Ext L1 H1 Lc Hc ∧ Hc D = some (.lst accV) ∧ D ∉ Lc ∧ HR (wd X) Lc gc Hc ∧ VRs (wd X) Lc Hc acc accV ∧ comp2Go chk (tgSet tg) fT fI1 (tgSet tg1) fT1 fE vs1 (wipeE env vs) (xs.drop i) gc acc = .ok accF h2,
      ⟨xs.length, rfl, Nat.zero_le _, L1, h1, [], [], ext_new hD, upd_same, hr1.free hD, hr1.new hD, .nil, e2⟩, ?_⟩
    rintro i m Hc ⟨rfl, hile, Lc, gc, acc, accV, xc, hDc, hnc, hrc, vc, ec⟩
    by_cases hlt : i < xs.length
    · right
      obtain ⟨p, hp⟩ : ∃ p, xs[i]? = some p := ⟨xs[i], List.getElem?_eq_getElem hlt⟩
      have hdrop : xs.drop i = p :: xs.drop (i + 1) := by
        rw [List.drop_eq_getElem_cons hlt]
        have := List.getElem?_eq_some_iff.mp hp
        rw [this.2]
      rw [hdrop] at ec
      unfold comp2Go at ec
      split at ec
      · rename_i hck
        split at ec
        · rename_i env1 ht1
          obtain ⟨b, g1, ec1, ec2⟩ := R.bind_eq_ok ec
          obtain ⟨go, yl⟩ := (walk i Lc Hc gc xc.w hrc hck).2 p hp
          refine ⟨go, fun H' => ∃ Lc gc acc accV, Ext L1 H1 Lc H' ∧ H' D = some (.lst accV) ∧ D ∉ Lc ∧ HR (wd X) Lc gc H' ∧ VRs (wd X) Lc H' acc accV ∧ comp2Go chk (tgSet tg) fT fI1 (tgSet tg1) fT1 fE vs1 (wipeE env vs) (xs.drop (i + 1)) gc acc = .ok accF h2,
            fun H' q => ⟨_, by omega, rfl, hlt, q⟩, fun x H' y => ?_⟩
          obtain ⟨xy, hry, yr⟩ := yl x H' y
          have xx := xc.tr hr1 xy
          have hD' := xy.keep D _ hnc hDc
          refine ⟨Lc, gc, _, p, env1, hry, er1.mono xx, yr_fix hfl yr ht1, ht1, fun σ' er' w => ⟨(w _ hown).trans (wipe_wipe _ _), Lc, gc, env1, b, g1, hry, er', ec1, fun L3 H3 x3 hr3 => ?_⟩⟩
          have xx3 := xx.tr hr1 x3
          have hD3 := x3.keep D _ hnc hD'
          have hn3 := x3.mem hnc hD'
          have v3 := (vc.mono xy).mono x3
          cases b with
          | true =>
            simp only [if_true] at ec2 ⊢
            obtain ⟨⟨ys, chk1⟩, g2, ec3, ec4⟩ := R.bind_eq_ok ec2
            obtain ⟨accM, g3, ec5, ec6⟩ := R.bind_eq_ok ec4
            refine ⟨L3, g1, env1, (ys, chk1), g2, hr3, er'.mono x3, ec3, fun J1 L4 H4 x4 hr4 walk1 => ?_⟩
            have xx4 := xx3.tr hr1 x4
            have hD4 := x4.keep D _ hn3 hD3
            have hn4 := x4.mem hn3 hD3
            have er4 := ((er'.mono x3).mono x4).wipe vs1
            refine ⟨fun j k Hc => k = ys.length - j ∧ j ≤ ys.length ∧ ∃ Lc gc acc accV, ExtW L4 H4 Lc Hc ∧ Ext L1 H1 Lc Hc ∧ Hc D = some (.lst accV) ∧ D ∉ Lc ∧ HR (wd X) Lc gc Hc ∧ VRs (wd X) Lc Hc acc accV ∧ compGo chk1 (tgSet tg1) fT1 fE (wipeE env1 vs1) (ys.drop j) gc acc = .ok accM g3,
              ⟨ys.length, rfl, Nat.zero_le _, L4, g2, acc, accV, ExtW.refl, xx4, hD4, hn4, hr4, v3.mono x4, ec5⟩, ?_⟩
            rintro j k Hd ⟨rfl, hjle, Ld, gd, acd, acdV, xd, sd, hDd, hnd, hrd, vd, ed⟩
            by_cases hlt1 : j < ys.length
            · right
              obtain ⟨p1, hp1⟩ : ∃ p, ys[j]? = some p := ⟨ys[j], List.getElem?_eq_getElem hlt1⟩
              have hdrop1 : ys.drop j = p1 :: ys.drop (j + 1) := by
                rw [List.drop_eq_getElem_cons hlt1]
                have := List.getElem?_eq_some_iff.mp hp1
                rw [this.2]
              rw [hdrop1] at ed
              unfold compGo at ed
              split at ed
              · rename_i hck1
                split at ed
                · rename_i env2 ht2
                  obtain ⟨b1, d1, ed1, ed2⟩ := R.bind_eq_ok ed
                  obtain ⟨go1, yl1⟩ := (walk1 j Ld Hd gd xd hrd hck1).2 p1 hp1
                  refine ⟨go1, fun H' => ∃ Lc gc acc accV, ExtW L4 H4 Lc H' ∧ Ext L1 H1 Lc H' ∧ H' D = some (.lst accV) ∧ D ∉ Lc ∧ HR (wd X) Lc gc H' ∧ VRs (wd X) Lc H' acc accV ∧ compGo chk1 (tgSet tg1) fT1 fE (wipeE env1 vs1) (ys.drop (j + 1)) gc acc = .ok accM g3,
                    fun H' q => ⟨_, by omega, rfl, hlt1, q⟩, fun x H' y => ?_⟩
                  obtain ⟨xy1, hry1, yr1⟩ := yl1 x H' y
                  have xxd := xd.trE xy1
                  have sxd := sd.tr hr1 xy1
                  have hDd' := xy1.keep D _ hnd hDd
                  refine ⟨Ld, gd, _, p1, env2, hry1, er4.monW xxd, yr_of yr1 ht2, ht2, fun σ2 er2 w2 => ⟨(w2 _ hown1).trans (wipe_wipe _ _), Ld, gd, env2, b1, d1, hry1, er2, ed1, fun L5 H5 x5 hr5 => ?_⟩⟩
                  have xx5 := xxd.trE x5
                  have sx5 := sxd.tr hr1 x5
                  have hD5 := x5.keep D _ hnd hDd'
                  have hn5 := x5.mem hnd hDd'
                  have v5 := (vd.mono xy1).mono x5
                  cases b1 with
                  | true =>
                    simp only [if_true] at ed2 ⊢
                    obtain ⟨y', d2, ed3, ed4⟩ := R.bind_eq_ok ed2
                    split at ed4
                    · rename_i hlen
                      refine ⟨L5, d1, env2, y', d2, hr5, er2.mono x5, ed3, fun w' L6 H6 x6 hr6 v6 => ?_⟩
                      have hD6 := x6.keep D _ hn5 hD5
                      have hn6 := x6.mem hn5 hD5
                      have hf6 := nf_lst hD6
                      refine ⟨acdV, hD6, by rw [vd.length, ← lim]; exact hlen, L6, d2, acd ++ [y'], acdV ++ [w'], (xx5.trE x6).touch hf6, (sx5.tr hr1 x6).touch hD, upd_same, hn6, hr6.touch hn6 hf6, ?_, ed4⟩
                      exact ((v5.mono x6).snoc v6).agr (agr_upd hf6)
                    · cases ed4
                  | false =>
                    simp only [Bool.false_eq_true, if_false] at ed2 ⊢
                    exact ⟨L5, d1, acd, acdV, xx5, sx5, hD5, hn5, hr5, v5, ed2⟩
                · cases ed
              · cases ed
            · left
              have hj2 : j = ys.length := by omega
              subst hj2
              rw [List.drop_length] at ed
              unfold compGo at ed
              split at ed
              · rename_i hck1
                cases ed
                exact ⟨(walk1 _ Ld Hd g3 xd hrd hck1).1 rfl, Ld, g3, accM, acdV, sd, hDd, hnd, hrd, vd, ec6⟩
              · cases ed
          | false =>
            simp only [Bool.false_eq_true, if_false] at ec2 ⊢
            exact ⟨L3, g1, acc, accV, xx3, hD3, hn3, hr3, v3, ec2⟩
        · cases ec
      · cases ec
    · left
      have hi2 : i = xs.length := by omega
      subst hi2
      rw [List.drop_length] at ec
      unfold comp2Go at ec
      split at ec
      · rename_i hck
        cases ec
        exact ⟨(walk _ Lc Hc h2 xc.w hrc hck).1 rfl, ⟨D, Lc, accV, rfl, hDc, hnc, hD0, x1.tr hr xc, hrc, vc⟩⟩
      · cases ec
  · subst q1
    cases rx
    exact made_ep I q2 q3 q4 q5 q6 q7 e3 post
end
/-- what is asked of a comprehension's block -/
abbrev BG (X : Cx) (sco : Scope) (e : Expr) (t : TG) : Prop := ∀ (s : Shared) (H : Hp) (C : Addr) (cl : List (Str × Addr)) (fq : List Addr), PG (X.blk s H sco (compEnvC sco cl C X.env) fq) e t
abbrev BTs (X : Cx) (sco : Scope) (e : List Expr) (t : TT) : Prop := ∀ (s : Shared) (H : Hp) (C : Addr) (cl : List (Str × Addr)) (fq : List Addr), PTs (X.blk s H sco (compEnvC sco cl C X.env) fq) e t
abbrev BE (X : Cx) (sco : Scope) (e : Expr) (t : TE) : Prop := ∀ (s : Shared) (H : Hp) (C : Addr) (cl : List (Str × Addr)) (fq : List Addr), PE (X.blk s H sco (compEnvC sco cl C X.env) fq) e t
section
variable {al fl : Bool} {fI : Env → PHeap → R (List PV × Chk)} {tg : Tg} {fT : Env → PHeap → R Bool} {fE fK fV : Env → PHeap → R PV} {elt kx vx tge iter : Expr} {ifs : List Expr} {sco : Scope} {ow : List (Str × Nat)} {pos py spos : Pos} {i : Nat} {y : Str}
theorem se_comp (hc : X.calm = true) (hN : X.N.Nodup) (hi : PI X tge iter (rI X fl fI)) (ok : BlkOk X.N X.env.scope sco ow) (hg : BG X sco tge (rG X tg)) (ht : BTs X sco ifs (rT X fT)) (he : BE X sco elt (rE X fE)) (hs : ∀ x, foldedSetIterable iter X.env x = pure x) (hown : ∀ i ∈ tgIx tg, i ∈ ow.map (·.2)) (hfl : fl = true → isTp tg = true) :
    PE X (.ListComp elt [⟨tge, iter, ifs, 0⟩] sco pos) (rE X (compF al fI tg fT fE (ow.map (·.2)))) := ⟨fun pins s σ H Q I q => by
  obtain ⟨Q', h1, h2, h3⟩ := comp_core hown hfl q
  exact thn ((pe_lc hc hN hi ok hg ht he hs).run pins s σ H Q' I (h1 _ fun _ _ q => q)) fun u s' h => h3 pins σ s' u h⟩
abbrev BI (X : Cx) (sco : Scope) (tg e : Expr) (t : TI) : Prop := ∀ (s : Shared) (H : Hp) (C : Addr) (cl : List (Str × Addr)) (fq : List Addr), PI (X.blk s H sco (compEnvC sco cl C X.env) fq) tg e t
theorem se_comp2 {fI1 : Env → PHeap → R (List PV × Chk)} {tg1 : Tg} {fT1 : Env → PHeap → R Bool} {vs1 : List Nat} {tge1 iter1 : Expr} {ifs1 : List Expr} (hc : X.calm = true) (hN : X.N.Nodup) (hi : PI X tge iter (rI X fl fI)) (ok : BlkOk X.N X.env.scope sco ow) (hv : ∀ i ∈ vs1, i ∈ ow.map (·.2)) (hg : BG X sco tge (rG X tg)) (ht : BTs X sco ifs (rT X fT)) (hi1 : BI X sco tge1 iter1 (rI X false fI1)) (hg1 : BG X sco tge1 (rG X tg1)) (ht1 : BTs X sco ifs1 (rT X fT1)) (he : BE X sco elt (rE X fE)) (hs : ∀ x, foldedSetIterable iter X.env x = pure x) (hs1 : ∀ env x, foldedSetIterable iter1 env x = pure x) (hown : ∀ i ∈ tgIx tg, i ∈ ow.map (·.2)) (hown1 : ∀ i ∈ tgIx tg1, i ∈ vs1) (hfl : fl = true → isTp tg = true) :
    PE X (.ListComp elt [⟨tge, iter, ifs, 0⟩, ⟨tge1, iter1, ifs1, 0⟩] sco pos) (rE X (comp2F al fI tg fT fI1 tg1 fT1 fE vs1 (ow.map (·.2)))) := ⟨fun pins s σ H Q I q => by
  obtain ⟨Q', h1, h3⟩ := comp2_core hown hown1 hfl q
  exact thn ((pe_lc2 hc hN hi ok hv hg ht hi1 hg1 ht1 he hs hs1).run pins s σ H Q' I h1) fun u s' h => h3 pins σ s' u h⟩
theorem se_dcomp (hu : Um X) (hc : X.calm = true) (hN : X.N.Nodup) (hi : PI X tge iter (rI X fl fI)) (ok : BlkOk X.N X.env.scope sco ow) (hg : BG X sco tge (rG X tg)) (ht : BTs X sco ifs (rT X fT)) (hk : BE X sco kx (rE X fK)) (he : BE X sco vx (rE X fV)) (hs : ∀ x, foldedSetIterable iter X.env x = pure x) (hown : ∀ i ∈ tgIx tg, i ∈ ow.map (·.2)) (hfl : fl = true → isTp tg = true) :
    PE X (.DictComp kx vx [⟨tge, iter, ifs, 0⟩] sco pos) (rE X (dcompF al fI tg fT fK fV (ow.map (·.2)))) := ⟨fun pins s σ H Q I q => by
  obtain ⟨Q', h1, h2, h3⟩ := dcomp_core hown hfl q
  exact thn ((pe_dcP hc hN hi ok hg ht hk he hs fun s H C cl fq => pds_ok (X := X.blk s H sco (compEnvC sco cl C X.env) fq) hu).run pins s σ H Q' I (h1 _ fun _ _ q => q)) fun u s' h => h3 pins σ s' u h⟩
theorem named {F : Env → PHeap → R PV} {st : Stmt} {t : TE} (ps : PS X st (tAsg t (gName i))) (core : ∀ σ H Q, rE X F σ H Q → ∃ Q' : VK, (∀ Q'' : VK, (∀ x H', Q' x H' → Q'' x H') → t σ H Q'') ∧ (∀ x H', Q' x H' → ∃ D, x = .ref D) ∧ ∀ pins σ1 s u, EP X pins σ1 Q' u s → EP X pins σ1 Q u s) :
    PS X st (rS X (setF i F)) := ⟨fun pins s σ H D I ⟨L, h, env, o, h', hr, er, e, post⟩ => by
  obtain ⟨v, e1, rfl⟩ := setF_ok e
  obtain ⟨Q', h1, h2, h3⟩ := core σ H (fun x H1 => D.nx (σ.set i (some x)) H1) ⟨L, h, env, v, h', hr, er, e1, fun x L1 H1 x1 hr1 v1 => post _ _ x1 hr1 _ ((er.mono x1).set v1)⟩
  refine thn (ps.run pins s σ H ⟨fun σ1 H1 => ∃ x, σ1 = σ.set i (some x) ∧ Q' x H1, fun _ _ => False, fun _ _ => False, fun _ _ => False⟩ I (h1 _ fun x H' q => ⟨x, rfl, q⟩)) fun fl s1 q => ?_
  cases fl with
  | next =>
    obtain ⟨σ1, H1, I1, x, rfl, q⟩ := q
    obtain ⟨D0, rfl⟩ := h2 _ _ q
    obtain ⟨w, H2, I2, rw', q2⟩ := h3 pins _ s1 (.ref D0) ⟨.ref D0, H1, I1, rfl, q⟩
    obtain rfl := RelV.inj rw' (show RelV (.ref D0) (.ref D0) from rfl)
    exact ⟨_, H2, I2, q2⟩
  | brk => obtain ⟨_, _, _, q⟩ := q; exact q.elim
  | cont => obtain ⟨_, _, _, q⟩ := q; exact q.elim
  | ret w => obtain ⟨_, _, _, _, _, q⟩ := q; exact q.elim⟩
theorem ss_setLc (hc : X.calm = true) (hN : X.N.Nodup) (hy : X.N[i]? = some y) (hyl : X.env.scope.names.lookup y = some .local) (hsw : swapsWith (.ListComp elt [⟨tge, iter, ifs, 0⟩] sco pos) (some (.Name y py)) spos.line X.env = pure true)
    (hi : PI X tge iter (rI X fl fI)) (ok : BlkOk X.N X.env.scope sco ow) (hg : BG X sco tge (rG X tg)) (ht : BTs X sco ifs (rT X fT)) (he : BE X sco elt (rE X fE)) (hs : ∀ x, foldedSetIterable iter X.env x = pure x) (hown : ∀ i ∈ tgIx tg, i ∈ ow.map (·.2)) (hfl : fl = true → isTp tg = true) :
    PS X (.Assign [.Name y py] (.ListComp elt [⟨tge, iter, ifs, 0⟩] sco pos) spos) (rS X (setF i (compF al fI tg fT fE (ow.map (·.2))))) :=
  named (ps_setLc hc hN hy hyl hsw hi ok hg ht he hs) fun _ _ _ => comp_core hown hfl
theorem ss_setDc (hu : Um X) (hc : X.calm = true) (hN : X.N.Nodup) (hy : X.N[i]? = some y) (hyl : X.env.scope.names.lookup y = some .local) (hsw : swapsWith (.DictComp kx vx [⟨tge, iter, ifs, 0⟩] sco pos) (some (.Name y py)) spos.line X.env = pure true)
    (hi : PI X tge iter (rI X fl fI)) (ok : BlkOk X.N X.env.scope sco ow) (hg : BG X sco tge (rG X tg)) (ht : BTs X sco ifs (rT X fT)) (hk : BE X sco kx (rE X fK)) (he : BE X sco vx (rE X fV)) (hs : ∀ x, foldedSetIterable iter X.env x = pure x) (hown : ∀ i ∈ tgIx tg, i ∈ ow.map (·.2)) (hfl : fl = true → isTp tg = true) :
    PS X (.Assign [.Name y py] (.DictComp kx vx [⟨tge, iter, ifs, 0⟩] sco pos) spos) (rS X (setF i (dcompF al fI tg fT fK fV (ow.map (·.2))))) :=
  named (ps_setDcP hc hN hy hyl hsw hi ok hg ht hk he hs fun s H C cl fq => pds_ok (X := X.blk s H sco (compEnvC sco cl C X.env) fq) hu) fun _ _ _ => dcomp_core hown hfl
end
end
end HW
/-! HwU: sorted sets, the sizes of sets. -/
namespace HW
open PySem PySem.Spec PyProof.Rows L2 C8

/-! ### the order of whole numbers and of tuples of them -/
abbrev tI (k : List Int) : PV := .tup (k.map .int)
theorem toD_ints : ∀ k : List Int, toDs (k.map .int) = some (k.map .int)
  | [] => rfl
  | i :: k => by rw [List.map_cons, toDs, toD, toD_ints k]; rfl
theorem dOf_tI (k : List Int) : dOf (tI k) = .tuple (k.map .int) := by
  unfold dOf tI
  rw [toD, toD_ints]
  rfl
theorem dataLt_tup (a b : List Int) : PySem.W.dataLt (.tuple (a.map .int)) (.tuple (b.map .int)) = decide (a < b) := PySem.W.dataLt_ints a b
theorem le_int (a b : Int) : PySem.W.dataLe false dOf (.int a) (.int b) = decide (a ≤ b) := by
  show (!PySem.W.dataLt (.int b) (.int a)) = _
  rw [PySem.W.dataLt_int]
  exact PySem.W.not_lt_int a b
theorem le_tI (a b : List Int) : PySem.W.dataLe false dOf (tI a) (tI b) = decide (a ≤ b) := by
  show (!PySem.W.dataLt (dOf (tI b)) (dOf (tI a))) = _
  rw [dOf_tI, dOf_tI, dataLt_tup]
  by_cases h : b < a
  · have h' : ¬ a ≤ b := fun r => List.not_lt.mpr r h
    simp [h, h']
  · have h' : a ≤ b := List.not_lt.mp h
    simp [h, h']
def leI (a b : Int) : Bool := decide (a ≤ b)
def leR (a b : List Int) : Bool := decide (a ≤ b)
theorem sortV_ints (ns : List Int) : sortV (ns.map .int) = (ns.mergeSort leI).map .int := by
  unfold sortV
  rw [List.map_mergeSort]
  intro a _ b _
  exact (le_int a b).symm
theorem sortV_tups (ks : List (List Int)) : sortV (ks.map tI) = (ks.mergeSort leR).map tI := by
  unfold sortV
  rw [List.map_mergeSort]
  intro a _ b _
  exact (le_tI a b).symm
theorem leI_trans (a b c : Int) : leI a b = true → leI b c = true → leI a c = true := by unfold leI; simp only [decide_eq_true_eq]; omega
theorem leI_total (a b : Int) : (leI a b || leI b a) = true := by unfold leI; simp only [Bool.or_eq_true, decide_eq_true_eq]; omega
theorem leR_trans (a b c : List Int) : leR a b = true → leR b c = true → leR a c = true := by
  unfold leR; simp only [decide_eq_true_eq]; exact List.le_trans
theorem leR_total (a b : List Int) : (leR a b || leR b a) = true := by
  unfold leR; simp only [Bool.or_eq_true, decide_eq_true_eq]; exact List.le_total a b
/-- what is in order is the sorted one -/
theorem sortI_eq {a l : List Int} (hp : a.Perm l) (ha : a.Pairwise (· ≤ ·)) : a = l.mergeSort leI := by
  refine List.Perm.eq_of_pairwise (le := (· ≤ ·)) (fun x y _ _ h1 h2 => Int.le_antisymm h1 h2) ha ?_ (hp.trans (List.mergeSort_perm l leI).symm)
  exact (List.pairwise_mergeSort leI_trans leI_total l).imp fun h => of_decide_eq_true h
theorem sortR_eq {a l : List (List Int)} (hp : a.Perm l) (ha : a.Pairwise (· ≤ ·)) : a = l.mergeSort leR := by
  refine List.Perm.eq_of_pairwise (le := (· ≤ ·)) (fun x y _ _ h1 h2 => List.le_antisymm h1 h2) ha ?_ (hp.trans (List.mergeSort_perm l leR).symm)
  exact (List.pairwise_mergeSort leR_trans leR_total l).imp fun h => of_decide_eq_true h
/-! ### the first ones -/
theorem mem_dedup {x : PV} : ∀ {xs : List PV}, x ∈ dedup xs ↔ x ∈ xs
  | [] => Iff.rfl
  | y :: ys => by
    rw [dedup, List.mem_cons, List.mem_cons, List.mem_filter, mem_dedup (xs := ys)]
    by_cases h : x = y
    · simp [h]
    · simp [h]
theorem dedup_nodup : ∀ xs : List PV, (dedup xs).Nodup
  | [] => List.nodup_nil
  | x :: xs => by
    rw [dedup, List.nodup_cons]
    refine ⟨fun h => ?_, (dedup_nodup xs).filter _⟩
    rw [List.mem_filter] at h
    simp at h
theorem plain_cases {xs : List PV} (h : plainSet xs = true) : (∃ ns : List Int, xs = ns.map .int) ∨ ∃ ks : List (List Int), xs = ks.map tI := by
  unfold plainSet at h
  rw [Bool.or_eq_true] at h
  rcases h with h | h
  · left
    induction xs with
    | nil => exact ⟨[], rfl⟩
    | cons x xs ih =>
      rw [List.all_cons, Bool.and_eq_true] at h
      obtain ⟨ns, rfl⟩ := ih h.2
      cases x with
      | int i => exact ⟨i :: ns, rfl⟩
      | _ => simp at h
  · right
    induction xs with
    | nil => exact ⟨[], rfl⟩
    | cons x xs ih =>
      rw [List.all_cons, Bool.and_eq_true] at h
      obtain ⟨ks, rfl⟩ := ih h.2
      cases x with
      | tup ys =>
        obtain ⟨ns, hn⟩ := Option.isSome_iff_exists.mp h.1
        have : ∀ {ys : List PV} {ns : List Int}, asInts ys = some ns → ys = ns.map .int := by
          intro ys
          induction ys with
          | nil => intro ns e; rw [asInts] at e; cases e; rfl
          | cons y ys ih =>
            intro ns e
            cases y with
            | int i =>
              rw [asInts] at e
              obtain ⟨ms, e1, rfl⟩ := Option.map_eq_some_iff.mp e
              rw [ih e1]; rfl
            | _ => simp [asInts] at e
        exact ⟨ns :: ks, by rw [List.map_cons, tI, ← this hn]⟩
      | _ => simp at h
theorem int_inj : ∀ {a b : Int}, PV.int a = PV.int b → a = b := fun e => by cases e; rfl
theorem tI_inj {a b : List Int} (e : tI a = tI b) : a = b := by
  unfold tI at e
  injection e with e
  exact (List.map_inj_right fun x y h => int_inj h).mp e
/-- a list with the same ones, each once -/
theorem perm_dedup {α : Type} {f : α → PV} (hf : ∀ a b, f a = f b → a = b) {ys xs : List α} (hn : ys.Nodup) (hm : ∀ k, k ∈ ys ↔ k ∈ xs) : (ys.map f).Perm (dedup (xs.map f)) := by
  refine (List.perm_ext_iff_of_nodup (List.pairwise_map.mpr (hn.imp fun h e => h (hf _ _ e))) (dedup_nodup _)).mpr fun z => ?_
  rw [mem_dedup, List.mem_map, List.mem_map]
  exact ⟨fun ⟨a, h1, h2⟩ => ⟨a, (hm a).mp h1, h2⟩, fun ⟨a, h1, h2⟩ => ⟨a, (hm a).mpr h1, h2⟩⟩
/-! ### filling a new set -/
section
variable {X : Cx} {pins : List (Addr × Obj)} {σ : L2.St} {H : Hp} {s : Shared} {L : List Addr}
theorem none_of {h : Heap} {b : Addr} (hb : h.objs.size ≤ b) : h.get? b = none := by
  cases q : h.get? b with
  | none => rfl
  | some o => exact absurd (Nat.lt_of_lt_of_le (Heap.lt_size q) hb) (Nat.lt_irrefl _)
theorem loop_ints {P : Program} {w : World} {A : Around} {l : Addr} {us : List Value} {ns : List Int} (hh : A.handled = none) (hl : l < s.heap.objs.size) (hi : IntsAre us ns) (hb : ns.length < 64) :
    SetLoop P w A s l us.toArray (fun h' => ∃ c, c ≤ ns.length ∧ SetR w h' s.heap.objs.size (fun j => decide (j ∈ ns)) c) := fun I St s1 R eI W st hk hS hR => by
  have hlen : us.length = ns.length := hi.length
  subst eI
  have hSf : s.heap.objs.size ∉ [s.heap.objs.size + 1, l] := by
    simp only [List.mem_cons, List.not_mem_nil, or_false, not_or]
    exact ⟨Nat.ne_of_lt (Nat.lt_succ_self _), Nat.ne_of_gt hl⟩
  refine set_update_ints (A := A.in1.in1) W.toS s.heap.objs.size hSf ns (by simpa using hlen) (by unfold scanBound; omega) (fun i v hv => ?_) _ 0 s1 rfl (Nat.zero_le _) st ⟨0, Nat.le_refl 0, setR_new_at hS⟩ fun s' c hm hc hq => hR s' hm ⟨c, by rw [← hlen]; simpa using hc, hq⟩
  have hi' : i < ns.length := by rw [← hlen]; simpa using (Array.getElem?_eq_some_iff.mp hv).1
  obtain ⟨t, e⟩ := IntsAre.int_at hi i v (by simpa using hv)
  refine ⟨ns[i], t, List.getElem?_eq_getElem hi', ?_⟩
  rw [e, List.getD_eq_getElem?_getD, List.getElem?_eq_getElem hi']
  rfl
theorem loop_tups {P : Program} {w : World} {A : Around} {l : Addr} {us : List Value} {ks : List (Addr × List Int)} (hu : A.units + 3 < cLine) (hl : l < s.heap.objs.size) (hit : us = ks.map fun p => Value.ref p.1) (hk0 : ∀ p ∈ ks, IsT P w s.heap p.2 p.1) (hb : ks.length < 64) :
    SetLoop P w A s l us.toArray (fun h' => ∃ L es ep t, SetTR P w h' s.heap.objs.size L es ep t ∧ Got ks ks.length L) := fun I St s1 R eI W st hk hS hR => by
  subst eI
  subst hit
  have hSf : s.heap.objs.size ∉ [s.heap.objs.size + 1, l] := by
    simp only [List.mem_cons, List.not_mem_nil, or_false, not_or]
    exact ⟨Nat.ne_of_lt (Nat.lt_succ_self _), Nat.ne_of_gt hl⟩
  have hn : (ks.map fun p => Value.ref p.1).toArray.size = ks.length := by simp
  refine set_update_tups (A := A.in1.in1) W.toS s.heap.objs.size hSf ks hn hb (fun i v hv => ?_) s.heap hk0 (none_of (Nat.le_refl _)) (fun b hb => none_of ?_) (by show A.units + 3 < cLine; exact hu) _ 0 s1 rfl (Nat.zero_le _) st hk ⟨[], #[], 0, _, setTR_fresh hS, Got.zero ks⟩
    fun s' L es ep t hm hq g _ => hR s' hm ⟨L, es, ep, t, hq, by rw [← hn]; exact g⟩
  · simp only [List.getElem?_toArray, List.getElem?_map] at hv
    obtain ⟨p, h1, rfl⟩ := Option.map_eq_some_iff.mp hv
    exact ⟨p, h1, rfl⟩
  · rw [List.mem_singleton.mp hb]
    omega
/-- the tuples of ints that a list holds -/
theorem tups_at (I : Inv X pins σ H s) : ∀ {ks : List (List Int)} {vs : List V} {us : List Value}, VRs (wd X) L H (ks.map tI) vs → Vals vs us → ∃ ps : List (Addr × List Int), ps.map (·.2) = ks ∧ us = ps.map (fun p => Value.ref p.1) ∧ vs = ps.map (fun p => V.ref p.1) ∧
    (∀ p ∈ ps, IsT X.prog X.w s.heap p.2 p.1) ∧ ∀ p ∈ ps, VR (wd X) L H (tI p.2) (.ref p.1)
  | [], _, _, .nil, .nil => ⟨[], rfl, rfl, rfl, (by simp), (by simp)⟩
  | k :: ks, _, _, .cons v1 v2, .cons r1 r2 => by
    obtain ⟨ps, h1, h2, h3, h4, h5⟩ := tups_at I v2 r2
    have v0 := v1
    cases v1 with
    | @tup a _ ws t1 t2 t3 =>
      cases r1
      obtain ⟨its, rv, ⟨o, ho, hc, n, hd⟩, hz⟩ := I.tuple (TupAt.sq (K := X.K) t1)
      have e : ws = k.map V.int := t3.ints (by
        have : ∀ k : List Int, asInts (k.map .int) = some k := by
          intro k
          induction k with
          | nil => rfl
          | cons i k ih => rw [List.map_cons, asInts, ih]; rfl
        exact this k)
      subst e
      have items : ∀ {k : List Int} {us : List Value}, Vals (k.map V.int) us → ItemsAre (PySem.intKind X.prog X.w) k us := by
        intro k
        induction k with
        | nil => intro us r; cases r; exact .nil
        | cons i k ih =>
          intro us r
          cases r with
          | cons r1 r2 =>
            obtain ⟨t, rfl⟩ := r1
            exact .cons (show Value.isInt i (.int i t) = true by simp [Value.isInt]) (ih r2)
      have it : IsT X.prog X.w s.heap k a := ⟨o, its.toArray, n, ho, hc, hd, by simpa using items rv⟩
      refine ⟨(a, k) :: ps, by rw [List.map_cons, h1], by rw [List.map_cons, h2], by rw [List.map_cons, h3], fun p hp => ?_, fun p hp => ?_⟩
      · rcases List.mem_cons.mp hp with rfl | hp
        · exact it
        · exact h4 p hp
      · rcases List.mem_cons.mp hp with rfl | hp
        · exact v0
        · exact h5 p hp
end
end HW
/-! HwV: sorted(set(..)), len(set(..)). -/
namespace HW
open PySem PySem.Spec PyProof.Rows L2 C8

section
variable {X : Cx} {pins : List (Addr × Obj)} {σ : L2.St} {H : Hp} {s : Shared} {L : List Addr}
theorem inv_at (I : Inv X pins σ H s) {s1 : Shared} (k : ∀ b o, s.heap.get? b = some o → s1.heap.get? b = some o) (g : s1.gens = s.gens) (o : s1.os = s.os) : Inv X pins σ H s1 :=
  I.call' (ch := []) o (Un.kept k) (I.hok.kept k) (by rw [g]; exact I.bare) fun b hb => absurd hb (by simp)
/-- sorted(v), v anything that gives some of xs in some order -/
theorem sorted_colX (hc : X.calm = true) (hu : Um X) (I : Inv X pins σ H s) {v : Value} {xs zs : List PV} (ok : sortOk xs = true)
    (col : ∀ (A : Around) (E : Value → Shared → Prop) (R : List Value → Shared → Prop), A.handled = none →
      (∀ s1 acc vs ys, (∀ b o, s.heap.get? b = some o → s1.heap.get? b = some o) → s1.gens = s.gens → s1.os = s.os → Vals vs acc → VRs (wd X) L H ys vs → acc.length ≤ sizeLine → (∀ y ∈ ys, y ∈ xs) → sortV ys = zs → R acc s1) → wpAny (model X.prog X.w) A (collect v) R E s)
    {Q : VK} (hf : ∀ s1 p vs, Inv X pins σ (upd H p (.lst vs)) s1 → H p = none → VRs (wd X) L H zs vs → EP X pins σ Q (.ref p) s1) :
    wpAny (model X.prog X.w) X.A (call (.builtin "sorted") [v]) (EP X pins σ Q) X.xe s := by
  obtain ⟨hD, hA, hS, hDp⟩ := sortOk_facts ok
  refine Calls.call_function_entry kind_sorted plain_sorted entry_sorted (args_sorted1 _) ?_
  unfold Builtin.«sorted»
  refine wpAny_bind (m := checkCount "sorted" 1 1 _) (wpAny_pure ?_)
  have hh : X.A.in1.handled = none := I.ok.hd hc
  refine wpAny_bind (col X.A.in1 _ _ hh fun s1 acc vs ys hk hg hos rv vv hl sub ez => ?_)
  refine wpAny_bind (wpAny_newList ?_ hl)
  have I1 := inv_at I hk hg hos
  have hk2 : ∀ b o, s1.heap.get? b = some o → (s1.heap.push { cls := .type "list", data := .seq acc.toArray }).get? b = some o := fun b o e => Heap.get?_push_of_some _ e
  have e1 := each_of vv rv
  have hn : H s1.heap.objs.size = none := I1.hok.fresh (Nat.le_refl _)
  have hat : (s1.heap.push { cls := .type "list", data := .seq acc.toArray }).get? s1.heap.objs.size = some (seqObj "list" acc.toArray 0) := Heap.get?_push_size _ rfl
  have subM : ∀ d ∈ ys.map dOf, d ∈ xs.map dOf := fun d hd => by
    obtain ⟨y, hy, rfl⟩ := List.mem_map.mp hd
    exact List.mem_map.mpr ⟨y, sub y hy, rfl⟩
  have hS' : PySem.W.Sortable (ys.map dOf) := by
    rcases hS with h | h
    · exact .inl fun d hd => h d (subM d hd)
    · exact .inr fun d hd => h d (subM d hd)
  refine wpAny_bind (wpAny_holding (PySem.W.list_sort_data (A := X.A.in1) (s := { s1 with heap := s1.heap.push { cls := .type "list", data := .seq acc.toArray } }) hat e1 (each_reads I1 hk2 (fun p hp => hD p (sub p hp)) e1 (Nat.le_refl _)) (fun d hd d' hd' => hA d (subM d hd) d' (subM d' hd')) hS' (by rw [← vv.length, rv.length]; exact hl) (fun p hp => ?_) fun out ho eo => ?_))
  · have h1 := hDp p (sub p hp)
    have h2 : X.A.units + 100 < cLine := hu
    rw [Around.in1_units]
    omega
  · refine wpAny_pure ⟨_, rfl, ?_⟩
    obtain ⟨ws, rw1, rw2⟩ := of_each eo
    obtain ⟨e', he'⟩ := PyProof.Rows.sortedHeap_at (vs := acc) (out := out.toArray) hat
    have hlen : ws.length ≤ sizeLine := by rw [rw1.length, ho, ← vv.length, rv.length]; exact hl
    have rw2' : VRs (wd X) L H zs ws := by rw [← ez]; exact rw2
    refine hf _ s1.heap.objs.size ws (I1.laid (t' := s1.toks) (fun b o e => ?_) (Nat.le_refl _) ⟨hlen, out, e', rw1, he'⟩) hn rw2'
    have hb : b < s1.heap.objs.size := Heap.lt_size e
    rw [PyProof.Rows.sortedHeap_old (Nat.ne_of_lt hb) (Heap.lt_size (hk2 b o e))]
    exact hk2 b o e
/-- back from PVs -/
def toI : PV → Option Int
  | .int i => some i
  | _ => none
def toR : PV → Option (List Int)
  | .tup ys => asInts ys
  | _ => none
theorem asInts_map : ∀ k : List Int, asInts (k.map .int) = some k
  | [] => rfl
  | i :: k => by rw [List.map_cons, asInts, asInts_map k]; rfl
theorem toI_map (ns : List Int) : (ns.map PV.int).filterMap toI = ns := by
  induction ns with
  | nil => rfl
  | cons n ns ih => rw [List.map_cons, List.filterMap_cons]; show n :: _ = _; rw [ih]
theorem toR_map (ks : List (List Int)) : (ks.map tI).filterMap toR = ks := by
  induction ks with
  | nil => rfl
  | cons n ns ih =>
    rw [List.map_cons, List.filterMap_cons]
    have : toR (tI n) = some n := asInts_map n
    rw [this, ih]
theorem dedup_ints (ns : List Int) : ∃ ms : List Int, dedup (ns.map .int) = ms.map .int ∧ (∀ k, k ∈ ms ↔ k ∈ ns) ∧ ms.Nodup := by
  have h : plainSet (dedup (ns.map .int)) = true ∧ ∀ x ∈ dedup (ns.map PV.int), ∃ i, x = .int i := by
    have : ∀ x ∈ dedup (ns.map PV.int), ∃ i, x = .int i := fun x hx => by
      obtain ⟨i, _, rfl⟩ := List.mem_map.mp (mem_dedup.mp hx)
      exact ⟨i, rfl⟩
    refine ⟨?_, this⟩
    unfold plainSet
    rw [Bool.or_eq_true]
    left
    rw [List.all_eq_true]
    intro x hx
    obtain ⟨i, rfl⟩ := this x hx
    rfl
  have g : ∀ xs : List PV, (∀ x ∈ xs, ∃ i, x = PV.int i) → ∃ ms : List Int, xs = ms.map .int := by
    intro xs
    induction xs with
    | nil => intro _; exact ⟨[], rfl⟩
    | cons x xs ih =>
      intro h
      obtain ⟨i, rfl⟩ := h x (by simp)
      obtain ⟨ms, rfl⟩ := ih fun y hy => h y (by simp [hy])
      exact ⟨i :: ms, rfl⟩
  obtain ⟨ms, e⟩ := g _ h.2
  refine ⟨ms, e, fun k => ?_, ?_⟩
  · have h1 : PV.int k ∈ dedup (ns.map PV.int) ↔ PV.int k ∈ ns.map PV.int := mem_dedup
    rw [e] at h1
    simpa using h1
  · have := dedup_nodup (ns.map PV.int)
    rw [e] at this
    exact (List.pairwise_map.mp this).imp fun h z => h (by rw [z])
theorem dedup_tups (ks : List (List Int)) : ∃ ms : List (List Int), dedup (ks.map tI) = ms.map tI ∧ (∀ k, k ∈ ms ↔ k ∈ ks) ∧ ms.Nodup := by
  have h : ∀ x ∈ dedup (ks.map tI), ∃ i, x = tI i := fun x hx => by
    obtain ⟨i, _, rfl⟩ := List.mem_map.mp (mem_dedup.mp hx)
    exact ⟨i, rfl⟩
  have g : ∀ xs : List PV, (∀ x ∈ xs, ∃ i, x = tI i) → ∃ ms : List (List Int), xs = ms.map tI := by
    intro xs
    induction xs with
    | nil => intro _; exact ⟨[], rfl⟩
    | cons x xs ih =>
      intro h
      obtain ⟨i, rfl⟩ := h x (by simp)
      obtain ⟨ms, rfl⟩ := ih fun y hy => h y (by simp [hy])
      exact ⟨i :: ms, rfl⟩
  obtain ⟨ms, e⟩ := g _ h
  refine ⟨ms, e, fun k => ?_, ?_⟩
  · have h1 : tI k ∈ dedup (ks.map tI) ↔ tI k ∈ ks.map tI := mem_dedup
    rw [e, List.mem_map, List.mem_map] at h1
    exact ⟨fun hk => let ⟨a, h2, h3⟩ := h1.mp ⟨k, hk, rfl⟩; tI_inj h3 ▸ h2, fun hk => let ⟨a, h2, h3⟩ := h1.mpr ⟨k, hk, rfl⟩; tI_inj h3 ▸ h2⟩
  · have := dedup_nodup (ks.map tI)
    rw [e] at this
    exact (List.pairwise_map.mp this).imp fun h z => h (by rw [z])
/-- what a set of xs is -/
theorem seq_src (I : Inv X pins σ H s) {a : Addr} {vs : List V} (h : Rd H a (.lst vs) ∨ TupAt H a vs) : ∃ us : List Value, Vals vs us ∧ (s.heap.IsList a us.toArray ∨ s.heap.IsTuple a us.toArray) ∧ a < s.heap.objs.size := by
  rcases h with h | h
  · obtain ⟨us, rv, p, _⟩ := I.list (sqr (K := X.K) h)
    exact ⟨us, rv, .inl p.isList, let ⟨_, e, _⟩ := p.isList; Heap.lt_size e⟩
  · obtain ⟨us, rv, p, _⟩ := I.tuple (h.sq (K := X.K))
    exact ⟨us, rv, .inr p, let ⟨_, e, _⟩ := p; Heap.lt_size e⟩
theorem sort_set (hc : X.calm = true) (hu : Um X) (I : Inv X pins σ H s) {h h' : PHeap} (hr : HR (wd X) L h H) {a : Addr} {vs : List V} {xs : List PV} {al : Bool} {r : PV} {Q : VK} (src : Rd H a (.lst vs) ∨ TupAt H a vs) (v : VRs (wd X) L H xs vs) (pl : plainSet xs = true) (ok : sortOk xs = true) (hb : xs.length < 64)
    (e : mkList al (sortV (dedup xs)) h = .ok r h') (post : Post (wd X) L H r h' Q) :
    wpAny (model X.prog X.w) X.A (call (.type "set") [.ref a]) (fun u s1 => wpAny (model X.prog X.w) X.A (call (.builtin "sorted") [u]) (EP X pins σ Q) X.xe s1) X.xe s := by
  obtain ⟨us, rv, src', hl⟩ := seq_src I src
  have hh := I.ok.hd hc
  rcases plain_cases pl with ⟨ns, rfl⟩ | ⟨ks, rfl⟩
  · have e1 : vs = ns.map V.int := v.ints (asInts_map ns)
    subst e1
    have hi := intsAre_of rv
    rw [List.length_map] at hb
    refine set_made hh src' (loop_ints hh hl hi hb) fun h1 tk ⟨c, hc1, R⟩ kk => ?_
    have I1 : Inv X pins σ H { s with heap := h1, toks := tk } := I.kept kk
    refine sorted_set R hh (by omega) fun s' p out c' ns' k g o hz at_ ia pw mem hlen => ?_
    have hn : H p = none := I1.hok.fresh hz
    obtain ⟨ms, em, mm, mn⟩ := dedup_ints ns
    have nd : ns'.Nodup := pw.imp fun h e => by omega
    have pm : ns'.Perm ms := (List.perm_ext_iff_of_nodup nd mn).mpr fun z => by rw [mem z, mm z]; simp
    have es : sortV (dedup (ns.map .int)) = ns'.map .int := by
      rw [em, sortV_ints, ← sortI_eq pm (pw.imp fun h => by omega)]
    rw [es] at e
    have k0 : ∀ b o, s.heap.get? b = some o → s'.heap.get? b = some o := fun b o e => k b o (kk b o e)
    have new : ObjOk X.prog X.w (upd H p (.lst (ns'.map V.int))) s'.heap p (.lst (ns'.map V.int)) := by
      refine ⟨?_, out.toList, c', vals_of_ints ia, by simpa using at_⟩
      rw [List.length_map, hlen, sizeLine_eq]; omega
    have I2 : Inv X pins σ (upd H p (.lst (ns'.map V.int))) s' :=
      I1.call' (ch := []) o (Un.laid k hz hn) (I1.hok.laid k hz new) (by rw [g]; exact I.bare) fun b hb => absurd hb (by simp)
    exact mk_ep I2 hn e post hr (VRs.ofInts ns')
  · obtain ⟨ps, h1, rfl, rfl, h4, h5⟩ := tups_at I v rv
    subst h1
    rw [List.length_map, List.length_map] at hb
    have hu3 : X.A.units + 3 < cLine := by have : X.A.units + 100 < cLine := hu; omega
    refine set_made hh src' (loop_tups hu3 hl rfl h4 hb) fun hp tk ⟨Ls, es, ep, t, R, g⟩ kk => ?_
    have I1 : Inv X pins σ H { s with heap := hp, toks := tk } := I.kept kk
    obtain ⟨o, ho, hex, hd⟩ := R.ob
    have hsz : es.size = Ls.length := by
      have := congrArg List.length R.rows
      unfold rowsOf at this
      simpa using this
    have hvals : es.toList.map (·.2) = Ls.map fun q => Value.ref q.1 := by
      rw [R.rows]
      unfold rowsOf
      rw [List.map_map]
      rfl
    have sub : ∀ q ∈ Ls, q ∈ ps := fun q hq => List.mem_of_mem_take (g.sub q hq)
    have one : ∀ q ∈ Ls, ∀ r ∈ Ls, q.1 = r.1 → q = r := fun q hq r hr' e => by
      have a1 := R.tup q hq
      have a2 := R.tup r hr'
      rw [e] at a1
      exact Prod.ext e (a1.inj a2)
    obtain ⟨ms, em, mm, mn⟩ := dedup_tups (ps.map (·.2))
    have pm : (Ls.map (·.2)).Perm ms := (List.perm_ext_iff_of_nodup R.nd mn).mpr fun z => by
      rw [mm z]
      constructor
      · intro hz
        obtain ⟨q, hq, rfl⟩ := List.mem_map.mp hz
        exact List.mem_map.mpr ⟨q, sub q hq, rfl⟩
      · intro hz
        obtain ⟨q, hq, rfl⟩ := List.mem_map.mp hz
        exact g.all q (by rw [List.take_length]; exact hq)
    refine sorted_colX hc hu I1 (xs := (ps.map (·.2)).map tI) (zs := sortV (dedup ((ps.map (·.2)).map tI))) ok (fun A E W hA hW => ?_) fun s1 p vs I2 hn vz => mk_ep I2 hn e post hr vz
    refine collect_set (A := A) hA ⟨o, ho, hex.1, hd⟩ (SetTR.fits (s := { s with heap := hp, toks := tk }) R) (by unfold scanBound; have := R.few; omega) R.tab.ris R.led fun s1 out k1 hz g1 o1 pmv => ?_
    rw [hvals] at pmv
    have ord : ∀ out : List Value, (∀ v ∈ out, ∃ q ∈ Ls, v = Value.ref q.1) → ∃ L1 : List (Addr × List Int), out = L1.map (fun q => Value.ref q.1) ∧ ∀ q ∈ L1, q ∈ Ls := by
      intro out
      induction out with
      | nil => intro _; exact ⟨[], rfl, fun q hq => by cases hq⟩
      | cons v out ih =>
        intro hv
        obtain ⟨q, hq, rfl⟩ := hv v (by simp)
        obtain ⟨L1, rfl, hs⟩ := ih fun u hu => hv u (by simp [hu])
        refine ⟨q :: L1, rfl, fun r hr' => ?_⟩
        rcases List.mem_cons.mp hr' with rfl | z
        · exact hq
        · exact hs r z
    obtain ⟨L1, e9, hs⟩ := ord out fun v hv => by
      obtain ⟨q, hq, rfl⟩ := List.mem_map.mp (pmv.mem_iff.mp hv)
      exact ⟨q, hq, rfl⟩
    subst e9
    have nL : Ls.Nodup := nodup_of_map R.nd
    have nref : (Ls.map fun q => Value.ref q.1).Nodup := List.pairwise_map.mpr (nL.imp_of_mem fun {q r} hq hr' hne e => hne (one q hq r hr' (by injection e)))
    have n1 : L1.Nodup := nodup_of_map (pmv.nodup_iff.mpr nref)
    have pL : L1.Perm Ls := (List.perm_ext_iff_of_nodup n1 nL).mpr fun q => ⟨hs q, fun hq => by
      obtain ⟨r, hr', e⟩ := List.mem_map.mp (pmv.mem_iff.mpr (List.mem_map.mpr ⟨q, hq, rfl⟩))
      have : r.1 = q.1 := by injection e
      rw [← one r (hs r hr') q hq this]
      exact hr'⟩
    have rels : ∀ L1 : List (Addr × List Int), (∀ q ∈ L1, q ∈ Ls) → Vals (L1.map fun q => V.ref q.1) (L1.map fun q => Value.ref q.1) ∧ VRs (wd X) L H ((L1.map (·.2)).map tI) (L1.map fun q => V.ref q.1) := by
      intro L1
      induction L1 with
      | nil => intro _; exact ⟨.nil, .nil⟩
      | cons q L1 ih =>
        intro hs
        obtain ⟨i1, i2⟩ := ih fun r hr' => hs r (by simp [hr'])
        exact ⟨.cons rfl i1, .cons (h5 q (sub q (hs q (by simp)))) i2⟩
    obtain ⟨r1, r2⟩ := rels L1 hs
    refine hW s1 _ _ _ k1 g1 o1 r1 r2 ?_ (fun y hy => ?_) ?_
    · have := pL.length_eq
      have := R.few
      rw [List.length_map, sizeLine_eq]; omega
    · obtain ⟨z, hz', rfl⟩ := List.mem_map.mp hy
      obtain ⟨q, hq, rfl⟩ := List.mem_map.mp hz'
      exact List.mem_map.mpr ⟨q.2, List.mem_map.mpr ⟨q, sub q (hs q hq), rfl⟩, rfl⟩
    · rw [em, sortV_tups, sortV_tups]
      congr 1
      refine sortR_eq ((List.mergeSort_perm _ _).trans ((pL.map (·.2)).trans pm)) ?_
      exact (List.pairwise_mergeSort leR_trans leR_total _).imp fun h => of_decide_eq_true h
end
end HW
/-! HwW: list(range), tuple(range), sorted(set) as expressions. -/
namespace HW
open PySem PySem.Spec PyProof.Rows L2 C8

section
variable {X : Cx} {a b e : Expr} {f g : Env → PHeap → R PV} {p q pos pos2 : Pos}
def rR (X : Cx) (g : Env → PHeap → R (Int × Int)) : L2.St → Hp → (Int → Int → Hp → Prop) → Prop := fun σ H Q => ∃ L h env p h', HR (wd X) L h H ∧ ER (wd X) L H env σ ∧ g env h = .ok p h' ∧ PostH (wd X) L H h' (Q p.1 p.2)
def g1 (f : Env → PHeap → R PV) : Env → PHeap → R (Int × Int) := fun env h => (f env h).bind fun v h => (R.of (intOf v) h).bind fun i h => .ok (0, i) h
def g2 (f g : Env → PHeap → R PV) : Env → PHeap → R (Int × Int) := fun env h => (f env h).bind fun v h => (g env h).bind fun w h => (R.of (intOf v) h).bind fun i h => (R.of (intOf w) h).bind fun j h => .ok (i, j) h
theorem sr_1 (hg : Gl X "range") (hm : X.mg "range" = none) (ha : PE X a (rE X f)) (ho : okArg a = true) : PRg X (.Call (.Name "range" p) [a] [] pos) (rR X (g1 f)) := fun pins s σ H Q I ⟨L, h, env, pp, h', hr, er, e, post⟩ => by
  obtain ⟨v, h1, e1, e⟩ := R.bind_eq_ok e
  obtain ⟨i, e2, e⟩ := R.of_bind e
  cases e
  obtain rfl := int_of e2
  exact prg_1 hg hm ha (star_ok ho _ _) pins s σ H Q I ⟨L, h, env, _, _, hr, er, e1, fun x L1 H1 x1 hr1 v1 => by cases v1; exact ⟨_, rfl, post _ _ x1 hr1⟩⟩
theorem sr_2 (hg : Gl X "range") (hm : X.mg "range" = none) (ha : PE X a (rE X f)) (hb : PE X b (rE X g)) (ho : okArg a = true) (ho' : okArg b = true) : PRg X (.Call (.Name "range" p) [a, b] [] pos) (rR X (g2 f g)) := fun pins s σ H Q I ⟨L, h, env, pp, h', hr, er, e, post⟩ => by
  obtain ⟨v, h1, e1, e⟩ := R.bind_eq_ok e
  obtain ⟨w, h2, e2, e⟩ := R.bind_eq_ok e
  obtain ⟨i, e3, e⟩ := R.of_bind e
  obtain ⟨j, e4, e⟩ := R.of_bind e
  cases e
  obtain rfl := int_of e3
  obtain rfl := int_of e4
  exact prg_2 hg hm ha hb (star_ok ho _ _) (star_ok ho' _ _) (by rw [star_ok ho']; rfl) pins s σ H Q I ⟨L, h, env, _, _, hr, er, e1, fun x L1 H1 x1 hr1 v1 => ⟨L1, h1, env, _, _, hr1, er.mono x1, e2, fun y L2 H2 x2 hr2 v2 => by
    cases v1; cases v2; exact ⟨_, _, rfl, rfl, post _ _ (x1.tr hr x2) hr2⟩⟩⟩
theorem rg_vrs {Z : Wd} {L : List Addr} {H : Hp} (lo hi : Int) : VRs Z L H ((List.range (hi - lo).toNat).map fun (i : Nat) => PV.int (lo + i)) (rgV lo hi) := by
  unfold rgV
  have : ∀ l : List Nat, VRs Z L H (l.map fun (i : Nat) => PV.int (lo + i)) (l.map fun (i : Nat) => V.int (lo + i)) := by
    intro l
    induction l with
    | nil => exact .nil
    | cons x l ih => exact .cons (.int _) ih
  exact this _
theorem rangeOf_ok {lo hi : Int} {xs : List PV} (h : rangeOf lo hi = some xs) (hl : xs.length ≤ LIM) : RgOk lo hi ∧ xs = (List.range (hi - lo).toNat).map fun (i : Nat) => PV.int (lo + i) := by
  have w := range_w h
  obtain ⟨w1, w2⟩ := wide62_ w.1
  obtain ⟨w3, w4⟩ := wide62_ w.2
  unfold rangeOf at h
  split at h
  · cases h
    rw [List.length_map, List.length_range] at hl
    exact ⟨⟨w1, w2, w3, w4, hl⟩, rfl⟩
  · cases h
variable {g : Env → PHeap → R (Int × Int)}
theorem se_listRg {al : Bool} (hc : X.calm = true) (hg : Gl X "list") (hm : X.mg "list" = none) (he : PRg X e (rR X g)) (ho : okArg e = true) : PE X (.Call (.Name "list" p) [e] [] pos) (rE X fun env h => (g env h).bind fun p h => (R.of (rangeOf p.1 p.2) h).bind fun xs h => convI .list al xs h) := ⟨fun pins s σ H Q I ⟨L, h, env, v, h', hr, er, e0, post⟩ => by
  obtain ⟨pp, h1, e1, e0⟩ := R.bind_eq_ok e0
  obtain ⟨xs, e2, e0⟩ := R.of_bind e0
  simp only [convI] at e0
  split at e0
  · rename_i hl
    obtain ⟨ok, rfl⟩ := rangeOf_ok e2 hl
    refine thn ((pe_listRg hc hg hm he (star_ok ho _ _)).run pins s σ H (fun x H' => ∃ L1 H1 p, Ext L H L1 H1 ∧ HR (wd X) L1 h1 H1 ∧ x = .ref p ∧ H1 p = none ∧ H' = upd H1 p (.lst (rgV pp.1 pp.2))) I ⟨L, h, env, pp, h1, hr, er, e1, fun L1 H1 x1 hr1 => ⟨ok, fun p hp => ⟨L1, H1, p, x1, hr1, rfl, hp, rfl⟩⟩⟩) fun u s' ⟨x, H', I', rx, L1, H1, p, x1, hr1, ex, hp, eH⟩ => ?_
    subst ex eH
    cases rx
    exact mk_ep I' hp e0 (post.aft hr x1) hr1 (rg_vrs _ _)
  · cases e0⟩
theorem se_tupRg {al : Bool} (hc : X.calm = true) (hg : Gl X "tuple") (hm : X.mg "tuple" = none) (he : PRg X e (rR X g)) (ho : okArg e = true) : PE X (.Call (.Name "tuple" p) [e] [] pos) (rE X fun env h => (g env h).bind fun p h => (R.of (rangeOf p.1 p.2) h).bind fun xs h => convI .tuple al xs h) := ⟨fun pins s σ H Q I ⟨L, h, env, v, h', hr, er, e0, post⟩ => by
  obtain ⟨pp, h1, e1, e0⟩ := R.bind_eq_ok e0
  obtain ⟨xs, e2, e0⟩ := R.of_bind e0
  simp only [convI] at e0
  split at e0
  · rename_i hl
    cases e0
    obtain ⟨ok, rfl⟩ := rangeOf_ok e2 hl
    refine Call_ (ld_blt I hg hm boot_tuple (PyProof.Rows.callWith_type1 (args_cons (thn (he pins s σ H (fun lo hi H' => lo = pp.1 ∧ hi = pp.2 ∧ ∃ L1, Ext L H L1 H' ∧ HR (wd X) L1 h' H') I ⟨L, h, env, pp, h', hr, er, e1, fun L1 H1 x1 hr1 => ⟨rfl, rfl, L1, x1, hr1⟩⟩) fun x z1 ⟨r, lo, hi, t, u, v, H1, ex, hrr, I1, e3, e4, L1, x1, hr1⟩ => args_nil ?_) (star_ok ho _ _)) (star_ok ho _ _)))
    subst ex e3 e4
    obtain ⟨b1, b2, b3, b4, b5⟩ := ok
    refine call_tuple_range (n := (pp.2 - pp.1).toNat) (I1.ok.hd hc) hrr (small_one b1 b2 b3 b4) (rangeSize_nat pp.1 pp.2) b5 fun h2 tk acc hk hi => ?_
    have J2 : Inv X pins σ H1 { z1 with heap := h2, toks := tk } := I1.kept hk
    have := tup_ep J2 hr1 (post.aft hr x1) (rg_vrs pp.1 pp.2) (vals_rg hi) (by rw [rgV_length, sizeLine_eq]; omega) tk
    rw [show acc = acc.toList.toArray by simp]
    exact this
  · cases e0⟩
/-- sorted(set(e)) -/
theorem se_sortSet {al : Bool} (hc : X.calm = true) (hu : Um X) (hg : Gl X "sorted") (hm : X.mg "sorted" = none) (hg2 : Gl X "set") (hm2 : X.mg "set" = none) (ha : PE X a (rE X f)) (ho : okArg a = true) :
    PE X (.Call (.Name "sorted" p) [.Call (.Name "set" q) [a] [] pos2] [] pos) (rE X fun env h => (f env h).bind fun v h => convop .sortedSet al v h) := ⟨fun pins s σ H Q I ⟨L, h, env, v, h', hr, er, e0, post⟩ => by
  obtain ⟨pv, h1, e1, e0⟩ := R.bind_eq_ok e0
  simp only [convop] at e0
  obtain ⟨xs, e2, e0⟩ := R.of_bind e0
  split at e0
  · rename_i ok
    simp only [Bool.and_eq_true, decide_eq_true_eq] at ok
    refine wpAny_Call_Name_kw (ld_blt I hg hm rfl ?_)
    refine callWith_builtin1 (args_cons ?_ (star_ok rfl _ _)) (star_ok rfl _ _)
    refine Call_ (ld_blt I hg2 hm2 rfl (PyProof.Rows.callWith_type1 (args_cons (thn (ha.run pins s σ H (fun x H1 => ∃ L1, Ext L H L1 H1 ∧ HR (wd X) L1 h1 H1 ∧ VR (wd X) L1 H1 pv x) I ⟨L, h, env, pv, h1, hr, er, e1, fun x L1 H1 x1 hr1 v1 => ⟨L1, x1, hr1, v1⟩⟩) fun u s1 ⟨x, H1, I1, rx, L1, x1, hr1, v1⟩ => args_nil ?_) (star_ok ho _ _)) (star_ok ho _ _)))
    obtain ⟨d, vs, rfl, h3, h4⟩ := v1.seq hr1 e2
    cases rx
    exact thn (sort_set hc hu I1 hr1 h3 h4 ok.1.1 ok.1.2 ok.2 e0 (post.aft hr x1)) fun w s2 hw => args_nil hw
  · cases e0⟩
end
/-! ### sorted(d.items()) -/
section
variable {X : Cx} {pins : List (Addr × Obj)} {σ : L2.St} {s : Shared} {L : List Addr} {hp : PHeap}
/-- pairs already laid are tracked -/
theorem takeP {H0 : Hp} {h' : Heap} {tk : Nat} (I0 : Inv X pins σ H0 s) : ∀ (as : List Addr) (es : List (PV × PV)) (ks vs : List V) (us ws : List Value) (H1 : Hp), Inv X pins σ H1 { s with heap := h', toks := tk } → as.Nodup → HR (wd X) L hp H1 →
    VRs (wd X) L H1 (es.map (·.1)) ks → VRs (wd X) L H1 (es.map (·.2)) vs → Vals ks us → Vals vs ws → as.length = es.length → (∀ a ∈ as, s.heap.objs.size ≤ a ∧ H1 a = none) →
    (∀ (j : Nat) (a : Addr), as[j]? = some a → ∃ u w, us[j]? = some u ∧ ws[j]? = some w ∧ h'.get? a = some (tupO [u, w])) →
    ∃ H2, Inv X pins σ H2 { s with heap := h', toks := tk } ∧ Ext L H1 L H2 ∧ HR (wd X) L hp H2 ∧ VRs (wd X) L H2 (es.map pairP) (as.map V.ref) := by
  intro as
  induction as with
  | nil =>
    intro es ks vs us ws H1 I1 nd hr k1 v1 r1 t1 hl ha hg
    cases es with
    | nil => exact ⟨H1, I1, Ext.refl, hr, .nil⟩
    | cons e es => simp at hl
  | cons a as ih =>
    intro es ks vs us ws H1 I1 nd hr k1 v1 r1 t1 hl ha hg
    cases es with
    | nil => simp at hl
    | cons e es =>
      cases k1 with
      | cons k1 k2 =>
        cases v1 with
        | cons v1 v2 =>
          cases r1 with
          | cons r1 r2 =>
            cases t1 with
            | cons t1 t2 =>
              rename_i k ks v vs u us w ws
              rw [List.nodup_cons] at nd
              obtain ⟨a1, a2⟩ := ha a List.mem_cons_self
              obtain ⟨u', w', e1, e2, e3⟩ := hg 0 a rfl
              cases e1
              cases e2
              have I2 : Inv X pins σ (upd H1 a (.frz (tupO [u, w]) (.tup [k, v]))) { s with heap := h', toks := tk } := I1.take (h' := h') (t' := tk) (fun b ob _ e => e) (I0.fpOk a1 a2) ⟨e3, by simp [sizeLine_eq], [u, w], .cons r1 (.cons t1 .nil), ⟨_, e3, rfl, 0, rfl⟩⟩
              have x1 : Ext L H1 L (upd H1 a (.frz (tupO [u, w]) (.tup [k, v]))) := ext_new a2
              obtain ⟨H2, I3, x2, hr2, vv⟩ := ih es ks vs us ws _ I2 nd.2 (hr.new a2) (k2.mono x1) (v2.mono x1) r2 t2 (by simpa using hl) (fun b hb => by
                obtain ⟨b1, b2⟩ := ha b (List.mem_cons_of_mem _ hb)
                exact ⟨b1, by rw [upd_ne (fun z => nd.1 (by rw [← z]; exact hb))]; exact b2⟩) fun j b hj => hg (j + 1) b hj
              have vp : VR (wd X) L (upd H1 a (.frz (tupO [u, w]) (.tup [k, v]))) (pairP e) (.ref a) := .tup ⟨_, upd_same, rfl⟩ (hr.free a2) (.cons (k1.mono x1) (.cons (v1.mono x1) .nil))
              exact ⟨H2, I3, x1.tr hr x2, hr2, .cons (vp.mono x2) vv⟩
theorem vals_refs : ∀ as : List Addr, Vals (as.map V.ref) (as.map Value.ref)
  | [] => .nil
  | a :: as => .cons rfl (vals_refs as)
theorem sorted_items {H : Hp} (hc : X.calm = true) (hu : Um X) (I : Inv X pins σ H s) (hr : HR (wd X) L hp H) {a r : Addr} {es : List (PV × PV)} (d : DR (wd X) L H a es) (view : s.heap.IsItemsView r a) (ok : sortOk (es.map pairP) = true)
    {al : Bool} {v : PV} {h1 : PHeap} {Q : VK} (e : mkList al (sortV (es.map pairP)) hp = .ok v h1) (post : Post (wd X) L H v h1 Q) : wpAny (model X.prog X.w) X.A (call (.builtin "sorted") [.ref r]) (EP X pins σ Q) X.xe s := by
  obtain ⟨rs, ep, rw_⟩ := dict_raw I d
  obtain ⟨hD, hA, hS, hDp⟩ := sortOk_facts ok
  obtain ⟨ks, k1, k2⟩ := rw_.keys
  obtain ⟨vs, v1, v2⟩ := rw_.vals
  refine DT.sortedI (es := rs) (ep := ep) (I.ok.hd hc) view rw_.raw (by rw [rw_.size]; exact rw_.few) fun h' tk as hk hlt hl hG => ?_
  have nd : as.Nodup := List.Pairwise.imp (fun h => Nat.ne_of_lt h) hG.rise
  have I1 : Inv X pins σ H { s with heap := h', toks := tk } := I.kept hk
  obtain ⟨H2, I2, x2, hr2, vv⟩ := takeP (h' := h') (tk := tk) I as es ks vs _ _ H I1 nd hr k2 v2 k1 v1 (by rw [hl, rw_.size]) (fun b hb => ⟨Nat.le_of_lt (hG.above b hb), I.hok.fresh (Nat.le_of_lt (hG.above b hb))⟩) fun j b hj => by
    obtain ⟨en, g1, g2⟩ := hG.pairs j b hj
    have g3 : rs.toList[j]? = some en := by rw [Array.getElem?_toList]; exact g1
    exact ⟨en.key, en.val, by rw [List.getElem?_map, g3]; rfl, by rw [List.getElem?_map, g3]; rfl, g2⟩
  have rv := vals_refs as
  have hll : (as.map Value.ref).length ≤ sizeLine := by rw [List.length_map, hl, rw_.size]; exact rw_.few
  have hk2 : ∀ b o, h'.get? b = some o → (h'.push { cls := .type "list", data := .seq (as.map Value.ref).toArray }).get? b = some o := fun b o e => Heap.get?_push_of_some _ e
  have e1 := each_of vv rv
  have hn : H2 h'.objs.size = none := I2.hok.fresh (Nat.le_refl _)
  have hat : (h'.push { cls := .type "list", data := .seq (as.map Value.ref).toArray }).get? h'.objs.size = some (seqObj "list" (as.map Value.ref).toArray 0) := Heap.get?_push_size _ rfl
  refine PySem.W.list_sort_data (A := X.A.in1) (s := { s with heap := h'.push { cls := .type "list", data := .seq (as.map Value.ref).toArray }, toks := tk }) hat e1 (each_reads I2 hk2 hD e1 (Nat.le_refl _)) hA hS (by rw [← vv.length, rv.length]; exact hll) (fun p hp => ?_) fun out ho eo => ?_
  · have h1 := hDp p hp
    have h2 : X.A.units + 100 < cLine := hu
    rw [Around.in1_units]
    omega
  · obtain ⟨ws, rw1, rw2⟩ := of_each eo
    obtain ⟨e', he'⟩ := PyProof.Rows.sortedHeap_at (vs := as.map Value.ref) (out := out.toArray) hat
    have hlen : ws.length ≤ sizeLine := by rw [rw1.length, ho, ← vv.length, rv.length]; exact hll
    refine mk_ep (I2.laid (t' := tk) (fun b o e => ?_) (Nat.le_refl _) ⟨hlen, out, e', rw1, he'⟩) hn e (post.aft hr x2) hr2 rw2
    have hb : b < h'.objs.size := Heap.lt_size e
    rw [PyProof.Rows.sortedHeap_old (Nat.ne_of_lt hb) (Heap.lt_size (hk2 b o e))]
    exact hk2 b o e
variable {a : Expr} {f : Env → PHeap → R PV} {p pos apos cpos : Pos}
theorem se_sortItems {al : Bool} (hc : X.calm = true) (hu : Um X) (hg : Gl X "sorted") (hm : X.mg "sorted" = none) (ha : PE X a (rE X f)) (hbase : okBase a = true) (hline : (apos.endLine == cpos.line) = true) :
    PE X (.Call (.Name "sorted" p) [.Call (.Attribute a "items" apos) [] [] cpos] [] pos) (rE X fun env h => (f env h).bind fun v h => convop .sortedItems al v h) := ⟨fun pins s σ H Q I ⟨L, h, env, v, h', hr, er, e0, post⟩ => by
  obtain ⟨pv, h1, e1, e0⟩ := R.bind_eq_ok e0
  simp only [convop] at e0
  obtain ⟨es, e2, e0⟩ := R.of_bind e0
  split at e0
  · rename_i ok
    rw [Bool.and_eq_true] at ok
    refine wpAny_Call_Name_kw (ld_blt I hg hm rfl ?_)
    refine callWith_builtin1 (args_cons ?_ (star_ok rfl _ _)) (star_ok rfl _ _)
    refine wpAny_Call_method (T := "dict") (id := "dict.items") (base_ok hbase _ _ _) rfl hline F.plainAttrs_dict F.slot_dict_items F.type_dict_items (thn (ha.run pins s σ H (fun x H1 => ∃ L1, Ext L H L1 H1 ∧ HR (wd X) L1 h1 H1 ∧ VR (wd X) L1 H1 pv x) I ⟨L, h, env, pv, h1, hr, er, e1, fun x L1 H1 x1 hr1 v1 => ⟨L1, x1, hr1, v1⟩⟩) fun u s1 ⟨x, H1, I1, r1, L1, x1, hr1, v1⟩ => ?_)
    obtain ⟨d, rfl, dr⟩ := v1.dict hr1 e2
    cases r1
    obtain ⟨rs, ep, r⟩ := dict_raw I1 dr
    refine ⟨r.raw.typeIs, fun b eb => by cases eb; exact (dict_typ I1 dr).2, ?_⟩
    have I2 : Inv X pins σ H1 { s1 with heap := s1.heap.push { cls := .type "dict_items", data := .fields #[.ref d] } } := I1.kept (t' := s1.toks) fun b ob q => Heap.get?_push_of_some _ q
    have fin := sorted_items hc hu I2 hr1 dr ⟨_, Heap.get?_push_size _ rfl, rfl, rfl⟩ ok.1 e0 (post.aft hr x1)
    show wpAny _ _ (callWith cpos (.builtin "dict.items") [.ref d] [] []) _ X.xe s1
    exact method_meetsIn F.slot_dict_items F.entry_dict_items rfl (PySem.evalArgs_none ⟨rfl, r.raw.typeIs, F.args_dict_items_1 _, _, meets_dict_items_raw d r.sys, ⟨_, _, r.raw⟩, args_nil fin⟩)
  · cases e0⟩
end
end HW
/-! HwX: how a def ends: its own cells are fixed. -/
namespace HW
open PySem PySem.Spec PyProof.Rows L2 C8

theorem belowp_maps {n : Nat} : ∀ {es : List (PV × PV)}, belowp n es = true → belows n (es.map (·.1)) = true ∧ belows n (es.map (·.2)) = true
  | [], _ => ⟨rfl, rfl⟩
  | (x, y) :: es, h => by
    rw [belowp, Bool.and_eq_true, Bool.and_eq_true] at h
    obtain ⟨h1, h2⟩ := belowp_maps h.2
    rw [List.map_cons, List.map_cons, belows, belows, Bool.and_eq_true, Bool.and_eq_true]
    exact ⟨⟨h.1.1, h1⟩, h.1.2, h2⟩
theorem belows_maps {n : Nat} : ∀ {es : List (PV × PV)}, belows n (es.map (·.1)) = true → belows n (es.map (·.2)) = true → belowp n es = true
  | [], _, _ => rfl
  | (x, y) :: es, h, h' => by
    rw [List.map_cons, belows, Bool.and_eq_true] at h h'
    rw [belowp, Bool.and_eq_true, Bool.and_eq_true]
    exact ⟨⟨h.1, h'.1⟩, belows_maps h.2 h'.2⟩
theorem kP_bel (n : Nat) : ∀ (es : List (PV × PV)) (kvs : List (L2.Key × V)), es.map (·.1) = kvs.map (fun p => kP p.1) → belows n (es.map (·.1)) = true
  | [], _, _ => rfl
  | e :: es, kvs, h => by
    cases kvs with
    | nil => cases h
    | cons q kvs =>
      rw [List.map_cons, List.map_cons] at h
      injection h with h5 h6
      rw [List.map_cons, belows, Bool.and_eq_true]
      exact ⟨by rw [h5]; cases q.1 <;> rfl, kP_bel n es kvs h6⟩
section
variable {Z : Wd} {L M : List Addr} {H H' : Hp} {h : PHeap}
mutual
/-- what names live cells of L alone -/
theorem VR.bel : ∀ {p : PV} {v : V}, VR Z L H p v → below L.length p = true
  | _, _, .non => rfl
  | _, _, .bl b => rfl
  | _, _, .int b => rfl
  | _, _, .str b => rfl
  | _, _, .tup _ _ h3 => by rw [HW.below]; exact VRs.bel h3
  | _, _, .lst _ _ h3 => by rw [HW.below]; exact VRs.bel h3
  | _, _, .scr _ _ => rfl
  | _, _, .scrK _ => rfl
  | _, _, .dctK _ _ h3 h4 => by rw [HW.below]; exact belows_maps (kP_bel _ _ _ h3) (VRs.bel h4)
  | _, _, .dctT _ _ _ _ _ h5 h6 => by rw [HW.below]; exact belows_maps (VRs.bel h5) (VRs.bel h6)
  | _, _, .ref h1 => by rw [HW.below, decide_eq_true_eq]; exact (List.getElem?_eq_some_iff.mp h1).1
theorem VRs.bel : ∀ {p : List PV} {v : List V}, VRs Z L H p v → belows L.length p = true
  | _, _, .nil => rfl
  | _, _, .cons h1 h2 => by rw [belows, Bool.and_eq_true]; exact ⟨VR.bel h1, VRs.bel h2⟩
end
mutual
/-- .. may be said of L alone -/
theorem VR.trim : ∀ {p : PV} {v : V}, VR Z (L ++ M) H p v → below L.length p = true → VR Z L H p v
  | _, _, .non, _ => .non
  | _, _, .bl b, _ => .bl b
  | _, _, .int b, _ => .int b
  | _, _, .str b, _ => .str b
  | _, _, .tup h1 h2 h3, hb => .tup h1 (fun q => h2 (List.mem_append_left _ q)) (VRs.trim h3 (by rw [HW.below] at hb; exact hb))
  | _, _, .lst h1 h2 h3, hb => .lst h1 (fun q => h2 (List.mem_append_left _ q)) (VRs.trim h3 (by rw [HW.below] at hb; exact hb))
  | _, _, .scr h1 h2, _ => .scr h1 (fun q => h2 (List.mem_append_left _ q))
  | _, _, .scrK h1, _ => .scrK h1
  | _, _, .dctK h1 h2 h3 h4, hb => .dctK h1 (fun q => h2 (List.mem_append_left _ q)) h3 (VRs.trim h4 (belowp_maps (by rw [HW.below] at hb; exact hb)).2)
  | _, _, .dctT h1 h2 h0 h3 h4 h5 h6, hb => .dctT h1 (fun q => h2 (List.mem_append_left _ q)) h0 h3 h4 (VRs.trim h5 (belowp_maps (by rw [HW.below] at hb; exact hb)).1) (VRs.trim h6 (belowp_maps (by rw [HW.below] at hb; exact hb)).2)
  | _, _, .ref h1, hb => .ref (by rw [HW.below, decide_eq_true_eq] at hb; rw [List.getElem?_append_left hb] at h1; exact h1)
theorem VRs.trim : ∀ {p : List PV} {v : List V}, VRs Z (L ++ M) H p v → belows L.length p = true → VRs Z L H p v
  | _, _, .nil, _ => .nil
  | _, _, .cons h1 h2, hb => by
    rw [belows, Bool.and_eq_true] at hb
    exact .cons (VR.trim h1 hb.1) (VRs.trim h2 hb.2)
end
theorem DP.bel {a : Addr} {W : HO → Prop} {es : List (PV × PV)} (x : DP Z L H a W es) : belowp L.length es = true := by
  cases x with
  | k h1 h2 h3 => exact belows_maps (kP_bel _ _ _ h2) (VRs.bel h3)
  | t h1 h0 h2 h3 h4 h5 => exact belows_maps (VRs.bel h4) (VRs.bel h5)
theorem CR.bel {a : Addr} {c : Cell} (x : CR Z L H a c) : belowC L.length c = true := by
  cases c with
  | lst xs => obtain ⟨vs, _, h2⟩ := x; exact VRs.bel h2
  | dct es => exact DP.bel x
  | dctL es => exact DP.bel x
  | obj _ _ => exact x.elim
theorem DP.trim {a : Addr} {W W' : HO → Prop} {es : List (PV × PV)} (x : DP Z (L ++ M) H a W es) (hb : belowp L.length es = true) (ag : Agr H H') (hw : ∀ u, W u → W' u) : DP Z L H' a W' es := by
  have hb' := belowp_maps hb
  cases x with
  | k h1 h2 h3 => exact .k (hw _ h1) h2 ((VRs.trim h3 hb'.2).agr ag)
  | t h1 h0 h2 h3 h4 h5 => exact .t (hw _ h1) h0 h2 h3 ((VRs.trim h4 hb'.1).agr ag) ((VRs.trim h5 hb'.2).agr ag)
theorem CR.trim {a : Addr} {c : Cell} (x : CR Z (L ++ M) H a c) (hb : belowC L.length c = true) (ag : Agr H H') (ha : H' a = H a) : CR Z L H' a c := by
  cases c with
  | lst xs => obtain ⟨vs, h1, h2⟩ := x; exact ⟨vs, by rw [ha]; exact h1, (VRs.trim h2 hb).agr ag⟩
  | dct es => exact DP.trim x hb ag fun u e => by rw [ha]; exact e
  | dctL es => exact DP.trim x hb ag fun u ⟨o, e⟩ => ⟨o, by rw [ha]; exact e⟩
  | obj _ _ => exact x.elim
/-- what leaves, its cells fixed -/
structure Fixed (H H2 : Hp) (M : List Addr) : Prop where
  out : ∀ a, a ∉ M → H2 a = H a
  fz : ∀ a ∈ M, ∀ u, H a = some u → Mut (some u) → FzAt H2 a u
  agr : Agr H H2
  dom : ∀ a, H a ≠ none → H2 a ≠ none
mutual
theorem frz_ok {H2 : Hp} (r : HR Z (L ++ M) h H) (fx : Fixed H H2 M) : ∀ (k : Nat) {p q : PV} {v : V}, VR Z (L ++ M) H p v → frz h L.length k p = some q → VR Z L H2 q v
  | 0, _, _, _, _, e => by cases e
  | k + 1, p, q, v, vp, e => by
    unfold frz at e
    split at e
    · rename_i hb
      cases e
      exact (VR.trim vp hb).agr fx.agr
    · rename_i hb
      split at e
      · rename_i m
        cases vp with
        | @ref _ a hm =>
          have hml : L.length ≤ m := by
            rw [HW.below, decide_eq_true_eq] at hb
            omega
          have hM : a ∈ M := by
            rw [List.getElem?_append_right hml] at hm
            exact List.mem_of_getElem? hm
          have hL : a ∉ L := fun q => (List.nodup_append.mp r.nd).2.2 a q a hM rfl
          split at e
          · rename_i xs hc
            obtain ⟨ys, e1, rfl⟩ := Option.map_eq_some_iff.mp e
            obtain ⟨vs, h1, h2⟩ := r.cell _ _ _ hc hm
            exact .lst (fx.fz a hM _ h1 trivial) hL (frzs_ok r fx k h2 e1)
          · rename_i es hc
            split at e
            · rename_i hk
              obtain ⟨ys, e1, rfl⟩ := Option.map_eq_some_iff.mp e
              have len : ys.length = es.length := by
                have : ∀ (k : Nat) (xs ys : List PV), frzs h L.length k xs = some ys → ys.length = xs.length := by
                  intro k xs ys e
                  cases k with
                  | zero => cases e
                  | succ k =>
                    rw [frzs] at e
                    clear e1
                    induction xs generalizing ys with
                    | nil => cases e; rfl
                    | cons x xs ih =>
                      rw [List.mapM_cons] at e
                      obtain ⟨z, _, e⟩ := Option.bind_eq_some_iff.mp e
                      obtain ⟨zs, e3, e⟩ := Option.bind_eq_some_iff.mp e
                      cases e
                      rw [List.length_cons, List.length_cons, ih _ e3]
                rw [this _ _ _ e1, List.length_map]
              have f1 : ((es.map (·.1)).zip ys).map (·.1) = es.map (·.1) := List.map_fst_zip (by rw [List.length_map]; omega)
              have f2 : ((es.map (·.1)).zip ys).map (·.2) = ys := List.map_snd_zip (by rw [List.length_map]; omega)
              have cr : DX Z (L ++ M) H a es := r.cell _ _ _ hc hm
              cases cr with
              | k h1 h2 h3 => exact .dctK (fx.fz a hM _ h1 trivial) hL (by rw [f1]; exact h2) (by rw [f2]; exact frzs_ok r fx k h3 e1)
              | t h1 h0 h2 h3 h4 h5 =>
                refine .dctT (fx.fz a hM _ h1 trivial) hL (fun z => ?_) (by rw [f1]; exact h2) ?_ (by rw [f1]; exact (VRs.trim h4 hk).agr fx.agr) (by rw [f2]; exact frzs_ok r fx k h5 e1)
                · have := congrArg List.length f1
                  rw [z] at this
                  simp at this
                  exact h0 (List.length_eq_zero_iff.mp this.symm)
                · have g : ∀ l : List (PV × PV), (l.all fun e => keyT e.1) = (l.map (·.1)).all keyT := fun l => by rw [List.all_map]; rfl
                  rw [g, f1, ← g]
                  exact h3
            · cases e
          · cases e
      · rename_i xs
        obtain ⟨ys, e1, rfl⟩ := Option.map_eq_some_iff.mp e
        cases vp with
        | tup h1 h2 h3 =>
          obtain ⟨o, t1, t2⟩ := h1
          exact .tup ⟨o, fx.agr _ _ _ t1, t2⟩ (fun q => h2 (List.mem_append_left _ q)) (frzs_ok r fx k h3 e1)
      · rename_i xs
        obtain ⟨ys, e1, rfl⟩ := Option.map_eq_some_iff.mp e
        cases vp with
        | lst h1 h2 h3 => exact .lst (h1.agr fx.agr) (fun q => h2 (List.mem_append_left _ q)) (frzs_ok r fx k h3 e1)
      · cases e
theorem frzs_ok {H2 : Hp} (r : HR Z (L ++ M) h H) (fx : Fixed H H2 M) : ∀ (k : Nat) {p q : List PV} {v : List V}, VRs Z (L ++ M) H p v → frzs h L.length k p = some q → VRs Z L H2 q v
  | 0, _, _, _, _, e => by cases e
  | k + 1, p, q, v, vp, e => by
    rw [frzs] at e
    have go : ∀ {p q : List PV} {v : List V}, VRs Z (L ++ M) H p v → p.mapM (frz h L.length k) = some q → VRs Z L H2 q v := by
      intro p
      induction p with
      | nil => intro q v vp e; cases vp; cases e; exact .nil
      | cons x p ih =>
        intro q v vp e
        rw [List.mapM_cons] at e
        obtain ⟨z, e2, e⟩ := Option.bind_eq_some_iff.mp e
        obtain ⟨zs, e3, e⟩ := Option.bind_eq_some_iff.mp e
        cases e
        cases vp with
        | cons v1 v2 => exact .cons (frz_ok r fx k v1 e2) (ih v2 e3)
    exact go vp e
end
/-- the cells that stood ahead -/
theorem outer_ok {H0 H2 : Hp} {h0 : PHeap} (r0 : HR Z L h0 H0) (r : HR Z (L ++ M) h H) (fx : Fixed H H2 M) (ok : okOuter h0 h = true) (hl : h0.length ≤ h.length) : HR Z L (h.take h0.length) H2 := by
  have e0 := r0.len
  refine ⟨by rw [List.length_take]; omega, (List.nodup_append.mp r.nd).1, fun n c a h1 h2 => ?_⟩
  have hn : n < L.length := (List.getElem?_eq_some_iff.mp h2).1
  have h1' : h[n]? = some c := by
    rw [List.getElem?_take] at h1
    split at h1
    · exact h1
    · cases h1
  have h2' : (L ++ M)[n]? = some a := by rw [List.getElem?_append_left hn]; exact h2
  have hM : a ∉ M := fun q => (List.nodup_append.mp r.nd).2.2 a (List.mem_of_getElem? h2) a q rfl
  refine CR.trim (r.cell n c a h1' h2') ?_ fx.agr (fx.out a hM)
  unfold okOuter at ok
  have := List.all_eq_true.mp ok n (List.mem_range.mpr (by omega))
  rw [Bool.or_eq_true] at this
  rcases this with q | q
  · have q := of_decide_eq_true q
    rw [h1'] at q
    exact (r0.cell n c a q.symm h2).bel
  · rw [h1'] at q
    rw [e0]
    exact q
end
section
variable {X : Cx} {pins : List (Addr × Obj)} {σ : L2.St} {s : Shared} {L : List Addr}
/-- all of M are fixed -/
theorem fix_all : ∀ (M : List Addr) {H : Hp}, Inv X pins σ H s → ∃ H2, Inv X pins σ H2 s ∧ Fixed H H2 M
  | [], H, I => ⟨H, I, fun _ _ => rfl, (by simp), fun _ _ _ e => e, fun _ e => e⟩
  | a :: M, H, I => by
    by_cases hm : ∃ u, H a = some u ∧ Mut (some u)
    · obtain ⟨u, hu, mu⟩ := hm
      obtain ⟨od, I1⟩ := I.lock hu mu
      obtain ⟨H2, I2, fx⟩ := fix_all M I1
      have hfr : ∀ o v, H a ≠ some (.frz o v) := fun o v e => by rw [hu] at e; cases e; exact mu
      refine ⟨H2, I2, fun b hb => ?_, fun b hb v hv mv => ?_, fun b o v e => fx.agr b o v ?_, fun b e => fx.dom b ?_⟩
      · rw [fx.out b fun q => hb (List.mem_cons_of_mem _ q), upd_ne fun q => hb (by rw [q]; exact List.mem_cons_self)]
      · by_cases q : b = a
        · subst q
          rw [hu] at hv
          cases hv
          exact ⟨od, fx.agr _ _ _ upd_same⟩
        · refine fx.fz b ((List.mem_cons.mp hb).resolve_left q) v ?_ mv
          rw [upd_ne q]
          exact hv
      · rw [upd_ne fun q => hfr o v (by rw [← q]; exact e)]
        exact e
      · unfold upd; split
        · simp
        · exact e
    · obtain ⟨H2, I2, fx⟩ := fix_all M I
      refine ⟨H2, I2, fun b hb => fx.out b fun q => hb (List.mem_cons_of_mem _ q), fun b hb v hv mv => ?_, fx.agr, fx.dom⟩
      rcases List.mem_cons.mp hb with q | q
      · subst q
        exact absurd ⟨v, hv, mv⟩ hm
      · exact fx.fz b q v hv mv
/-- a def's end -/
theorem finish_ok {keep : Bool} {H H1 : Hp} {L1 : List Addr} {h h1 h' : PHeap} {v r : PV} {x : V} (hr : HR (wd X) L h H) (I : Inv X pins σ H1 s) (ex : Ext L H L1 H1) (hr1 : HR (wd X) L1 h1 H1) (vx : VR (wd X) L1 H1 v x) (e : finish keep h v h1 = .ok r h') :
    ∃ L' H', Inv X pins σ H' s ∧ Ext L H L' H' ∧ HR (wd X) L' h' H' ∧ VR (wd X) L' H' r x := by
  unfold finish at e
  split at e
  · cases e
    exact ⟨L1, H1, I, ex, hr1, vx⟩
  · split at e
    · rename_i hk
      rw [Bool.and_eq_true, decide_eq_true_eq] at hk
      split at e
      · rename_i v' hv
        cases e
        obtain ⟨M, rfl, hM⟩ := ex.pre
        obtain ⟨H2, I2, fx⟩ := fix_all M I
        rw [← hr.len] at hv
        refine ⟨L, H2, I2, ⟨⟨[], by simp, by simp⟩, fun a o hn ho => ?_, fun a ha => fx.dom a (ex.dom a ha), fun a o u ho => fx.agr _ _ _ (ex.frz _ _ _ ho)⟩, outer_ok hr hr1 fx hk.1 hk.2, frz_ok hr1 fx 12 vx hv⟩
        rw [fx.out a fun q => by rw [hM a q] at ho; cases ho]
        exact ex.keep a o hn ho
      · cases e
    · cases e
def finF (keep : Bool) (f : Env → PHeap → R Out) : Env → PHeap → R PV := fun env h => (f env h).bind fun o h1 => match o with
  | .rt v => finish keep h v h1
  | .nx _ => finish keep h .non h1
  | _ => .bad
/-- a body's reading -/
def rF (X : Cx) (keep : Bool) (f : Env → PHeap → R Out) : TS := fun D σ H => ∃ L h env r h', HR (wd X) L h H ∧ ER (wd X) L H env σ ∧ finF keep f env h = .ok r h' ∧ ∀ x L' H', Ext L H L' H' → HR (wd X) L' h' H' → VR (wd X) L' H' r x → D.rt x H' ∧ (x = .non → ∀ σ, D.nx σ H')
theorem ss_fin {body : List Stmt} {keep : Bool} {f : Env → PHeap → R Out} (ps : PSs X body (rS X f)) : PSs X body (rF X keep f) := ⟨fun pins s σ H D I ⟨L, h, env, r, h', hr, er, e, post⟩ => by
  obtain ⟨o, h1, e1, e2⟩ := R.bind_eq_ok e
  refine thn (ps.run pins s σ H ⟨fun σ1 H1 => ∃ L1 ev, o = .nx ev ∧ Ext L H L1 H1 ∧ HR (wd X) L1 h1 H1, fun x H1 => ∃ L1 v, o = .rt v ∧ Ext L H L1 H1 ∧ HR (wd X) L1 h1 H1 ∧ VR (wd X) L1 H1 v x, fun _ _ => False, fun _ _ => False⟩ I ⟨L, h, env, o, h1, hr, er, e1, fun L1 H1 x1 hr1 => ?_⟩) fun fl s1 q => ?_
  · cases o with
    | nx ev => exact fun σ1 _ => ⟨L1, ev, rfl, x1, hr1⟩
    | rt v => exact fun x vx => ⟨L1, v, rfl, x1, hr1, vx⟩
    | bk e => cases e2
    | ct e => cases e2
  · cases fl with
    | next =>
      obtain ⟨σ1, H1, I1, L1, ev, rfl, x1, hr1⟩ := q
      obtain ⟨L', H', I2, x2, hr2, v2⟩ := finish_ok hr I1 x1 hr1 .non e2
      exact ⟨σ1, H', I2, (post _ L' H' x2 hr2 v2).2 rfl σ1⟩
    | ret w =>
      obtain ⟨x, σ1, H1, I1, rx, L1, v, rfl, x1, hr1, v1⟩ := q
      obtain ⟨L', H', I2, x2, hr2, v2⟩ := finish_ok hr I1 x1 hr1 v1 e2
      exact ⟨x, σ1, H', I2, rx, (post _ L' H' x2 hr2 v2).1⟩
    | brk => obtain ⟨_, _, _, q⟩ := q; exact q.elim
    | cont => obtain ⟨_, _, _, q⟩ := q; exact q.elim⟩
end
end HW
/-! HwY: a look at the text: that a term of the small language is what is written. -/
namespace HW
open PySem PySem.Spec PyProof.Rows L2 C8

structure Ck where
  N : List Str
  fns : List (Str × Nat)
  glb : List (Str × PV) := []
def visC (sc : Scope) (x : Str) : Bool := match sc.names.lookup x with
  | some .local => true
  | some .cell => true
  | some .free => true
  | _ => false
def glC (sc : Scope) (x : Str) : Bool := match sc.names.lookup x with
  | some .globalImplicit => true
  | _ => false
/-- a name that may be stored: cl, where its own cells are told -/
def locC (sc cl : Scope) (x : Str) : Bool := match sc.names.lookup x with
  | some .local => true
  | some .cell => match cl.names.lookup x with
    | some .cell => true
    | _ => false
  | _ => false
def okNm (x : Str) : Bool := !(x == ("__debug__" : Str)) && !(x == ("__classdict__" : Str)) && !decide (x = ("__name__" : Str))
def cstC (v : PV) (x : Expr) : Bool := match v, x with
  | .non, .Constant .none _ _ => true
  | .bl b, .Constant (.bool c) _ _ => b == c
  | .int i, .Constant (.int j) _ _ => decide (i = j)
  | .str s, .Constant (.str t) _ _ => decide (s = t)
  | _, _ => false
def okSet : Expr → Bool
  | .Set .. => false
  | _ => true
def isTup : Expr → Bool
  | .Tuple .. => true
  | _ => false
def bltNm : List Str := ["len", "abs", "max", "min", "int", "isinstance", "sorted", "list", "tuple", "sum", "all", "any", "dict", "set", "range", "enumerate", "zip", "bool", "str"]
def bNm : Blt → Str
  | .len => "len" | .abs => "abs" | .max2 => "max" | .min2 => "min" | .int => "int" | _ => ""
def cNm : Cnv → Str
  | .list => "list" | .tuple => "tuple" | .sorted => "sorted" | .sum => "sum" | .all => "all" | .any => "any" | .max => "max" | .min => "min" | .dict => "dict" | _ => ""
def mNm : Mth → Str
  | .dget => "get" | .dget1 => "get" | .lapp => "append" | .lext => "extend" | .lpop => "pop" | .lpopAt => "pop" | .lidx => "index" | .lcount => "count" | _ => ""
/-- a built-in's name at this place *)-/
def bC (sc : Scope) (n m : Str) : Bool := decide (n = m) && glC sc n && bltNm.contains n
def tysC (sc : Scope) : List Expr → List String → Bool
  | [], [] => true
  | .Name n _ :: es, T :: ts => decide (n = Str.ofString T) && bC sc n n && tyNames.contains T && tysC sc es ts
  | _, _ => false
def ownP (N : List Str) : List Nat → Option (List (Str × Nat))
  | [] => some []
  | i :: r => match N[i]?, ownP N r with
    | some x, some l => some ((x, i) :: l)
    | _, _ => none
mutual
def kTg (N : List Str) (sc cl : Scope) : Tg → Expr → Bool
  | .nm i, .Name x _ => decide (N[i]? = some x) && locC sc cl x
  | .tp ts, .Tuple es _ _ => es.all okArg && decide (es.length = ts.length) && kTgs N sc cl ts es
  | _, _ => false
def kTgs (N : List Str) (sc cl : Scope) : List Tg → List Expr → Bool
  | [], [] => true
  | t :: ts, e :: es => kTg N sc cl t e && kTgs N sc cl ts es
  | _, _ => false
end
mutual
def kE (G : Ck) (t : IE) (sc : Scope) (x : Expr) : Bool := match t with
  | .var i => match x with
    | .Name n _ => decide (G.N[i]? = some n) && visC sc n && okNm n
    | _ => false
  | .cst v => cstC v x
  | .glob g v => match x with
    | .Name n _ => decide (g = n) && glC sc n && okNm n && G.glb.any (fun p => decide (p.1 = n) && decide (p.2 = v))
    | _ => false
  | .tup es => match x with
    | .Tuple xs _ _ => decide (xs.length ≤ 1000) && kEs G es sc xs
    | _ => false
  | .lst _ es => match x with
    | .List xs _ => decide (xs.length ≤ 1000) && kEs G es sc xs
    | _ => false
  | .dct _ kvs => match kvs, x with
    | .nil, .Dict [] [] _ => true
    | .cons k (.cons v .nil), .Dict [some a] [b] _ => kE G k sc a && kE G v sc b
    | _, _ => false
  | .bin op a b => match x with
    | .BinOp l o r _ => decide (o = pyB op) && kE G a sc l && kE G b sc r
    | _ => false
  | .neg a => match x with
    | .UnaryOp .USub l _ => kE G a sc l
    | _ => false
  | .not a => match x with
    | .UnaryOp .Not l _ => kE G a sc l
    | _ => false
  | .cmp op a b => match x with
    | .Compare l [o] [r] _ => decide (o = pyC op) && !behindInMarks o r && kE G a sc l && kE G b sc r
    | _ => false
  | .cmp2 op op' a b c => match x with
    | .Compare l [o, o'] [m, r] _ => decide (o = pyC op) && decide (o' = pyC op') && !lastMarks [o, o'] [m, r] && kE G a sc l && kE G b sc m && kE G c sc r
    | _ => false
  | .and a b => match x with
    | .BoolOp .And (l :: r :: rest) p => kE G a sc l && (if rest.isEmpty then kE G b sc r else kE G b sc (.BoolOp .And (r :: rest) p))
    | _ => false
  | .or a b => match x with
    | .BoolOp .Or (l :: r :: rest) p => kE G a sc l && (if rest.isEmpty then kE G b sc r else kE G b sc (.BoolOp .Or (r :: rest) p))
    | _ => false
  | .ife c a b => match x with
    | .IfExp t l r _ => kE G c sc t && kE G a sc l && kE G b sc r
    | _ => false
  | .sub a i => match x with
    | .Subscript l j _ => okIx j && kE G a sc l && kE G i sc j
    | _ => false
  | .slice a lo hi => match x with
    | .Subscript l (.Slice u v none _) _ => kE G a sc l && kO G lo sc u && kO G hi sc v
    | _ => false
  | .rev a st => match x with
    | .Subscript l (.Slice none none (some y) _) _ => kE G a sc l && kE G st sc y
    | _ => false
  | .call f es => match x with
    | .Call (.Name n _) args [] _ => (match G.fns[f]? with
        | some (m, k) => decide (m = n) && decide (args.length = k)
        | none => false) && glC sc n && okNm n && args.all okArg && kEs G es sc args
    | _ => false
  | .blt f es => match f with
    | .isi T => match es, x with
      | .cons e .nil, .Call (.Name n _) [a, .Name m _] [] _ => bC sc n "isinstance" && decide (m = Str.ofString T) && bC sc m m && tyNames.contains T && okArg a && kE G e sc a
      | _, _ => false
    | .isiT ts => match es, x with
      | .cons e .nil, .Call (.Name n _) [a, .Tuple tys _ _] [] _ => bC sc n "isinstance" && tysC sc tys ts && decide (ts.length ≤ 100) && okArg a && kE G e sc a
      | _, _ => false
    | .repr => false
    | f => match x with
      | .Call (.Name n _) (a :: args) [] _ => bC sc n (bNm f) && (a :: args).all okArg && kEs G es sc (a :: args)
      | _ => false
  | .meth m o es => match x with
    | .Call (.Attribute l nm ap) args [] cp => decide (nm = mNm m) && decide (mNm m ≠ "") && okBase l && (ap.endLine == cp.line) && args.all okArg && decide (args.length < 30) && kE G o sc l && kEs G es sc args
    | _ => false
  | .conv k _ e => match k with
    | .sortedSet => match x with
      | .Call (.Name n _) [.Call (.Name m _) [a] [] _] [] _ => bC sc n "sorted" && bC sc m "set" && okArg a && kE G e sc a
      | _ => false
    | .lenSet => false
    | .sortedItems => match x with
      | .Call (.Name n _) [.Call (.Attribute l nm ap) [] [] cp] [] _ => bC sc n "sorted" && decide (nm = "items") && okBase l && (ap.endLine == cp.line) && kE G e sc l
      | _ => false
    | k => match x with
      | .Call (.Name n _) [a] [] _ => bC sc n (cNm k) && okArg a && kE G e sc a
      | _ => false
  | .convI k _ it => match it, x with
    | .rng1 e, .Call (.Name n _) [.Call (.Name m _) [a] [] _] [] _ => (decide (k = .list) || decide (k = .tuple)) && bC sc n (cNm k) && bC sc m "range" && okArg a && kE G e sc a
    | .rng2 e e', .Call (.Name n _) [.Call (.Name m _) [a, b] [] _] [] _ => (decide (k = .list) || decide (k = .tuple)) && bC sc n (cNm k) && bC sc m "range" && okArg a && okArg b && kE G e sc a && kE G e' sc b
    | _, _ => false
  | .comp _ own tg it ifs elt => match x with
    | .ListComp e [⟨tge, iter, ifs', 0⟩] scope _ => kI G it sc (isTp tg) tge iter && (match ownP G.N own with
        | some ow => blkC G.N sc scope ow
        | none => false) && (tgIx tg).all (own.contains ·) && kTg G.N (relS scope sc) scope tg tge && kIfs G ifs (relS scope sc) ifs' && kE G elt (relS scope sc) e
    | _ => false
  | .comp2 _ own tg it ifs own1 tg1 it1 ifs1 elt => match it1, x with
    | .ex e1, .ListComp e [⟨tge, iter, ifs', 0⟩, ⟨tge1, iter1, ifs1', 0⟩] scope _ => kI G it sc (isTp tg) tge iter && (match ownP G.N own with
        | some ow => blkC G.N sc scope ow
        | none => false) && (tgIx tg).all (own.contains ·) && kTg G.N (relS scope sc) scope tg tge && kIfs G ifs (relS scope sc) ifs' && own1.all (own.contains ·) && (tgIx tg1).all (own1.contains ·) &&
        okSet iter1 && kE G e1 (relS scope sc) iter1 && kTg G.N (relS scope sc) scope tg1 tge1 && kIfs G ifs1 (relS scope sc) ifs1' && kE G elt (relS scope sc) e
    | .rng1 e1, .ListComp e [⟨tge, iter, ifs', 0⟩, ⟨tge1, .Call (.Name n np) [a1] [] cp, ifs1', 0⟩] scope _ => kI G it sc (isTp tg) tge iter && (match ownP G.N own with
        | some ow => blkC G.N sc scope ow
        | none => false) && (tgIx tg).all (own.contains ·) && kTg G.N (relS scope sc) scope tg tge && kIfs G ifs (relS scope sc) ifs' && own1.all (own.contains ·) && (tgIx tg1).all (own1.contains ·) &&
        bC (relS scope sc) n "range" && okArg a1 && kE G e1 (relS scope sc) a1 && kTg G.N (relS scope sc) scope tg1 tge1 && kIfs G ifs1 (relS scope sc) ifs1' && kE G elt (relS scope sc) e
    | _, _ => false
  | .dcomp _ own tg it ifs k v => match x with
    | .DictComp e e' [⟨tge, iter, ifs', 0⟩] scope _ => kI G it sc (isTp tg) tge iter && (match ownP G.N own with
        | some ow => blkC G.N sc scope ow
        | none => false) && (tgIx tg).all (own.contains ·) && kTg G.N (relS scope sc) scope tg tge && kIfs G ifs (relS scope sc) ifs' && kE G k (relS scope sc) e && kE G v (relS scope sc) e'
    | _ => false
def kEs (G : Ck) (ts : IEs) (sc : Scope) (xs : List Expr) : Bool := match ts, xs with
  | .nil, [] => true
  | .cons t ts, x :: xs => okArg x && kE G t sc x && kEs G ts sc xs
  | _, _ => false
def kIfs (G : Ck) (ts : IEs) (sc : Scope) (xs : List Expr) : Bool := match ts, xs with
  | .nil, [] => true
  | .cons t .nil, [x] => kE G t sc x
  | _, _ => false
def kO (G : Ck) (t : IO) (sc : Scope) (x : Option Expr) : Bool := match t, x with
  | .none, none => true
  | .some t, some x => kE G t sc x
  | _, _ => false
def kI (G : Ck) (t : II) (sc : Scope) (tp : Bool) (tge x : Expr) : Bool := match t with
  | .ex e => okSet x && kE G e sc x
  | .rng1 e => match x with
    | .Call (.Name n _) [a] [] _ => bC sc n "range" && okArg a && kE G e sc a
    | _ => false
  | .rng2 e e' => match x with
    | .Call (.Name n _) [a, b] [] _ => bC sc n "range" && okArg a && okArg b && kE G e sc a && kE G e' sc b
    | _ => false
  | .enum e => match x with
    | .Call (.Name n _) [a] [] _ => tp && isTup tge && bC sc n "enumerate" && okArg a && kE G e sc a
    | _ => false
  | .zip e e' => match x with
    | .Call (.Name n _) [a, b] [] _ => tp && isTup tge && bC sc n "zip" && okArg a && okArg b && kE G e sc a && kE G e' sc b
    | _ => false
  | .items e => match x with
    | .Call (.Attribute l nm ap) [] [] cp => tp && isTup tge && decide (nm = "items") && okBase l && (ap.endLine == cp.line) && kE G e sc l
    | _ => false
  | .values e => match x with
    | .Call (.Attribute l nm ap) [] [] cp => decide (nm = "values") && okBase l && (ap.endLine == cp.line) && kE G e sc l
    | _ => false
end
end HW
/-! HwZ: the look is right: expressions. -/
namespace HW
open PySem PySem.Spec PyProof.Rows L2 C8

structure Gd (G : Ck) (ctx : List Sem) (X : Cx) : Prop where
  hN : X.N = G.N
  nd : X.N.Nodup
  calm : X.calm = true
  um : Um X
  pass : PassesOwn (model X.prog X.w) X.A X.env X.xe
  fns : ∀ (f : Nat) (n : Str) (k : Nat), G.fns[f]? = some (n, k) → ∃ (j m : Nat) (sem : Sem), ctx[f]? = some sem ∧ Room j X.A ∧ m ≤ j ∧ Cal X.prog X.w X.K X.mg X.base m n (spS (wd X) k sem) []
  blt : ∀ x ∈ bltNm, X.mg x = none
  glb : ∀ x v, (x, v) ∈ G.glb → ∃ u w, X.mg x = some u ∧ cOk v = some w ∧ RelV w u
theorem Gd.blk {G : Ck} {ctx : List Sem} {X : Cx} (g : Gd G ctx X) (s : Shared) (H : Hp) (sco : Scope) (cenv : PySem.Env) (fp : List Addr) : Gd G ctx (X.blk s H sco cenv fp) :=
  ⟨g.hN, g.nd, g.calm, g.um, PassesOwn.never, g.fns, g.blt, g.glb⟩
def isBO : Expr → Bool
  | .BoolOp .. => true
  | _ => false
/-- what is known of an expression that was looked at -/
structure OkX (X : Cx) (x : Expr) (f : Env → PHeap → R PV) : Prop where
  e : PE X x (rE X f)
  t : PT X x (rT X (dTr f))
  w : isBO x = true → PW X x (rT X (dTr f))
section
variable {G : Ck} {ctx : List Sem} {X : Cx} {x : Expr} {f : Env → PHeap → R PV}
theorem OkX.plain (hu : Um X) (pe : PE X x (rE X f)) (ho : okTest x = true) : OkX X x f := ⟨pe, st_plain hu pe (test_ok ho _), fun h => by cases x <;> simp [isBO, okTest] at h ho⟩
theorem visC_ok {sc : Scope} {n : Str} (h : visC sc n = true) : Vis sc n := by
  unfold visC at h
  split at h
  · rename_i q; exact .inl q
  · rename_i q; exact .inr (.inl q)
  · rename_i q; exact .inr (.inr q)
  · cases h
theorem glC_ok {n : Str} (h : glC X.env.scope n = true) : Gl X n := by
  unfold glC at h
  split at h
  · rename_i q; exact q
  · cases h
theorem okNm_ok {n : Str} (h : okNm n = true) : (n == ("__debug__" : Str)) = false ∧ (n == ("__classdict__" : Str)) = false ∧ n ≠ "__name__" := by
  unfold okNm at h
  simp only [Bool.and_eq_true, Bool.not_eq_true', decide_eq_false_iff_not] at h
  exact ⟨h.1.1, h.1.2, h.2⟩
theorem cstC_ok {v : PV} (h : cstC v x = true) : PE X x (rE X fun _ h => .ok v h) ∧ okTest x = true := by
  unfold cstC at h
  split at h
  · exact ⟨se_c rfl pe_non, rfl⟩
  · have := eq_of_beq h; subst this; exact ⟨se_c rfl pe_bl, rfl⟩
  · have := of_decide_eq_true h; subst this; exact ⟨se_c rfl pe_int, rfl⟩
  · have := of_decide_eq_true h; subst this; exact ⟨se_c rfl pe_str, rfl⟩
  · cases h
theorem bltNm_ok : ∀ n ∈ bltNm, okNm n = true := by decide +kernel
theorem bC_ok (g : Gd G ctx X) {n m : Str} (h : bC X.env.scope n m = true) : n = m ∧ Gl X n ∧ X.mg n = none ∧ (n == ("__debug__" : Str)) = false ∧ n ≠ "__name__" := by
  unfold bC at h
  simp only [Bool.and_eq_true, decide_eq_true_eq] at h
  have hm : n ∈ bltNm := by simpa using h.2
  have := okNm_ok (bltNm_ok n hm)
  exact ⟨h.1.1, glC_ok h.1.2, g.blt n hm, this.1, this.2.2⟩
theorem ty_boot : ∀ T ∈ tyNames, bootBuiltins (Str.ofString T) = some (.type T) := by
  intro T hT
  simp only [tyNames, List.mem_cons, List.not_mem_nil, or_false] at hT
  rcases hT with rfl | rfl | rfl | rfl | rfl | rfl | rfl <;> rfl
theorem tysC_ok (g : Gd G ctx X) : ∀ {es : List Expr} {ts : List String}, tysC X.env.scope es ts = true → Paired (fun e T => okArg e = true ∧ PE X e (tC (.ty T))) es ts
  | [], [], _ => .nil
  | [], _ :: _, h => by simp [tysC] at h
  | e :: es, [], h => by cases e <;> simp [tysC] at h
  | e :: es, T :: ts, h => by
    cases e <;> try (simp [tysC] at h; done)
    rename_i n p
    rw [tysC] at h
    simp only [Bool.and_eq_true, decide_eq_true_eq] at h
    obtain ⟨⟨⟨h1, h2⟩, h3⟩, h4⟩ := h
    obtain ⟨_, b1, b2, b3, b4⟩ := bC_ok g h2
    refine .cons ⟨rfl, pe_bltn b1 b2 (by rw [h1]; exact ty_boot T (by simpa using h3)) rfl b4 b3⟩ (tysC_ok g h4)
theorem ownP_ok {N : List Str} : ∀ {own : List Nat} {ow : List (Str × Nat)}, ownP N own = some ow → ow.map (·.2) = own
  | [], ow, h => by cases h; rfl
  | i :: r, ow, h => by
    rw [ownP] at h
    split at h
    · rename_i y l h1 h2
      cases h
      rw [List.map_cons, ownP_ok h2]
    · cases h
theorem fold_ok (h : okSet x = true) (env : PySem.Env) : ∀ v, foldedSetIterable x env v = pure v := fun v => by
  cases x <;> first | rfl | cases h
theorem ofT_get : OfT .dget "dict" := ofT_dict (m := .dget) fun _ _ h => h
theorem ofT_get1 : OfT .dget1 "dict" := ofT_dict (m := .dget1) fun _ _ h => h
theorem ofT_app : OfT .lapp "list" := ofT_list (m := .lapp) fun _ _ h => h
theorem ofT_ext : OfT .lext "list" := ofT_list (m := .lext) fun _ _ h => h
theorem ofT_pop : OfT .lpop "list" := ofT_list (m := .lpop) fun _ _ h => h
theorem ofT_idx : OfT .lidx "list" := ofT_list (m := .lidx) fun _ _ h => h
theorem ofT_popAt : OfT .lpopAt "list" := ofT_list (m := .lpopAt) fun _ _ h => h
theorem ofT_cnt : OfT .lcount "list" := ofT_list (m := .lcount) fun _ _ h => h
/-- a method -/
theorem meth_ok (g : Gd G ctx X) {m : Mth} {fs : Env → PHeap → R (List PV)} {o : Expr} {es : List Expr} {ap cp : Pos} (hm : mNm m ≠ "") (ho : PE X o (rE X f)) (ha : PA X es (rA X fs)) (hok : es.all okArg = true) (hl : es.length < 30) (hbase : okBase o = true) (hline : (ap.endLine == cp.line) = true)
    (h0 : es = [] → fs = nilF) : PE X (.Call (.Attribute o (mNm m) ap) es [] cp) (rE X (methF m f fs)) := by
  have hu := g.um
  have go : ∀ {T id : String} (tyOk : OfT m T) (pa : PlainAttrs T) (slot : Slot T (mNm m) id) (hty : typeOf (.builtin id) = pure (.type "method_descriptor")) (hm : MtR X id (rMth X m)), PE X (.Call (.Attribute o (mNm m) ap) es [] cp) (rE X (methF m f fs)) := by
    intro T id tyOk pa slot hty hm
    cases es with
    | nil => rw [h0 rfl]; exact se_meth0 tyOk pa slot hty hm ho hbase hline
    | cons a es => exact se_meth tyOk pa slot hty hm ho ha hok hl hbase hline
  cases m with
  | dget => exact go ofT_get PySem.F.plainAttrs_dict PySem.F.slot_dict_get PySem.F.type_dict_get (mt_getD hu)
  | dget1 => exact go ofT_get1 PySem.F.plainAttrs_dict PySem.F.slot_dict_get PySem.F.type_dict_get (mt_getD1 hu)
  | lapp => exact go ofT_app PySem.F.plainAttrs_list PySem.F.slot_list_append PySem.F.type_list_append mt_app
  | lext => exact go ofT_ext PySem.F.plainAttrs_list PySem.F.slot_list_extend PySem.F.type_list_extend mt_ext
  | lpop => exact go ofT_pop PySem.F.plainAttrs_list PySem.F.slot_list_pop PySem.F.type_list_pop mt_popL
  | lpopAt => exact go ofT_popAt PySem.F.plainAttrs_list PySem.F.slot_list_pop PySem.F.type_list_pop mt_popAtL
  | lidx => exact go ofT_idx PySem.F.plainAttrs_list PySem.F.slot_list_index PySem.F.type_list_index (mt_idx hu)
  | lcount => exact go ofT_cnt PySem.F.plainAttrs_list PySem.F.slot_list_count PySem.F.type_list_count (mt_cnt hu)
  | _ => exact absurd rfl hm
end
end HW
/-! HxA: the look is right: expressions, the one theorem. -/
namespace HW
open PySem PySem.Spec PyProof.Rows L2 C8

section
variable {G : Ck} {ctx : List Sem} {X : Cx} {x : Expr} {f : Env → PHeap → R PV}
theorem sg_nmL (hN : X.N.Nodup) {i : Nat} {n : Str} {pos : Pos} (hi : X.N[i]? = some n) (hx : Loc X.env.scope n) (hf : X.fn n = true ∨ X.env.scope.names.lookup n = some .local) : PG X (.Name n pos) (rG X (.nm i)) :=
  imG (pg_name hN hi hx hf) fun v σ H Q ⟨L, h, env, p, env', hr, er, y, e, q⟩ => by
  rw [tgSet] at e
  split at e
  · cases e
    exact q _ (er.set y) fun vs hv => wipe_set (hv i (by simp [tgIx]))
  · cases e
theorem locC_ok {sc cl : Scope} {n : Str} (h : locC sc cl n = true) : Loc sc n ∧ (cl.names.lookup n = some .cell ∨ sc.names.lookup n = some .local) := by
  unfold locC at h
  split at h
  · rename_i q; exact ⟨.inl q, .inr q⟩
  · rename_i q
    split at h
    · rename_i q2; exact ⟨.inr q, .inl q2⟩
    · cases h
  · cases h
mutual
theorem kTg_ok {cl : Scope} (hc : X.calm = true) (hN : X.N.Nodup) (hcl : ∀ n, cl.names.lookup n = some .cell → X.fn n = true) : ∀ (t : Tg) {e : Expr}, kTg X.N X.env.scope cl t e = true → PG X e (rG X t)
  | .nm i, e, h => by
    cases e <;> try (simp [kTg] at h; done)
    simp only [kTg, Bool.and_eq_true, decide_eq_true_eq] at h
    obtain ⟨l1, l2⟩ := locC_ok h.2
    exact sg_nmL hN h.1 l1 (l2.imp (hcl _) id)
  | .tp ts, e, h => by
    cases e <;> try (simp [kTg] at h; done)
    simp only [kTg, Bool.and_eq_true, decide_eq_true_eq] at h
    exact sg_tp hc (kTgs_ok hc hN hcl ts h.2 h.1.1) h.1.1 h.1.2
theorem kTgs_ok {cl : Scope} (hc : X.calm = true) (hN : X.N.Nodup) (hcl : ∀ n, cl.names.lookup n = some .cell → X.fn n = true) : ∀ (ts : List Tg) {es : List Expr}, kTgs X.N X.env.scope cl ts es = true → es.all okArg = true → PGs X es (rGs X ts)
  | [], es, h, _ => by
    cases es with
    | nil => exact sgs_nil
    | cons e es => simp [kTgs] at h
  | t :: ts, es, h, ho => by
    cases es with
    | nil => simp [kTgs] at h
    | cons e es =>
      simp only [kTgs, Bool.and_eq_true] at h
      rw [List.all_cons, Bool.and_eq_true] at ho
      exact sgs_cons (kTg_ok hc hN hcl t h.1) (kTgs_ok hc hN hcl ts h.2 ho.2) ho.1
end
theorem dEs_len (ctx : List Sem) : ∀ (ts : IEs) {env : Env} {h h' : PHeap} {vs : List PV} {sc : Scope} {xs : List Expr}, kEs G ts sc xs = true → dEs ctx ts env h = .ok vs h' → vs.length = xs.length
  | .nil, env, h, h', vs, sc, xs, k, e => by
    cases xs with
    | nil => cases e; rfl
    | cons _ _ => simp [kEs] at k
  | .cons t ts, env, h, h', vs, sc, xs, k, e => by
    cases xs with
    | nil => simp [kEs] at k
    | cons x xs =>
      simp only [kEs, Bool.and_eq_true] at k
      obtain ⟨v, h1, _, e⟩ := R.bind_eq_ok e
      obtain ⟨ws, h2, e2, e⟩ := R.bind_eq_ok e
      cases e
      rw [List.length_cons, List.length_cons, dEs_len ctx ts k.2 e2]
theorem kEs_nil (ctx : List Sem) {ts : IEs} {sc : Scope} (k : kEs G ts sc [] = true) : dEs ctx ts = nilF := by
  cases ts with
  | nil => rfl
  | cons _ _ => simp [kEs] at k
theorem okArgs_of {sc : Scope} : ∀ {ts : IEs} {xs : List Expr}, kEs G ts sc xs = true → xs.all okArg = true
  | .nil, [], _ => rfl
  | .nil, _ :: _, k => by simp [kEs] at k
  | .cons _ _, [], k => by simp [kEs] at k
  | .cons t ts, x :: xs, k => by
    simp only [kEs, Bool.and_eq_true] at k
    rw [List.all_cons, Bool.and_eq_true]
    exact ⟨k.1.1, okArgs_of k.2⟩
/-- one test, or none -/
def ifsF (ctx : List Sem) (ts : IEs) : Env → PHeap → R Bool := dIfs ctx ts
theorem if1 (t : IE) : dIfs ctx (.cons t .nil) = dTr (dE ctx t) := by
  funext env h
  show (dE ctx t env h).bind (fun v h => (R.of (tru h v) h).bind fun b h => if b = true then R.ok true h else .ok false h) = (dE ctx t env h).bind fun v h => R.of (tru h v) h
  congr 1
  funext v h
  cases tru h v with
  | none => rfl
  | some b => cases b <;> rfl
theorem isTup_ok (h : isTup x = true) : ∃ es k p, x = .Tuple es k p := by
  cases x <;> first | exact ⟨_, _, _, rfl⟩ | cases h
/-- list(range), tuple(range) as they are told -/
theorem rE_of {f g : Env → PHeap → R PV} (i : ∀ env h v h', f env h = .ok v h' → g env h = .ok v h') {σ : L2.St} {H : Hp} {Q : VK} : rE X f σ H Q → rE X g σ H Q := fun ⟨L, h, env, v, h', hr, er, e, post⟩ => ⟨L, h, env, v, h', hr, er, i _ _ _ _ e, post⟩
theorem conv_rng {k : Cnv} {al : Bool} {g : Env → PHeap → R (Int × Int)} {F : Env → PHeap → R PV} (h : ∀ env h v h', F env h = .ok v h' → ((g env h).bind fun p h => (R.of (rangeOf p.1 p.2) h).bind fun xs h => convI k al xs h) = .ok v h')
    (pe : PE X x (rE X fun env h => (g env h).bind fun p h => (R.of (rangeOf p.1 p.2) h).bind fun xs h => convI k al xs h)) : PE X x (rE X F) :=
  imE pe fun σ H Q ⟨L, hh, env, v, h', hr, er, e, post⟩ => ⟨L, hh, env, v, h', hr, er, h _ _ _ _ e, post⟩
theorem rng1_eq {al : Bool} {k : Cnv} {e : IE} {env : Env} {h h' : PHeap} {v : PV} (eq : dE ctx (.convI k al (.rng1 e)) env h = .ok v h') : ((g1 (dE ctx e) env h).bind fun p h => (R.of (rangeOf p.1 p.2) h).bind fun xs h => convI k al xs h) = .ok v h' := by
  obtain ⟨p, h1, e1, e2⟩ := R.bind_eq_ok (show ((dI ctx (.rng1 e) env h).bind fun p h => convI k al p.1 h) = .ok v h' from eq)
  obtain ⟨w, h2, e3, e4⟩ := R.bind_eq_ok e1
  obtain ⟨xs, e5, e6⟩ := R.of_bind e4
  cases e6
  obtain ⟨j, e7, e8⟩ := Option.bind_eq_some_iff.mp e5
  unfold g1
  rw [e3]
  simp only [R.bind_ok, e7, R.of_some]
  rw [e8]
  exact e2
theorem rng2_eq {al : Bool} {k : Cnv} {e e' : IE} {env : Env} {h h' : PHeap} {v : PV} (eq : dE ctx (.convI k al (.rng2 e e')) env h = .ok v h') : ((g2 (dE ctx e) (dE ctx e') env h).bind fun p h => (R.of (rangeOf p.1 p.2) h).bind fun xs h => convI k al xs h) = .ok v h' := by
  obtain ⟨p, h1, e1, e2⟩ := R.bind_eq_ok (show ((dI ctx (.rng2 e e') env h).bind fun p h => convI k al p.1 h) = .ok v h' from eq)
  obtain ⟨w, h2, e3, e4⟩ := R.bind_eq_ok e1
  obtain ⟨w', h3, e3', e4⟩ := R.bind_eq_ok e4
  obtain ⟨xs, e5, e6⟩ := R.of_bind e4
  cases e6
  obtain ⟨i, e7, e8⟩ := Option.bind_eq_some_iff.mp e5
  obtain ⟨j, e9, e10⟩ := Option.bind_eq_some_iff.mp e8
  unfold g2
  rw [e3]
  simp only [R.bind_ok]
  rw [e3']
  simp only [R.bind_ok, e7, e9, R.of_some]
  rw [e10]
  exact e2
set_option maxHeartbeats 4000000 in
mutual
theorem okE : ∀ (t : IE) {X : Cx} {x : Expr}, Gd G ctx X → kE G t X.env.scope x = true → OkX X x (dE ctx t)
  | .var i, X, x, g, h => by
    unfold kE at h
    split at h
    · simp only [Bool.and_eq_true, decide_eq_true_eq] at h
      have n3 := okNm_ok h.2
      exact .plain g.um (se_var (by rw [g.hN]; exact h.1.1) (visC_ok h.1.2) n3.1 n3.2.1) rfl
    · cases h
  | .cst v, X, x, g, h => by
    unfold kE at h
    obtain ⟨h1, h2⟩ := cstC_ok (X := X) h
    exact .plain g.um h1 h2
  | .glob gn v, X, x, g, h => by
    unfold kE at h
    split at h
    · simp only [Bool.and_eq_true, decide_eq_true_eq, List.any_eq_true] at h
      obtain ⟨⟨⟨rfl, h2⟩, h3⟩, ⟨p, hp, h4, h5⟩⟩ := h
      have n3 := okNm_ok h3
      obtain ⟨u, w, m1, m2, m3⟩ := g.glb p.1 p.2 hp
      rw [h4] at m1
      rw [h5] at m2
      exact .plain g.um (se_c m2 (pe_glob (glC_ok h2) m1 m3 n3.1)) rfl
    · cases h
  | .tup es, X, x, g, h => by
    unfold kE at h
    split at h
    · simp only [Bool.and_eq_true, decide_eq_true_eq] at h
      exact .plain g.um (se_tup (okEs es g h.2) fun env hh vs h' e => by rw [dEs_len ctx es h.2 e, sizeLine_eq]; omega) rfl
    · cases h
  | .lst al es, X, x, g, h => by
    unfold kE at h
    split at h
    · simp only [Bool.and_eq_true, decide_eq_true_eq] at h
      exact .plain g.um (se_lst (okEs es g h.2) fun env hh vs h' e => by rw [dEs_len ctx es h.2 e, sizeLine_eq]; omega) rfl
    · cases h
  | .dct al kvs, X, x, g, h => by
    unfold kE at h
    split at h
    · exact .plain g.um se_dct0 rfl
    · rename_i k v a b pos
      rw [Bool.and_eq_true] at h
      refine .plain g.um (imE (se_dct1 (al := al) (okE k g h.1).e (okE v g h.2).e) fun σ H Q => rE_of fun env h r h' e => ?_) rfl
      obtain ⟨vs, h1, e1, e2⟩ := R.bind_eq_ok (show ((dEs ctx (.cons k (.cons v .nil)) env h).bind fun vs h => (R.of ((pairUp vs).bind dispOf) h).bind fun es h => mkDict al es h) = .ok r h' from e)
      obtain ⟨x, h2, e3, e4⟩ := R.bind_eq_ok (show ((dE ctx k env h).bind fun x h => (dEs ctx (.cons v .nil) env h).bind fun vs h => .ok (x :: vs) h) = .ok vs h1 from e1)
      obtain ⟨ws, h3, e5, e6⟩ := R.bind_eq_ok e4
      obtain ⟨y, h4, e7, e8⟩ := R.bind_eq_ok (show ((dE ctx v env h2).bind fun x h => (dEs ctx .nil env h).bind fun vs h => .ok (x :: vs) h) = .ok ws h3 from e5)
      cases e8
      cases e6
      obtain ⟨es, q1, q2⟩ := R.of_bind e2
      rw [e3, R.bind_ok, e7, R.bind_ok]
      simp only [pairUp, Option.map_some, Option.bind_some, dispOf, List.all_cons, List.all_nil, Bool.and_true] at q1
      split at q1
      · rename_i kv
        rw [putAll] at q1
        split at q1
        · cases q1
          rw [if_pos kv]
          exact q2
        · cases q1
      · cases q1
    · cases h
  | .bin op a b, X, x, g, h => by
    unfold kE at h
    split at h
    · simp only [Bool.and_eq_true, decide_eq_true_eq] at h
      obtain ⟨⟨rfl, h1⟩, h2⟩ := h
      exact .plain g.um (se_bin (okE a g h1).e (okE b g h2).e) rfl
    · cases h
  | .neg a, X, x, g, h => by
    unfold kE at h
    split at h
    · rename_i l p
      have pe := se_neg (pos := p) (okE a g h).e
      exact ⟨pe, st_plain g.um pe fun _ => rfl, fun q => by cases q⟩
    · cases h
  | .not a, X, x, g, h => by
    unfold kE at h
    split at h
    · exact ⟨se_not g.um (okE a g h).e, st_not (okE a g h).t, fun q => by cases q⟩
    · cases h
  | .cmp op a b, X, x, g, h => by
    unfold kE at h
    split at h
    · simp only [Bool.and_eq_true, decide_eq_true_eq, Bool.not_eq_true'] at h
      obtain ⟨⟨⟨rfl, h0⟩, h1⟩, h2⟩ := h
      exact ⟨se_cmp g.um (okE a g h1).e (okE b g h2).e h0, st_cmp g.um (okE a g h1).e (okE b g h2).e h0, fun q => by cases q⟩
    · cases h
  | .cmp2 op op' a b c, X, x, g, h => by
    unfold kE at h
    split at h
    · simp only [Bool.and_eq_true, decide_eq_true_eq, Bool.not_eq_true'] at h
      obtain ⟨⟨⟨⟨⟨rfl, rfl⟩, h0⟩, h1⟩, h2⟩, h3⟩ := h
      exact ⟨se_cmp2 g.um (okE a g h1).e (okE b g h2).e (okE c g h3).e h0, st_cmp2 g.um (okE a g h1).e (okE b g h2).e (okE c g h3).e h0, fun q => by cases q⟩
    · cases h
  | .and a b, X, x, g, h => by
    unfold kE at h
    split at h
    · rename_i l r rest p
      rw [Bool.and_eq_true] at h
      have ha := okE a g h.1
      have hb : PE X (.BoolOp .And (r :: rest) p) (rE X (dE ctx b)) ∧ PW X (.BoolOp .And (r :: rest) p) (rT X (dTr (dE ctx b))) := by
        cases rest with
        | nil => have := okE b g (by simpa using h.2); exact ⟨pe_one this.e, pw_and1 this.t⟩
        | cons z zs => have := okE b g (by simpa using h.2); exact ⟨this.e, this.w rfl⟩
      have w := sw_and ha.t hb.2
      exact ⟨se_and g.um ha.e hb.1, w.pt, fun _ => w⟩
    · cases h
  | .or a b, X, x, g, h => by
    unfold kE at h
    split at h
    · rename_i l r rest p
      rw [Bool.and_eq_true] at h
      have ha := okE a g h.1
      have hb : PE X (.BoolOp .Or (r :: rest) p) (rE X (dE ctx b)) ∧ PW X (.BoolOp .Or (r :: rest) p) (rT X (dTr (dE ctx b))) := by
        cases rest with
        | nil => have := okE b g (by simpa using h.2); exact ⟨pe_one this.e, pw_or1 this.t⟩
        | cons z zs => have := okE b g (by simpa using h.2); exact ⟨this.e, this.w rfl⟩
      have w := sw_or ha.t hb.2
      exact ⟨se_or g.um ha.e hb.1, w.pt, fun _ => w⟩
    · cases h
  | .ife c a b, X, x, g, h => by
    unfold kE at h
    split at h
    · simp only [Bool.and_eq_true] at h
      exact ⟨se_ife (okE c g h.1.1).t (okE a g h.1.2).e (okE b g h.2).e, st_ife (okE c g h.1.1).t (okE a g h.1.2).t (okE b g h.2).t, fun q => by cases q⟩
    · cases h
  | .sub a i, X, x, g, h => by
    unfold kE at h
    split at h
    · simp only [Bool.and_eq_true] at h
      exact .plain g.um (se_ix (okE a g h.1.2).e (okE i g h.2).e (ix_ok h.1.1) g.um) rfl
    · cases h
  | .slice a lo hi, X, x, g, h => by
    unfold kE at h
    split at h
    · simp only [Bool.and_eq_true] at h
      exact .plain g.um (se_sl (okE a g h.1.1).e (okO lo g h.1.2) (okO hi g h.2)) rfl
    · cases h
  | .rev a st, X, x, g, h => by
    unfold kE at h
    split at h
    · simp only [Bool.and_eq_true] at h
      exact .plain g.um (se_rev (okE a g h.1).e (okE st g h.2).e) rfl
    · cases h
  | .call f es, X, x, g, h => by
    unfold kE at h
    split at h
    · rename_i n p args pos
      simp only [Bool.and_eq_true] at h
      obtain ⟨⟨⟨⟨h1, h2⟩, h3⟩, h4⟩, h5⟩ := h
      have n3 := okNm_ok h3
      split at h1
      · rename_i m k hf
        simp only [Bool.and_eq_true, decide_eq_true_eq] at h1
        obtain ⟨rfl, hk⟩ := h1
        obtain ⟨j, lv, sem, hs, hr, hj, cc⟩ := g.fns f m k hf
        have hd : dE ctx (.call f es) = fun env h => (dEs ctx es env h).bind fun vs h => sem vs h := by
          funext env h
          show ((dEs ctx es env h).bind fun vs h => (ctx.getD f fun _ _ => .bad) vs h) = _
          rw [List.getD_eq_getElem?_getD, hs]
          rfl
        rw [hd]
        cases args with
        | cons a args => exact .plain g.um (se_call cc hr hj (glC_ok h2) n3.1 (okEs es g h5) h4 fun env hh vs h' e => by rw [dEs_len ctx es h5 e]; exact hk) rfl
        | nil =>
          have e0 : k = 0 := by rw [← hk]; rfl
          subst e0
          rw [kEs_nil ctx h5]
          exact .plain g.um (se_call0 cc hr hj (glC_ok h2) n3.1) rfl
      · cases h1
    · cases h
  | .blt f es, X, x, g, h => by
    unfold kE at h
    cases f with
    | isi T =>
      dsimp only at h
      split at h
      · rename_i e n p a m p' pos
        simp only [Bool.and_eq_true, decide_eq_true_eq] at h
        obtain ⟨⟨⟨⟨⟨h1, rfl⟩, h3⟩, h4⟩, h5⟩, h6⟩ := h
        obtain ⟨rfl, b1, b2, _, _⟩ := bC_ok g h1
        obtain ⟨_, c1, c2, c3, c4⟩ := bC_ok g h3
        exact .plain g.um (se_isi b1 b2 c1 c2 (ty_boot T (by simpa using h4)) c4 c3 (okE e g h6).e h5) rfl
      · cases h
    | isiT ts =>
      dsimp only at h
      split at h
      · rename_i e n p a tys kk p' pos
        simp only [Bool.and_eq_true, decide_eq_true_eq] at h
        obtain ⟨⟨⟨⟨h1, h2⟩, h3⟩, h5⟩, h6⟩ := h
        obtain ⟨rfl, b1, b2, _, _⟩ := bC_ok g h1
        exact .plain g.um (se_isiT b1 b2 (tysC_ok g h2) h3 (okE e g h6).e h5) rfl
      · cases h
    | repr => cases h
    | len =>
      dsimp only at h
      split at h
      · simp only [Bool.and_eq_true] at h
        obtain ⟨⟨h1, h2⟩, h3⟩ := h
        obtain ⟨rfl, b1, b2, b3, b4⟩ := bC_ok g h1
        exact .plain g.um (se_blt (cr_len g.um) b1 b2 rfl b4 b3 (okEs es g h3) h2) rfl
      · cases h
    | abs =>
      dsimp only at h
      split at h
      · simp only [Bool.and_eq_true] at h
        obtain ⟨⟨h1, h2⟩, h3⟩ := h
        obtain ⟨rfl, b1, b2, b3, b4⟩ := bC_ok g h1
        exact .plain g.um (se_blt cr_abs b1 b2 rfl b4 b3 (okEs es g h3) h2) rfl
      · cases h
    | max2 =>
      dsimp only at h
      split at h
      · simp only [Bool.and_eq_true] at h
        obtain ⟨⟨h1, h2⟩, h3⟩ := h
        obtain ⟨rfl, b1, b2, b3, b4⟩ := bC_ok g h1
        exact .plain g.um (se_blt (cr_max2 g.calm) b1 b2 rfl b4 b3 (okEs es g h3) h2) rfl
      · cases h
    | min2 =>
      dsimp only at h
      split at h
      · simp only [Bool.and_eq_true] at h
        obtain ⟨⟨h1, h2⟩, h3⟩ := h
        obtain ⟨rfl, b1, b2, b3, b4⟩ := bC_ok g h1
        exact .plain g.um (se_blt (cr_min2 g.calm) b1 b2 rfl b4 b3 (okEs es g h3) h2) rfl
      · cases h
    | int =>
      dsimp only at h
      split at h
      · simp only [Bool.and_eq_true] at h
        obtain ⟨⟨h1, h2⟩, h3⟩ := h
        obtain ⟨rfl, b1, b2, b3, b4⟩ := bC_ok g h1
        exact .plain g.um (se_bltT cr_int b1 b2 rfl b4 b3 (okEs es g h3) h2) rfl
      · cases h
  | .meth m o es, X, x, g, h => by
    unfold kE at h
    split at h
    · rename_i l nm ap args cp
      simp only [Bool.and_eq_true, decide_eq_true_eq] at h
      obtain ⟨⟨⟨⟨⟨⟨⟨rfl, h2⟩, h3⟩, h4⟩, h5⟩, h6⟩, h7⟩, h8⟩ := h
      refine .plain g.um (meth_ok g h2 (okE o g h7).e (okEs es g h8) h5 h6 h3 h4 fun e => ?_) rfl
      subst e
      exact kEs_nil ctx h8
    · cases h
  | .conv k al e, X, x, g, h => by
    unfold kE at h
    cases k with
    | sortedSet =>
      dsimp only at h
      split at h
      · simp only [Bool.and_eq_true] at h
        obtain ⟨⟨⟨h1, h2⟩, h3⟩, h4⟩ := h
        obtain ⟨rfl, b1, b2, _, _⟩ := bC_ok g h1
        obtain ⟨rfl, c1, c2, _, _⟩ := bC_ok g h2
        exact .plain g.um (se_sortSet g.calm g.um b1 b2 c1 c2 (okE e g h4).e h3) rfl
      · cases h
    | lenSet => cases h
    | sortedItems =>
      dsimp only at h
      split at h
      · simp only [Bool.and_eq_true, decide_eq_true_eq] at h
        obtain ⟨⟨⟨⟨h1, h2⟩, h3⟩, h4⟩, h5⟩ := h
        subst h2
        obtain ⟨rfl, b1, b2, _, _⟩ := bC_ok g h1
        exact .plain g.um (se_sortItems g.calm g.um b1 b2 (okE e g h5).e h3 h4) rfl
      · cases h
    | list =>
      dsimp only at h
      split at h
      · simp only [Bool.and_eq_true] at h
        obtain ⟨⟨h1, h2⟩, h3⟩ := h
        obtain ⟨rfl, b1, b2, b3, b4⟩ := bC_ok g h1
        exact .plain g.um (se_cnvT (cr_list g.calm al) b1 b2 rfl b4 b3 (okE e g h3).e h2) rfl
      · cases h
    | tuple =>
      dsimp only at h
      split at h
      · simp only [Bool.and_eq_true] at h
        obtain ⟨⟨h1, h2⟩, h3⟩ := h
        obtain ⟨rfl, b1, b2, b3, b4⟩ := bC_ok g h1
        exact .plain g.um (se_cnvT (cr_tuple al) b1 b2 rfl b4 b3 (okE e g h3).e h2) rfl
      · cases h
    | dict =>
      dsimp only at h
      split at h
      · simp only [Bool.and_eq_true] at h
        obtain ⟨⟨h1, h2⟩, h3⟩ := h
        obtain ⟨rfl, b1, b2, b3, b4⟩ := bC_ok g h1
        exact .plain g.um (se_cnvT (cr_dict g.calm g.um al) b1 b2 rfl b4 b3 (okE e g h3).e h2) rfl
      · cases h
    | sorted =>
      dsimp only at h
      split at h
      · simp only [Bool.and_eq_true] at h
        obtain ⟨⟨h1, h2⟩, h3⟩ := h
        obtain ⟨rfl, b1, b2, b3, b4⟩ := bC_ok g h1
        exact .plain g.um (se_cnv (cr_sortedP g.calm g.um al) b1 b2 rfl b4 b3 (okE e g h3).e h2) rfl
      · cases h
    | sum =>
      dsimp only at h
      split at h
      · simp only [Bool.and_eq_true] at h
        obtain ⟨⟨h1, h2⟩, h3⟩ := h
        obtain ⟨rfl, b1, b2, b3, b4⟩ := bC_ok g h1
        exact .plain g.um (se_cnv (cr_sumP g.calm al) b1 b2 rfl b4 b3 (okE e g h3).e h2) rfl
      · cases h
    | all =>
      dsimp only at h
      split at h
      · simp only [Bool.and_eq_true] at h
        obtain ⟨⟨h1, h2⟩, h3⟩ := h
        obtain ⟨rfl, b1, b2, b3, b4⟩ := bC_ok g h1
        exact .plain g.um (se_cnv (cr_allP g.calm al) b1 b2 rfl b4 b3 (okE e g h3).e h2) rfl
      · cases h
    | any =>
      dsimp only at h
      split at h
      · simp only [Bool.and_eq_true] at h
        obtain ⟨⟨h1, h2⟩, h3⟩ := h
        obtain ⟨rfl, b1, b2, b3, b4⟩ := bC_ok g h1
        exact .plain g.um (se_cnv (cr_anyP g.calm al) b1 b2 rfl b4 b3 (okE e g h3).e h2) rfl
      · cases h
    | max =>
      dsimp only at h
      split at h
      · simp only [Bool.and_eq_true] at h
        obtain ⟨⟨h1, h2⟩, h3⟩ := h
        obtain ⟨rfl, b1, b2, b3, b4⟩ := bC_ok g h1
        exact .plain g.um (se_cnv (cr_maxP g.calm al) b1 b2 rfl b4 b3 (okE e g h3).e h2) rfl
      · cases h
    | min =>
      dsimp only at h
      split at h
      · simp only [Bool.and_eq_true] at h
        obtain ⟨⟨h1, h2⟩, h3⟩ := h
        obtain ⟨rfl, b1, b2, b3, b4⟩ := bC_ok g h1
        exact .plain g.um (se_cnv (cr_minP g.calm al) b1 b2 rfl b4 b3 (okE e g h3).e h2) rfl
      · cases h
  | .convI k al it, X, x, g, h => by
    unfold kE at h
    split at h
    · rename_i e n p m p' a pos pos'
      simp only [Bool.and_eq_true, Bool.or_eq_true, decide_eq_true_eq] at h
      obtain ⟨⟨⟨⟨h0, h1⟩, h2⟩, h3⟩, h4⟩ := h
      obtain ⟨rfl, c1, c2, _, _⟩ := bC_ok g h2
      have pr := sr_1 (p := p') (pos := pos) c1 c2 (okE e g h4).e h3
      rcases h0 with rfl | rfl
      · obtain ⟨rfl, b1, b2, _, _⟩ := bC_ok g h1
        exact .plain g.um (conv_rng (fun _ _ _ _ => rng1_eq) (se_listRg g.calm b1 b2 pr rfl)) rfl
      · obtain ⟨rfl, b1, b2, _, _⟩ := bC_ok g h1
        exact .plain g.um (conv_rng (fun _ _ _ _ => rng1_eq) (se_tupRg g.calm b1 b2 pr rfl)) rfl
    · rename_i e e' n p m p' a b pos pos'
      simp only [Bool.and_eq_true, Bool.or_eq_true, decide_eq_true_eq] at h
      obtain ⟨⟨⟨⟨⟨⟨h0, h1⟩, h2⟩, h3⟩, h3'⟩, h4⟩, h5⟩ := h
      obtain ⟨rfl, c1, c2, _, _⟩ := bC_ok g h2
      have pr := sr_2 (p := p') (pos := pos) c1 c2 (okE e g h4).e (okE e' g h5).e h3 h3'
      rcases h0 with rfl | rfl
      · obtain ⟨rfl, b1, b2, _, _⟩ := bC_ok g h1
        exact .plain g.um (conv_rng (fun _ _ _ _ => rng2_eq) (se_listRg g.calm b1 b2 pr rfl)) rfl
      · obtain ⟨rfl, b1, b2, _, _⟩ := bC_ok g h1
        exact .plain g.um (conv_rng (fun _ _ _ _ => rng2_eq) (se_tupRg g.calm b1 b2 pr rfl)) rfl
    · cases h
  | .comp al own tg it ifs elt, X, x, g, h => by
    unfold kE at h
    split at h
    · rename_i e tge iter ifs' scope pos
      simp only [Bool.and_eq_true] at h
      obtain ⟨⟨⟨⟨⟨h1, h2⟩, h3⟩, h4⟩, h5⟩, h6⟩ := h
      split at h2
      · rename_i ow how
        obtain ⟨fl, hfl, pi, hs⟩ := okI it g h1
        have bo : BlkOk X.N X.env.scope scope ow := blkOk_by (by rw [g.hN]; exact h2)
        have ho := ownP_ok how
        have hown : ∀ i ∈ tgIx tg, i ∈ ow.map (·.2) := fun i hi => by
          rw [ho]
          have := List.all_eq_true.mp h3 i hi
          simpa using this
        have pe := se_lock (it := it) (se_comp (pos := pos) (al := al) g.calm g.nd pi bo
          (fun s H C cl fq => kTg_ok (X := X.blk s H scope (compEnvC scope cl C X.env) fq) (cl := scope) g.calm g.nd (fun n hn => by show (scope.names.lookup n == some .cell) = true; rw [hn]; rfl) tg (by rw [show (X.blk s H scope (compEnvC scope cl C X.env) fq).N = G.N from g.hN]; exact h4))
          (fun s H C cl fq => okIfs ifs (g.blk s H scope (compEnvC scope cl C X.env) fq) h5)
          (fun s H C cl fq => (okE elt (g.blk s H scope (compEnvC scope cl C X.env) fq) h6).e) hs hown hfl)
        rw [ho] at pe
        exact .plain g.um pe rfl
      · cases h2
    · cases h
  | .comp2 al own tg it ifs own1 tg1 it1 ifs1 elt, X, x, g, h => by
    unfold kE at h
    split at h
    · rename_i e1 e tge iter ifs' tge1 iter1 ifs1' scope pos
      simp only [Bool.and_eq_true] at h
      obtain ⟨⟨⟨⟨⟨⟨⟨⟨⟨⟨⟨h1, h2⟩, h3⟩, h4⟩, h5⟩, h6⟩, h7⟩, h8⟩, h9⟩, h10⟩, h11⟩, h12⟩ := h
      split at h2
      · rename_i ow how
        obtain ⟨fl, hfl, pi, hs⟩ := okI it g h1
        have bo : BlkOk X.N X.env.scope scope ow := blkOk_by (by rw [g.hN]; exact h2)
        have ho := ownP_ok how
        have hown : ∀ i ∈ tgIx tg, i ∈ ow.map (·.2) := fun i hi => by
          rw [ho]
          have := List.all_eq_true.mp h3 i hi
          simpa using this
        have hv : ∀ i ∈ own1, i ∈ ow.map (·.2) := fun i hi => by
          rw [ho]
          have := List.all_eq_true.mp h6 i hi
          simpa using this
        have hown1 : ∀ i ∈ tgIx tg1, i ∈ own1 := fun i hi => by
          have := List.all_eq_true.mp h7 i hi
          simpa using this
        have pe := se_lock (it := it) (se_comp2 (pos := pos) (al := al) g.calm g.nd pi bo hv
          (fun s H C cl fq => kTg_ok (X := X.blk s H scope (compEnvC scope cl C X.env) fq) (cl := scope) g.calm g.nd (fun n hn => by show (scope.names.lookup n == some .cell) = true; rw [hn]; rfl) tg (by rw [show (X.blk s H scope (compEnvC scope cl C X.env) fq).N = G.N from g.hN]; exact h4))
          (fun s H C cl fq => okIfs ifs (g.blk s H scope (compEnvC scope cl C X.env) fq) h5)
          (fun s H C cl fq => si_ex (okE e1 (g.blk s H scope (compEnvC scope cl C X.env) fq) h9).e)
          (fun s H C cl fq => kTg_ok (X := X.blk s H scope (compEnvC scope cl C X.env) fq) (cl := scope) g.calm g.nd (fun n hn => by show (scope.names.lookup n == some .cell) = true; rw [hn]; rfl) tg1 (by rw [show (X.blk s H scope (compEnvC scope cl C X.env) fq).N = G.N from g.hN]; exact h10))
          (fun s H C cl fq => okIfs ifs1 (g.blk s H scope (compEnvC scope cl C X.env) fq) h11)
          (fun s H C cl fq => (okE elt (g.blk s H scope (compEnvC scope cl C X.env) fq) h12).e) hs (fun env => fold_ok h8 env) hown hown1 hfl)
        rw [ho] at pe
        exact .plain g.um pe rfl
      · cases h2
    · rename_i e1 e tge iter ifs' tge1 n np a1 cp ifs1' scope pos
      simp only [Bool.and_eq_true] at h
      obtain ⟨⟨⟨⟨⟨⟨⟨⟨⟨⟨⟨⟨h1, h2⟩, h3⟩, h4⟩, h5⟩, h6⟩, h7⟩, h8⟩, h8b⟩, h9⟩, h10⟩, h11⟩, h12⟩ := h
      split at h2
      · rename_i ow how
        obtain ⟨fl, hfl, pi, hs⟩ := okI it g h1
        have bo : BlkOk X.N X.env.scope scope ow := blkOk_by (by rw [g.hN]; exact h2)
        have ho := ownP_ok how
        have hown : ∀ i ∈ tgIx tg, i ∈ ow.map (·.2) := fun i hi => by
          rw [ho]
          have := List.all_eq_true.mp h3 i hi
          simpa using this
        have hv : ∀ i ∈ own1, i ∈ ow.map (·.2) := fun i hi => by
          rw [ho]
          have := List.all_eq_true.mp h6 i hi
          simpa using this
        have hown1 : ∀ i ∈ tgIx tg1, i ∈ own1 := fun i hi => by
          have := List.all_eq_true.mp h7 i hi
          simpa using this
        have hnr : n = "range" := by
          unfold bC at h8
          simp only [Bool.and_eq_true, decide_eq_true_eq] at h8
          exact h8.1.1
        subst hnr
        have pe := se_lock (it := it) (se_comp2 (pos := pos) (al := al) g.calm g.nd pi bo hv
          (fun s H C cl fq => kTg_ok (X := X.blk s H scope (compEnvC scope cl C X.env) fq) (cl := scope) g.calm g.nd (fun n hn => by show (scope.names.lookup n == some .cell) = true; rw [hn]; rfl) tg (by rw [show (X.blk s H scope (compEnvC scope cl C X.env) fq).N = G.N from g.hN]; exact h4))
          (fun s H C cl fq => okIfs ifs (g.blk s H scope (compEnvC scope cl C X.env) fq) h5)
          (fun s H C cl fq => by
            have g' := g.blk s H scope (compEnvC scope cl C X.env) fq
            obtain ⟨_, b1, b2, _, _⟩ := bC_ok g' h8
            exact si_rng1 (tg := tge1) (p := np) (pos := cp) b1 b2 (okE e1 g' h9).e h8b)
          (fun s H C cl fq => kTg_ok (X := X.blk s H scope (compEnvC scope cl C X.env) fq) (cl := scope) g.calm g.nd (fun n hn => by show (scope.names.lookup n == some .cell) = true; rw [hn]; rfl) tg1 (by rw [show (X.blk s H scope (compEnvC scope cl C X.env) fq).N = G.N from g.hN]; exact h10))
          (fun s H C cl fq => okIfs ifs1 (g.blk s H scope (compEnvC scope cl C X.env) fq) h11)
          (fun s H C cl fq => (okE elt (g.blk s H scope (compEnvC scope cl C X.env) fq) h12).e) hs (fun _ _ => rfl) hown hown1 hfl)
        rw [ho] at pe
        exact .plain g.um pe rfl
      · cases h2
    · cases h
  | .dcomp al own tg it ifs k v, X, x, g, h => by
    unfold kE at h
    split at h
    · rename_i e e' tge iter ifs' scope pos
      simp only [Bool.and_eq_true] at h
      obtain ⟨⟨⟨⟨⟨⟨h1, h2⟩, h3⟩, h4⟩, h5⟩, h6⟩, h7⟩ := h
      split at h2
      · rename_i ow how
        obtain ⟨fl, hfl, pi, hs⟩ := okI it g h1
        have bo : BlkOk X.N X.env.scope scope ow := blkOk_by (by rw [g.hN]; exact h2)
        have ho := ownP_ok how
        have hown : ∀ i ∈ tgIx tg, i ∈ ow.map (·.2) := fun i hi => by
          rw [ho]
          have := List.all_eq_true.mp h3 i hi
          simpa using this
        have pe := se_lock (it := it) (se_dcomp (pos := pos) (al := al) g.um g.calm g.nd pi bo
          (fun s H C cl fq => kTg_ok (X := X.blk s H scope (compEnvC scope cl C X.env) fq) (cl := scope) g.calm g.nd (fun n hn => by show (scope.names.lookup n == some .cell) = true; rw [hn]; rfl) tg (by rw [show (X.blk s H scope (compEnvC scope cl C X.env) fq).N = G.N from g.hN]; exact h4))
          (fun s H C cl fq => okIfs ifs (g.blk s H scope (compEnvC scope cl C X.env) fq) h5)
          (fun s H C cl fq => (okE k (g.blk s H scope (compEnvC scope cl C X.env) fq) h6).e)
          (fun s H C cl fq => (okE v (g.blk s H scope (compEnvC scope cl C X.env) fq) h7).e) hs hown hfl)
        rw [ho] at pe
        exact .plain g.um pe rfl
      · cases h2
    · cases h
theorem okEs : ∀ (ts : IEs) {X : Cx} {xs : List Expr}, Gd G ctx X → kEs G ts X.env.scope xs = true → PA X xs (rA X (dEs ctx ts))
  | .nil, X, xs, g, h => by
    cases xs with
    | nil => exact sa_nil
    | cons _ _ => simp [kEs] at h
  | .cons t ts, X, xs, g, h => by
    cases xs with
    | nil => simp [kEs] at h
    | cons x xs =>
      simp only [kEs, Bool.and_eq_true] at h
      exact sa_cons (okE t g h.1.2).e (okEs ts g h.2) h.1.1
theorem okIfs : ∀ (ts : IEs) {X : Cx} {xs : List Expr}, Gd G ctx X → kIfs G ts X.env.scope xs = true → PTs X xs (rT X (dIfs ctx ts))
  | .nil, X, xs, g, h => by
    cases xs with
    | nil => exact ⟨fun pins s σ H Q I ⟨L, hh, env, b, h', hr, er, e, post⟩ => pts_nil.run pins s σ H Q I (by cases e; exact post _ _ Ext.refl hr)⟩
    | cons _ _ => simp [kIfs] at h
  | .cons t .nil, X, xs, g, h => by
    match xs with
    | [] => simp [kIfs] at h
    | [x] =>
      simp only [kIfs] at h
      rw [if1]
      exact pts_one (okE t g h).t
    | _ :: _ :: _ => simp [kIfs] at h
  | .cons _ (.cons _ _), X, xs, g, h => by
    match xs with
    | [] => simp [kIfs] at h
    | [x] => simp [kIfs] at h
    | _ :: _ :: _ => simp [kIfs] at h
theorem okO : ∀ (t : IO) {X : Cx} {x : Option Expr}, Gd G ctx X → kO G t X.env.scope x = true → PO X x (rO X (dO ctx t))
  | .none, X, x, g, h => by
    cases x with
    | none => exact so_none
    | some _ => simp [kO] at h
  | .some t, X, x, g, h => by
    cases x with
    | none => simp [kO] at h
    | some x =>
      simp only [kO] at h
      exact so_some (okE t g h).e
theorem okI : ∀ (t : II) {X : Cx} {tp : Bool} {tge x : Expr}, Gd G ctx X → kI G t X.env.scope tp tge x = true → ∃ fl : Bool, (fl = true → tp = true) ∧ PI X tge x (rI X fl (dI ctx t)) ∧ ∀ v, foldedSetIterable x X.env v = pure v
  | .ex e, X, tp, tge, x, g, h => by
    simp only [kI, Bool.and_eq_true] at h
    exact ⟨false, (fun q => by cases q), si_ex (okE e g h.2).e, fold_ok h.1 _⟩
  | .rng1 e, X, tp, tge, x, g, h => by
    unfold kI at h
    split at h
    · simp only [Bool.and_eq_true] at h
      obtain ⟨rfl, b1, b2, _, _⟩ := bC_ok g h.1.1
      exact ⟨false, (fun q => by cases q), si_rng1 b1 b2 (okE e g h.2).e h.1.2, fun _ => rfl⟩
    · cases h
  | .rng2 e e', X, tp, tge, x, g, h => by
    unfold kI at h
    split at h
    · simp only [Bool.and_eq_true] at h
      obtain ⟨⟨⟨⟨h1, h2⟩, h3⟩, h4⟩, h5⟩ := h
      obtain ⟨rfl, b1, b2, _, _⟩ := bC_ok g h1
      exact ⟨false, (fun q => by cases q), si_rng2 b1 b2 (okE e g h4).e (okE e' g h5).e h2 h3, fun _ => rfl⟩
    · cases h
  | .enum e, X, tp, tge, x, g, h => by
    unfold kI at h
    split at h
    · simp only [Bool.and_eq_true] at h
      obtain ⟨⟨⟨⟨h1, h2⟩, h3⟩, h4⟩, h5⟩ := h
      obtain ⟨es, k, p, rfl⟩ := isTup_ok h2
      obtain ⟨rfl, b1, b2, _, _⟩ := bC_ok g h3
      exact ⟨true, (fun _ => h1), si_enum b1 b2 (okE e g h5).e h4, fun _ => rfl⟩
    · cases h
  | .zip e e', X, tp, tge, x, g, h => by
    unfold kI at h
    split at h
    · simp only [Bool.and_eq_true] at h
      obtain ⟨⟨⟨⟨⟨⟨h1, h2⟩, h3⟩, h4⟩, h5⟩, h6⟩, h7⟩ := h
      obtain ⟨es, k, p, rfl⟩ := isTup_ok h2
      obtain ⟨rfl, b1, b2, _, _⟩ := bC_ok g h3
      exact ⟨true, (fun _ => h1), si_zip b1 b2 (okE e g h6).e (okE e' g h7).e h4 h5, fun _ => rfl⟩
    · cases h
  | .items e, X, tp, tge, x, g, h => by
    unfold kI at h
    split at h
    · simp only [Bool.and_eq_true, decide_eq_true_eq] at h
      obtain ⟨⟨⟨⟨⟨h1, h2⟩, h3⟩, h4⟩, h5⟩, h6⟩ := h
      obtain ⟨es, k, p, rfl⟩ := isTup_ok h2
      subst h3
      exact ⟨true, (fun _ => h1), si_items (okE e g h6).e h4 h5, fun _ => rfl⟩
    · cases h
  | .values e, X, tp, tge, x, g, h => by
    unfold kI at h
    split at h
    · simp only [Bool.and_eq_true, decide_eq_true_eq] at h
      obtain ⟨⟨⟨h3, h4⟩, h5⟩, h6⟩ := h
      subst h3
      exact ⟨false, (fun q => by cases q), si_values (okE e g h6).e h4 h5, fun _ => rfl⟩
    · cases h
end
end
end HW
/-! HxB: the look at statements. -/
namespace HW
open PySem PySem.Spec PyProof.Rows L2 C8

/-- a comprehension's value that is swapped with the name on its line -/
def swB (sc : Scope) (n : Str) (p : Pos) (v : Expr) : Bool := match v with
  | .ListComp _ _ s _ => decide (sc.names.lookup n = some .local) && (p.line == v.pos.line) && !(s.names.any fun (m, k) => m == n && (k == .local || k == .cell))
  | .DictComp _ _ _ s _ => decide (sc.names.lookup n = some .local) && (p.line == v.pos.line) && !(s.names.any fun (m, k) => m == n && (k == .local || k == .cell))
  | _ => false
def okNoSet : Expr → Bool
  | .SetComp .. => false
  | _ => true
/-- a comprehension is told as one *)-/
def compC (e : IE) (v : Expr) : Bool := match v with
  | .ListComp .. => match e with
    | .comp .. => true
    | _ => false
  | .DictComp .. => match e with
    | .dcomp .. => true
    | _ => false
  | _ => true
def locL (sc : Scope) (n : Str) : Bool := match sc.names.lookup n with
  | some .local => true
  | _ => false
/-- targets of a general kind -/
def kITs (G : Ck) (sc : Scope) : List ITgt → List Expr → Bool
  | [], [] => true
  | .tg (.nm i) :: ts, .Name n _ :: es => decide (G.N[i]? = some n) && locC sc sc n && kITs G sc ts es
  | .sub o i :: ts, .Subscript l j _ :: es => okIx j && kE G o sc l && kE G i sc j && kITs G sc ts es
  | _, _ => false
def notLoc (sc : Scope) : Expr → Bool
  | .Name n _ => !locL sc n
  | _ => true
def kParG (G : Ck) (ts : List ITgt) (es : IEs) (sc : Scope) (x : Stmt) : Bool := match x with
  | .Assign [.Tuple tes _ _] (.Tuple ves _ _) _ => tes.all okArg && decide (tes.length = ts.length) && decide (ves.length ≤ 1000) && tes.any (notLoc sc) && kITs G sc ts tes && kEs G es sc ves
  | _ => false
mutual
def kS (G : Ck) (t : IS) (sc : Scope) (x : Stmt) : Bool := match t with
  | .expr e => match x with
    | .Expr v _ => okNoComp v && kE G e sc v
    | _ => false
  | .asg tg e => match tg, x with
    | .tg (.nm i), .Assign [.Name n _] v _ => decide (G.N[i]? = some n) && locC sc sc n && okNoSet v && compC e v && kE G e sc v
    | .tg (.tp ts), .Assign [.Tuple es k p] v _ => okNoComp v && okNoTup v && kTg G.N sc sc (.tp ts) (.Tuple es k p) && kE G e sc v
    | .sub o i, .Assign [.Subscript l j _] v _ => okNoComp v && okNoTup v && okIx j && kE G o sc l && kE G i sc j && kE G e sc v
    | _, _ => false
  | .par ts es => kParG G ts es sc x || match ts, x with
    | [.tg (.nm i), .tg (.nm j)], .Assign [.Tuple [.Name n p, .Name m q] _ _] (.Tuple [a, b] _ _) _ => decide (G.N[i]? = some n) && decide (G.N[j]? = some m) && decide (i ≠ j) && locL sc n && locL sc m && decide (n ≠ m) && (p.line == q.line) &&
        !([a, b].all (foldedForSure 8)) && !([a, b].all (constantsAlone 8)) && kEs G es sc [a, b]
    | [.tg (.nm i), .tg (.nm j), .tg (.nm l)], .Assign [.Tuple [.Name n p, .Name m q, .Name o r] _ _] (.Tuple [a, b, c] _ _) _ => decide (G.N[i]? = some n) && decide (G.N[j]? = some m) && decide (G.N[l]? = some o) && decide (i ≠ j) && decide (i ≠ l) && decide (j ≠ l) &&
        locL sc n && locL sc m && locL sc o && decide (n ≠ m) && decide (n ≠ o) && decide (m ≠ o) && (p.line == q.line) && (p.line == r.line) && !([a, b, c].all (foldedForSure 8)) && !([a, b, c].all (constantsAlone 8)) && kEs G es sc [a, b, c]
    | _, _ => false
  | .aug i op e => match x with
    | .AugAssign (.Name n _) o v _ => decide (G.N[i]? = some n) && locC sc sc n && decide (o = pyB op) && (decide (op = .add) || decide (op = .sub)) && kE G e sc v
    | _ => false
  | .ret e => match x with
    | .Return (some v) _ => kE G e sc v
    | _ => false
  | .retN => match x with
    | .Return none _ => true
    | _ => false
  | .pass => match x with
    | .Pass _ => true
    | .Expr (.Constant (.str _) _ _) _ => true
    | _ => false
  | .brk => match x with
    | .Break _ => true
    | _ => false
  | .cont => match x with
    | .Continue _ => true
    | _ => false
  | .ifs c a b => match x with
    | .If t xs ys _ => kE G c sc t && kSs G a sc xs && kSs G b sc ys
    | _ => false
  | .for_ tg it b => match x with
    | .For tge iter body [] _ => kI G it sc (isTp tg) tge iter && kTg G.N sc sc tg tge && kSs G b sc body
    | _ => false
  | .while_ _ c b => match x with
    | .While t body [] _ => kE G c sc t && kSs G b sc body
    | _ => false
  | _ => false
def kSs (G : Ck) (ts : ISs) (sc : Scope) (xs : List Stmt) : Bool := match ts, xs with
  | .nil, [] => true
  | .cons t ts, x :: xs => kS G t sc x && kSs G ts sc xs
  | _, _ => false
end
section
variable {G : Ck} {ctx : List Sem} {X : Cx}
theorem blk_fn (hk : X.env.scope.kind = .function) : X.env.blockKind = .function := by unfold Env.blockKind; rw [hk]; rfl
theorem swB_ok (hk : X.env.scope.kind = .function) {n : Str} {p : Pos} {v : Expr} {l : Nat} (h : okNoSet v = true) : swapsWith v (some (.Name n p)) l X.env = pure (swB X.env.scope n p v) := by
  have hb := blk_fn hk
  cases v <;> first | rfl | skip
  · rename_i elt gs s pos
    unfold swapsWith swB
    simp only [hb]
    show pure (_ && (X.env.kindOf n == some .local) && _ && _) = pure _
    congr 1
    have : (X.env.kindOf n == some .local) = decide (X.env.scope.names.lookup n = some .local) := by
      unfold Env.kindOf
      by_cases q : X.env.scope.names.lookup n = some .local
      · rw [decide_eq_true q, q]; rfl
      · rw [decide_eq_false q]; exact beq_eq_false_iff_ne.mpr q
    rw [this]
    rfl
  · cases h
  · rename_i k v gs s pos
    unfold swapsWith swB
    simp only [hb]
    show pure (_ && (X.env.kindOf n == some .local) && _ && _) = pure _
    congr 1
    have : (X.env.kindOf n == some .local) = decide (X.env.scope.names.lookup n = some .local) := by
      unfold Env.kindOf
      by_cases q : X.env.scope.names.lookup n = some .local
      · rw [decide_eq_true q, q]; rfl
      · rw [decide_eq_false q]; exact beq_eq_false_iff_ne.mpr q
    rw [this]
    rfl
theorem ss_setL {a : Expr} {f : Env → PHeap → R PV} {p pos : Pos} (hN : X.N.Nodup) {i : Nat} {x : Str} (hi : X.N[i]? = some x) (hx : Loc X.env.scope x) (hf : X.fn x = true ∨ X.env.scope.names.lookup x = some .local) (ha : PE X a (rE X f)) (hs : swapsWith a (some (.Name x p)) pos.line X.env = pure false) : PS X (.Assign [.Name x p] a pos) (rS X (setF i f)) :=
  imS (ps_set hN hi hx ha hs hf) fun D σ H ⟨L, h, env, o, h', hr, er, e, post⟩ => by
  obtain ⟨v, e1, rfl⟩ := setF_ok e
  exact ⟨L, h, env, v, h', hr, er, e1, fun x L1 H1 x1 hr1 v1 => post _ _ x1 hr1 _ ((er.mono x1).set v1)⟩
/-- the lock about the value is one about the statement -/
theorem setF_lock {i : Nat} {it : II} {F : Env → PHeap → R PV} {env : Env} {h h' : PHeap} {o : Out} (e : setF i (lkF it F) env h = .ok o h') : lkS it (setF i F) env h = .ok o h' := by
  obtain ⟨v, e1, e2⟩ := setF_ok e
  have hi : i < env.length := by
    obtain ⟨w, h1, q1, q2⟩ := R.bind_eq_ok e
    obtain ⟨env', q3, _⟩ := R.of_bind q2
    rw [tgSet] at q3
    split at q3
    · rename_i q; exact q
    · cases q3
  subst e2
  have mk : ∀ {h h' : PHeap}, F env h = .ok v h' → setF i F env h = .ok (.nx (env.set i (some v))) h' := fun {h h'} q => by
    unfold setF
    rw [q]
    simp only [R.bind_ok, tgSet, hi, if_true, R.of_some]
  unfold lkF at e1
  unfold lkS
  cases hl : lockI it env h with
  | none => rw [hl] at e1; exact mk e1
  | some n =>
    rw [hl] at e1
    obtain ⟨es, g, hc, e3, hg, rfl⟩ := withLock_ok e1
    unfold withLock
    simp only [hc, mk e3, R.bind_ok, hg, if_true]
theorem rS_of {st : Stmt} {f g : Env → PHeap → R Out} (h : PS X st (rS X g)) (i : ∀ env h o h', f env h = .ok o h' → g env h = .ok o h') : PS X st (rS X f) := imS h fun D σ H ⟨L, hh, env, o, h', hr, er, e, post⟩ => ⟨L, hh, env, o, h', hr, er, i _ _ _ _ e, post⟩
theorem locL_ok {sc : Scope} {n : Str} (h : locL sc n = true) : sc.names.lookup n = some .local := by
  unfold locL at h
  split at h
  · rename_i q; exact q
  · cases h
theorem any_no {es : List Expr} {g : Expr → Bool} (h : es.all okArg = true) (hg : ∀ e, okArg e = true → g e = false) : es.any g = false := by
  rw [List.any_eq_false]
  intro e he
  rw [hg e (List.all_eq_true.mp h e he)]
  decide
theorem swap2 (hk : X.env.scope.kind = .function) {n m : Str} {p q pt pt2 : Pos} {a b : Expr} {kt k2 : Nat} (hn : X.env.scope.names.lookup n = some .local) (hm : X.env.scope.names.lookup m = some .local) (hnm : n ≠ m) (hl : (p.line == q.line) = true) (ho : [a, b].all okArg = true)
    (hf : [a, b].all (foldedForSure 8) = false) (hc : [a, b].all (constantsAlone 8) = false) : swappedStores [.Tuple [.Name n p, .Name m q] kt pt] (.Tuple [a, b] k2 pt2) X.env = pure (some [n, m]) := by
  have hb := blk_fn hk
  have k1 : X.env.kindOf n = some .local := hn
  have k2' : X.env.kindOf m = some .local := hm
  have hl' : q.line = p.line := (eq_of_beq hl).symm
  unfold swappedStores
  dsimp only
  rw [any_no ho (fun e he => by cases e <;> first | rfl | cases he)]
  simp only [hb, hf, hc, k1, k2', hl', List.filterMap_cons, List.filterMap_nil, List.head?_cons, Option.map_some, Option.getD_some, Expr.pos, List.length_cons, List.length_nil]
  have e1 : (m == n) = false := beq_eq_false_iff_ne.mpr (Ne.symm hnm)
  simp [List.eraseDups, List.eraseDupsBy, List.eraseDupsBy.loop, e1]
theorem swap3 (hk : X.env.scope.kind = .function) {n m o : Str} {p q r pt pt2 : Pos} {a b c : Expr} {kt k2 : Nat} (hn : X.env.scope.names.lookup n = some .local) (hm : X.env.scope.names.lookup m = some .local) (h3 : X.env.scope.names.lookup o = some .local) (hnm : n ≠ m) (hno : n ≠ o) (hmo : m ≠ o) (hl : (p.line == q.line) = true) (hl2 : (p.line == r.line) = true) (ho : [a, b, c].all okArg = true)
    (hf : [a, b, c].all (foldedForSure 8) = false) (hc : [a, b, c].all (constantsAlone 8) = false) : swappedStores [.Tuple [.Name n p, .Name m q, .Name o r] kt pt] (.Tuple [a, b, c] k2 pt2) X.env = pure (some [n, m, o]) := by
  have hb := blk_fn hk
  have k1 : X.env.kindOf n = some .local := hn
  have k2' : X.env.kindOf m = some .local := hm
  have k3 : X.env.kindOf o = some .local := h3
  have hl' : q.line = p.line := (eq_of_beq hl).symm
  have hl2' : r.line = p.line := (eq_of_beq hl2).symm
  unfold swappedStores
  dsimp only
  rw [any_no ho (fun e he => by cases e <;> first | rfl | cases he)]
  simp only [hb, hf, hc, k1, k2', k3, hl', hl2', List.filterMap_cons, List.filterMap_nil, List.head?_cons, Option.map_some, Option.getD_some, Expr.pos, List.length_cons, List.length_nil]
  have e1 : (m == n) = false := beq_eq_false_iff_ne.mpr (Ne.symm hnm)
  have e2 : (o == n) = false := beq_eq_false_iff_ne.mpr (Ne.symm hno)
  have e3 : (o == m) = false := beq_eq_false_iff_ne.mpr (Ne.symm hmo)
  simp [List.eraseDups, List.eraseDupsBy, List.eraseDupsBy.loop, e1, e2, e3]
theorem fm_short {α β : Type} (f : α → Option β) : ∀ l : List α, l.any (fun e => (f e).isNone) = true → (l.filterMap f).length < l.length
  | [], h => by simp at h
  | a :: l, h => by
    have le := List.length_filterMap_le f l
    rw [List.filterMap_cons]
    cases q : f a with
    | none =>
      simp only [List.length_cons]
      omega
    | some b =>
      rw [List.any_cons, q] at h
      have := fm_short f l (by simpa using h)
      simp only [List.length_cons]
      omega
theorem swapped_gen {tes ves : List Expr} {k k2 : Nat} {p p2 : Pos} (h : tes.any (notLoc X.env.scope) = true) : swappedStores [.Tuple tes k p] (.Tuple ves k2 p2) X.env = pure none := by
  unfold swappedStores
  dsimp only
  split
  · rfl
  · split
    · rfl
    · have lt := fm_short (fun (e : Expr) => match e with
        | .Name id pos => if X.env.kindOf id == some .local && pos.line == (tes.head?.map (·.pos.line)).getD 0 then some id else none
        | _ => none) tes (by
          rw [List.any_eq_true] at h ⊢
          obtain ⟨e, h1, h2⟩ := h
          refine ⟨e, h1, ?_⟩
          cases e <;> first | rfl | skip
          rename_i n q
          replace h2 : (!locL X.env.scope n) = true := h2
          unfold locL at h2
          have : ¬ X.env.kindOf n = some .local := by
            intro e
            have e' : X.env.scope.names.lookup n = some .local := e
            rw [e'] at h2
            simp at h2
          have e3 : (X.env.kindOf n == some .local) = false := beq_eq_false_iff_ne.mpr this
          simp [e3])
      split
      · rfl
      · rename_i q
        exfalso
        apply q
        simp only [Bool.or_eq_true, bne_iff_ne, ne_eq]
        left
        exact Nat.ne_of_lt lt
section
variable {G : Ck} {ctx : List Sem}
theorem okITs {X : Cx} (g : Gd G ctx X) (hfn : ∀ n, X.fn n = true) : ∀ {ts : List ITgt} {es : List Expr}, kITs G X.env.scope ts es = true → es.all okArg = true → PGs X es (rTIs X ctx ts)
  | [], [], _, _ => sgsI_nil
  | [], _ :: _, h, _ => by simp [kITs] at h
  | t :: ts, [], h, _ => by
    cases t with
    | tg t => cases t <;> simp [kITs] at h
    | sub _ _ => simp [kITs] at h
  | t :: ts, e :: es, h, ho => by
    rw [List.all_cons, Bool.and_eq_true] at ho
    cases t with
    | tg t =>
      cases t with
      | tp _ => simp [kITs] at h
      | nm i =>
        cases e <;> try (simp [kITs] at h; done)
        rename_i n p
        simp only [kITs, Bool.and_eq_true, decide_eq_true_eq] at h
        exact sgsI_cons (sg_nmI g.nd (by rw [g.hN]; exact h.1.1) (locC_ok h.1.2).1 (.inl (hfn n))) (okITs g hfn h.2 ho.2) ho.1
    | sub o i =>
      cases e <;> try (simp [kITs] at h; done)
      rename_i l j p
      simp only [kITs, Bool.and_eq_true] at h
      exact sgsI_cons (sg_subI g.um (okE o g h.1.1.2).e (okE i g h.1.2).e h.1.1.1) (okITs g hfn h.2 ho.2) ho.1
theorem parG_ok {X : Cx} {ts : List ITgt} {es : IEs} {x : Stmt} (g : Gd G ctx X) (hfn : ∀ n, X.fn n = true) (h : kParG G ts es X.env.scope x = true) : PS X x (rS X (dS ctx (.par ts es))) := by
  unfold kParG at h
  split at h
  · rename_i tes k p ves k2 p2 pos
    simp only [Bool.and_eq_true, decide_eq_true_eq] at h
    obtain ⟨⟨⟨⟨⟨h1, h2⟩, h3⟩, h4⟩, h5⟩, h6⟩ := h
    exact rS_of (ss_parG g.calm (okEs es g h6) (fun env hh vs h' e => by rw [dEs_len ctx es h6 e, sizeLine_eq]; omega) (okITs g hfn h5 h1) h1 h2 (swapped_gen h4)) fun env h o h' e => e
  · cases h
/-- one name, any value -/
theorem named_ok {X : Cx} (g : Gd G ctx X) (hk : X.env.scope.kind = .function) (hfn : ∀ n, X.fn n = true) {i : Nat} {e : IE} {n : Str} {p pos : Pos} {v : Expr} (hi : X.N[i]? = some n) (hl : locC X.env.scope X.env.scope n = true) (hv : okNoSet v = true) (hcc : compC e v = true) (h : kE G e X.env.scope v = true) :
    PS X (.Assign [.Name n p] v pos) (rS X (setF i (dE ctx e))) := by
  have sw := swB_ok hk (n := n) (p := p) (l := pos.line) hv
  have pe := (okE e g h).e
  cases hb : swB X.env.scope n p v with
  | false =>
    rw [hb] at sw
    exact ss_setL g.nd hi (locC_ok hl).1 (.inl (hfn n)) pe sw
  | true =>
    rw [hb] at sw
    unfold swB at hb
    split at hb
    · rename_i elt gs s vp
      simp only [Bool.and_eq_true, decide_eq_true_eq] at hb
      have hloc := hb.1.1
      cases e <;> try (simp [compC] at hcc; done)
      unfold kE at h
      · rename_i al own tg it ifs elt'
        split at h
        · rename_i e tge iter ifs' scope pos2 heq
          cases heq
          simp only [Bool.and_eq_true] at h
          obtain ⟨⟨⟨⟨⟨h1, h2⟩, h3⟩, h4⟩, h5⟩, h6⟩ := h
          split at h2
          · rename_i ow how
            obtain ⟨fl, hfl, pi, hs⟩ := okI it g h1
            have bo : BlkOk X.N X.env.scope s ow := blkOk_by (by rw [g.hN]; exact h2)
            have ho := ownP_ok how
            have hown : ∀ i ∈ tgIx tg, i ∈ ow.map (·.2) := fun i hi => by
              rw [ho]
              have := List.all_eq_true.mp h3 i hi
              simpa using this
            have ps := ss_setLc (al := al) g.calm g.nd hi hloc sw pi bo
              (fun z H C cl fq => kTg_ok (X := X.blk z H s (compEnvC s cl C X.env) fq) (cl := s) g.calm g.nd (fun n hn => by show (s.names.lookup n == some .cell) = true; rw [hn]; rfl) tg (by rw [show (X.blk z H s (compEnvC s cl C X.env) fq).N = G.N from g.hN]; exact h4))
              (fun z H C cl fq => okIfs ifs (g.blk z H s (compEnvC s cl C X.env) fq) h5)
              (fun z H C cl fq => (okE elt' (g.blk z H s (compEnvC s cl C X.env) fq) h6).e) hs hown hfl
            rw [ho] at ps
            exact rS_of (ss_lock (it := it) ps) fun env h o h' => setF_lock
          · cases h2
        · cases h
    · rename_i ek ev gs s vp
      simp only [Bool.and_eq_true, decide_eq_true_eq] at hb
      have hloc := hb.1.1
      cases e <;> try (simp [compC] at hcc; done)
      unfold kE at h
      · rename_i al own tg it ifs k' v'
        split at h
        · rename_i e e' tge iter ifs' scope pos2 heq
          cases heq
          simp only [Bool.and_eq_true] at h
          obtain ⟨⟨⟨⟨⟨⟨h1, h2⟩, h3⟩, h4⟩, h5⟩, h6⟩, h7⟩ := h
          split at h2
          · rename_i ow how
            obtain ⟨fl, hfl, pi, hs⟩ := okI it g h1
            have bo : BlkOk X.N X.env.scope s ow := blkOk_by (by rw [g.hN]; exact h2)
            have ho := ownP_ok how
            have hown : ∀ i ∈ tgIx tg, i ∈ ow.map (·.2) := fun i hi => by
              rw [ho]
              have := List.all_eq_true.mp h3 i hi
              simpa using this
            have ps := ss_setDc (al := al) g.um g.calm g.nd hi hloc sw pi bo
              (fun z H C cl fq => kTg_ok (X := X.blk z H s (compEnvC s cl C X.env) fq) (cl := s) g.calm g.nd (fun n hn => by show (s.names.lookup n == some .cell) = true; rw [hn]; rfl) tg (by rw [show (X.blk z H s (compEnvC s cl C X.env) fq).N = G.N from g.hN]; exact h4))
              (fun z H C cl fq => okIfs ifs (g.blk z H s (compEnvC s cl C X.env) fq) h5)
              (fun z H C cl fq => (okE k' (g.blk z H s (compEnvC s cl C X.env) fq) h6).e)
              (fun z H C cl fq => (okE v' (g.blk z H s (compEnvC s cl C X.env) fq) h7).e) hs hown hfl
            rw [ho] at ps
            exact rS_of (ss_lock (it := it) ps) fun env h o h' => setF_lock
          · cases h2
        · cases h
    · cases hb
end
end
end HW
/-! HxC: the look at statements is right; a def by its body. -/
namespace HW
open PySem PySem.Spec PyProof.Rows L2 C8

section
variable {G : Ck} {ctx : List Sem}
theorem nm_ok {i : Nat} {v : PV} {env env' : Env} {h h' : PHeap} (e : dTg ctx (.tg (.nm i)) v env h = .ok env' h') : env' = env.set i (some v) ∧ h' = h := by
  obtain ⟨e1, rfl⟩ := R.of_eq_ok (show R.of (tgSet (.nm i) v env) h = .ok env' h' from e)
  rw [tgSet] at e1
  split at e1
  · cases e1; exact ⟨rfl, rfl⟩
  · cases e1
theorem par2_eq {i j : Nat} {es : IEs} {env : Env} {h h' : PHeap} {o : Out} (e : dS ctx (.par [.tg (.nm i), .tg (.nm j)] es) env h = .ok o h') : ((dEs ctx es env h).bind fun vs h => match vs with
      | [v, w] => .ok (.nx ((env.set i (some v)).set j (some w))) h
      | _ => .bad) = R.ok o h' := by
  obtain ⟨vs, h1, e1, e2⟩ := R.bind_eq_ok (show ((dEs ctx es env h).bind fun vs h => (dTgs ctx [.tg (.nm i), .tg (.nm j)] vs env h).bind fun env h => R.ok (.nx env) h) = .ok o h' from e)
  obtain ⟨env', h2, e3, e4⟩ := R.bind_eq_ok e2
  cases e4
  rw [e1]
  match vs with
  | [] => cases e3
  | [v] =>
    obtain ⟨env1, h3, e5, e6⟩ := R.bind_eq_ok (show ((dTg ctx (.tg (.nm i)) v env h1).bind fun env h => dTgs ctx [.tg (.nm j)] [] env h) = .ok env' h' from e3)
    cases e6
  | [v, w] =>
    obtain ⟨env1, h3, e5, e6⟩ := R.bind_eq_ok (show ((dTg ctx (.tg (.nm i)) v env h1).bind fun env h => dTgs ctx [.tg (.nm j)] [w] env h) = .ok env' h' from e3)
    obtain ⟨env2, h4, e7, e8⟩ := R.bind_eq_ok (show ((dTg ctx (.tg (.nm j)) w env1 h3).bind fun env h => dTgs ctx [] [] env h) = .ok env' h' from e6)
    obtain ⟨rfl, rfl⟩ := nm_ok e5
    obtain ⟨rfl, rfl⟩ := nm_ok e7
    cases e8
    rfl
  | v :: w :: z :: r =>
    obtain ⟨env1, h3, e5, e6⟩ := R.bind_eq_ok (show ((dTg ctx (.tg (.nm i)) v env h1).bind fun env h => dTgs ctx [.tg (.nm j)] (w :: z :: r) env h) = .ok env' h' from e3)
    obtain ⟨env2, h4, e7, e8⟩ := R.bind_eq_ok (show ((dTg ctx (.tg (.nm j)) w env1 h3).bind fun env h => dTgs ctx [] (z :: r) env h) = .ok env' h' from e6)
    cases e8
theorem par3_eq {i j l : Nat} {es : IEs} {env : Env} {h h' : PHeap} {o : Out} (e : dS ctx (.par [.tg (.nm i), .tg (.nm j), .tg (.nm l)] es) env h = .ok o h') : ((dEs ctx es env h).bind fun vs h => match vs with
      | [u, v, w] => .ok (.nx (((env.set i (some u)).set j (some v)).set l (some w))) h
      | _ => .bad) = R.ok o h' := by
  obtain ⟨vs, h1, e1, e2⟩ := R.bind_eq_ok (show ((dEs ctx es env h).bind fun vs h => (dTgs ctx [.tg (.nm i), .tg (.nm j), .tg (.nm l)] vs env h).bind fun env h => R.ok (.nx env) h) = .ok o h' from e)
  obtain ⟨env', h2, e3, e4⟩ := R.bind_eq_ok e2
  cases e4
  rw [e1]
  have step : ∀ {k : Nat} {ts : List ITgt} {ws : List PV} {env env' : Env} {h h' : PHeap}, dTgs ctx (.tg (.nm k) :: ts) ws env h = .ok env' h' → ∃ v r, ws = v :: r ∧ dTgs ctx ts r (env.set k (some v)) h = .ok env' h' := by
    intro k ts ws env env' h h' e
    cases ws with
    | nil => cases e
    | cons v r =>
      obtain ⟨env1, h3, e5, e6⟩ := R.bind_eq_ok (show ((dTg ctx (.tg (.nm k)) v env h).bind fun env h => dTgs ctx ts r env h) = .ok env' h' from e)
      obtain ⟨rfl, rfl⟩ := nm_ok e5
      exact ⟨v, r, rfl, e6⟩
  obtain ⟨u, r1, rfl, f1⟩ := step e3
  obtain ⟨v, r2, rfl, f2⟩ := step f1
  obtain ⟨w, r3, rfl, f3⟩ := step f2
  cases r3 with
  | nil => cases f3; rfl
  | cons _ _ => cases f3
set_option maxHeartbeats 4000000 in
mutual
theorem okS : ∀ (t : IS) {X : Cx} {x : Stmt}, Gd G ctx X → X.env.scope.kind = .function → (∀ n, X.fn n = true) → kS G t X.env.scope x = true → PS X x (rS X (dS ctx t))
  | .expr e, X, x, g, hk, hf, h => by
    unfold kS at h
    split at h
    · simp only [Bool.and_eq_true] at h
      exact ss_expr (okE e g h.2).e h.1
    · cases h
  | .asg tg e, X, x, g, hk, hf, h => by
    unfold kS at h
    split at h
    · rename_i i n p v pos
      simp only [Bool.and_eq_true, decide_eq_true_eq] at h
      obtain ⟨⟨⟨⟨h1, h2⟩, h3⟩, h4⟩, h5⟩ := h
      exact named_ok g hk hf (by rw [g.hN]; exact h1) h2 h3 h4 h5
    · rename_i ts es k p v pos
      simp only [Bool.and_eq_true] at h
      obtain ⟨⟨⟨h1, h2⟩, h3⟩, h4⟩ := h
      exact ss_tg (t := .tp ts) (okE e g h4).e (kTg_ok (cl := X.env.scope) g.calm g.nd (fun n _ => hf n) (.tp ts) (by rw [g.hN]; exact h3)) h1 h2 rfl
    · rename_i o i l j p v pos
      simp only [Bool.and_eq_true] at h
      obtain ⟨⟨⟨⟨⟨h1, h2⟩, h3⟩, h4⟩, h5⟩, h6⟩ := h
      exact ss_sub g.um (okE e g h6).e (okE o g h4).e (okE i g h5).e h1 h2 h3
    · cases h
  | .par ts es, X, x, g, hk, hf, h => by
    unfold kS at h
    rw [Bool.or_eq_true] at h
    rcases h with h | h
    · exact parG_ok g hf h
    split at h
    · rename_i i j n p m q kt pt a b k2 pt2 pos
      simp only [Bool.and_eq_true, decide_eq_true_eq, Bool.not_eq_true'] at h
      obtain ⟨⟨⟨⟨⟨⟨⟨⟨⟨h1, h2⟩, h3⟩, h4⟩, h5⟩, h6⟩, h7⟩, h8⟩, h9⟩, h10⟩ := h
      exact rS_of (ss_par2 (es := []) g.calm g.nd (by rw [g.hN]; exact h1) (by rw [g.hN]; exact h2) h3 (locL_ok h4) (locL_ok h5) (okEs es g h10) (swap2 hk (locL_ok h4) (locL_ok h5) h6 h7 (okArgs_of h10) h8 h9)) fun env h o h' => par2_eq
    · rename_i i j l n p m q o r kt pt a b c k2 pt2 pos
      simp only [Bool.and_eq_true, decide_eq_true_eq, Bool.not_eq_true'] at h
      obtain ⟨⟨⟨⟨⟨⟨⟨⟨⟨⟨⟨⟨⟨⟨⟨⟨h1, h2⟩, h3⟩, h4⟩, h5⟩, h6⟩, h7⟩, h8⟩, h9⟩, h10⟩, h11⟩, h12⟩, h13⟩, h14⟩, h15⟩, h16⟩, h17⟩ := h
      exact rS_of (ss_par3 (es := []) g.calm g.nd (by rw [g.hN]; exact h1) (by rw [g.hN]; exact h2) (by rw [g.hN]; exact h3) h4 h5 h6 (locL_ok h7) (locL_ok h8) (locL_ok h9) (okEs es g h17) (swap3 hk (locL_ok h7) (locL_ok h8) (locL_ok h9) h10 h11 h12 h13 h14 (okArgs_of h17) h15 h16)) fun env h o h' => par3_eq
    · cases h
  | .aug i op e, X, x, g, hk, hf, h => by
    unfold kS at h
    split at h
    · rename_i n p o v pos
      simp only [Bool.and_eq_true, Bool.or_eq_true, decide_eq_true_eq] at h
      obtain ⟨⟨⟨⟨h1, h2⟩, rfl⟩, h4⟩, h5⟩ := h
      have go : ∀ {fi : Int → Int → Int}, PIp X (pyB op) (ipI fi) → (∀ (a b : Int) h, binop op (.int a) (.int b) h = some (.int (fi a b))) → PS X (.AugAssign (.Name n p) (pyB op) v pos) (rS X (dS ctx (.aug i op e))) := fun hp hg =>
        rS_of (ss_aug g.nd (by rw [g.hN]; exact h1) (locC_ok h2).1 (.inl (hf n)) (okE e g h5).e hp hg) fun env h o h' q => by
          unfold dS at q
          exact q
      rcases h4 with rfl | rfl
      · exact go ip_add fun _ _ _ => rfl
      · exact go ip_sub fun _ _ _ => rfl
    · cases h
  | .ret e, X, x, g, hk, hf, h => by
    unfold kS at h
    split at h
    · exact ss_ret (okE e g h).e
    · cases h
  | .retN, X, x, g, hk, hf, h => by
    unfold kS at h
    split at h
    · exact ss_retN
    · cases h
  | .pass, X, x, g, hk, hf, h => by
    unfold kS at h
    split at h
    · exact ss_next ps_pass
    · exact ss_next ps_doc
    · cases h
  | .brk, X, x, g, hk, hf, h => by
    unfold kS at h
    split at h
    · exact ss_brk
    · cases h
  | .cont, X, x, g, hk, hf, h => by
    unfold kS at h
    split at h
    · exact ss_cont
    · cases h
  | .ifs c a b, X, x, g, hk, hf, h => by
    unfold kS at h
    split at h
    · simp only [Bool.and_eq_true] at h
      exact ss_if (okE c g h.1.1).t (okSs a g hk hf h.1.2) (okSs b g hk hf h.2)
    · cases h
  | .for_ tg it b, X, x, g, hk, hf, h => by
    unfold kS at h
    split at h
    · simp only [Bool.and_eq_true] at h
      obtain ⟨fl, hfl, pi, hs⟩ := okI it g h.1.1
      exact ss_lock (it := it) (ss_for g.pass g.calm pi hfl (kTg_ok (cl := X.env.scope) g.calm g.nd (fun n _ => hf n) tg (by rw [g.hN]; exact h.1.2)) (okSs b g hk hf h.2) hs)
    · cases h
  | .while_ n c b, X, x, g, hk, hf, h => by
    unfold kS at h
    split at h
    · simp only [Bool.and_eq_true] at h
      exact ss_while g.pass (okE c g h.1).t (okSs b g hk hf h.2)
    · cases h
  | .augS _ _ _ _, X, x, g, hk, hf, h => by unfold kS at h; cases h
  | .raise_ _, X, x, g, hk, hf, h => by unfold kS at h; cases h
theorem okSs : ∀ (ts : ISs) {X : Cx} {xs : List Stmt}, Gd G ctx X → X.env.scope.kind = .function → (∀ n, X.fn n = true) → kSs G ts X.env.scope xs = true → PSs X xs (rS X (dSs ctx ts))
  | .nil, X, xs, g, hk, hf, h => by
    cases xs with
    | nil => exact sss_nil
    | cons _ _ => simp [kSs] at h
  | .cons t ts, X, xs, g, hk, hf, h => by
    cases xs with
    | nil => simp [kSs] at h
    | cons x xs =>
      simp only [kSs, Bool.and_eq_true] at h
      exact sss_cons (okS t g hk hf h.1) (okSs ts g hk hf h.2)
end
end
/-! ### a def -/
/-- what is looked at of a def's text: its names, its parameters, its body -/
def kF (G : Ck) (f : IFun) (st : Stmt) (ps : List Str) : Bool := scC G.N ps (fnScope st) && kSs G f.body (fnScope st) (fnBody st) && decide (f.n = G.N.length) && decide (f.np = ps.length)
section
variable {P : Program} {w : World} {K : PySem.W.Frag} {mg : Str → Option Value} {base : Heap}
/-- the world that a def's names are looked up in -/
structure Gl0 (P : Program) (w : World) (K : PySem.W.Frag) (mg : Str → Option Value) (base : Heap) (G : Ck) (ctx : List Sem) (k : Nat) : Prop where
  fns : ∀ (f : Nat) (n : Str) (a : Nat), G.fns[f]? = some (n, a) → ∃ (m : Nat) (sem : Sem), ctx[f]? = some sem ∧ m ≤ k ∧ Cal P w K mg base m n (spS ⟨P, w, K⟩ a sem) []
  blt : ∀ x ∈ bltNm, mg x = none
  glb : ∀ x v, (x, v) ∈ G.glb → ∃ u w, mg x = some u ∧ cOk v = some w ∧ RelV w u
theorem start_er {Z : Wd} {L : List Addr} {H : Hp} {N : List Str} {ps : List PV} {vs : List V} (v : VRs Z L H ps vs) (hl : ps.length ≤ N.length) : ER Z L H (ps.map some ++ List.replicate (N.length - ps.length) none) (L2.start N vs) := by
  have e := v.length
  unfold L2.start
  refine ⟨by simp [e], fun i p h1 => ?_⟩
  by_cases hi : i < ps.length
  · rw [List.getElem?_append_left (by simpa using hi), List.getElem?_map] at h1
    obtain ⟨q, h2, h3⟩ := Option.map_eq_some_iff.mp h1
    cases h3
    obtain ⟨x, h4, h5⟩ := v.get' h2
    refine ⟨x, ?_, h5⟩
    rw [List.getElem?_append_left (by simpa [e] using hi), List.getElem?_map, h4]
    rfl
  · rw [List.getElem?_append_right (by simpa using hi), List.getElem?_replicate] at h1
    split at h1 <;> cases h1
theorem def_ok {x : Str} {st : Stmt} {fa : Addr} {fd : FuncData} {ps : List Str} {k : Nat} {G : Ck} {ctx : List Sem} {f : IFun} (F : Def K mg x st fa fd) (b : Binds K fd ps []) (gl : Gl0 P w K mg base G ctx k) (h : kF G f st ps = true) :
    Cal P w K mg base (k + 1) x (spS ⟨P, w, K⟩ ps.length (runFn f ctx)) [] := by
  unfold kF at h
  simp only [Bool.and_eq_true, decide_eq_true_eq] at h
  obtain ⟨⟨⟨h1, h2⟩, h3⟩, h4⟩ := h
  have S := fnScope_by h1
  refine cal0 F b .nil S (fun vs H Q E ⟨L, hh, p, r, h', hr, v, e, _⟩ => by rw [v.length, e]) fun cdv A outer s H vs Q E room ⟨L, hh, p, r, h', hr, v, hn, e, post⟩ => ?_
  let X : Cx := (cxOf C8.CX0 P w K mg base G.N x (fnScope st) fa cdv A outer s H E).nox
  have um : Um X := by
    have := room.un
    show (A.deeper (envOfC x (fnScope st) s.heap.objs.size fa cdv)).units + 100 < cLine
    omega
  have g : Gd G ctx X := ⟨rfl, S.nd, rfl, um, PassesOwn.never, fun f n a q => by
    obtain ⟨m, sem, q1, q2, q3⟩ := gl.fns f n a q
    exact ⟨k, m, sem, q1, room, q2, q3⟩, gl.blt, gl.glb⟩
  have ps' := ss_fin (keep := f.keep) (okSs f.body g S.kind (fun _ => rfl) h2)
  refine ⟨_, ps', L, hh, p.map some ++ List.replicate (G.N.length - p.length) none, r, h', hr, start_er v ?_, ?_, fun x L' H' e' r' v' => ⟨post x L' H' e' r' v', fun ex σ => by subst ex; exact post _ L' H' e' r' v'⟩⟩
  · rw [hn, ← S.pre, List.length_take]
    exact Nat.min_le_right _ _
  · unfold runFn at e
    rw [if_pos (by rw [hn, h4])] at e
    rw [h3, h4, ← hn] at e
    exact e
end
end HW
/-! HxD: a law's defs, all together. -/
namespace HW
open PySem PySem.Spec PyProof.Rows L2 C8

section
variable {P : Program} {w : World} {K : PySem.W.Frag} {mg : Str → Option Value} {base : Heap}
theorem mkDef {h : Heap} (X : K.In h) (G : h.Ns mainGlobals mg) {x : Str} {st : Stmt} {ps : List Str} {f : Addr} {od an : Option Addr} {osl : Array (Option Value)} {oc kV doc pm cdv ct : Value}
    (hb : ∀ (kV doc pm : Value) (an : Option Addr) (cdv ct : Value) (us : List Value), us.length = ps.length → bindArgs (PySem.W.fnOf x x (C8.fnArgs st) (C8.fnBody st) (C8.fnScope st) .none kV doc pm an cdv ct) ⟨us, []⟩ = pure (ps.zip us))
    (a : PySem.W.nsIn K mainGlobals x = some (some (.ref f))) (l : K.lookup f = some ⟨oc, od, .func (PySem.W.fnOf x x (C8.fnArgs st) (C8.fnBody st) (C8.fnScope st) .none kV doc pm an cdv ct), osl⟩) (c : PySem.W.codeIn K cdv x = true) (k : PySem.W.keepIn K (.ref f) = true) :
    ∃ f fd, C8.Def K mg x st f fd ∧ L2.Binds K fd ps [] := by
  have F : C8.Fun K x x st f (PySem.W.fnOf x x (C8.fnArgs st) (C8.fnBody st) (C8.fnScope st) .none kV doc pm an cdv ct) := ⟨oc, od, .none, kV, doc, pm, an, cdv, ct, osl, rfl, l, c⟩
  exact ⟨f, _, ⟨F, PySem.W.mg_of X G a, k⟩, F.binds rfl hb⟩
theorem mkGlb {h : Heap} (X : K.In h) (G : h.Ns mainGlobals mg) {x : Str} {u : Value} {v : V} (a : PySem.W.nsIn K mainGlobals x = some (some u)) (r : RelV v u) : ∃ u, mg x = some u ∧ RelV v u := ⟨u, PySem.W.mg_of X G a, r⟩
/-- the callees, each at a level *)-/
abbrev FnsAt (P : Program) (w : World) (K : PySem.W.Frag) (mg : Str → Option Value) (base : Heap) (k : Nat) : List (Str × Nat) → List Sem → Prop := Paired fun p sem => ∃ m, m ≤ k ∧ Cal P w K mg base m p.1 (spS ⟨P, w, K⟩ p.2 sem) []
theorem fns_get {k : Nat} : ∀ {l : List (Str × Nat)} {ctx : List Sem}, FnsAt P w K mg base k l ctx → ∀ (f : Nat) (n : Str) (a : Nat), l[f]? = some (n, a) → ∃ (m : Nat) (sem : Sem), ctx[f]? = some sem ∧ m ≤ k ∧ Cal P w K mg base m n (spS ⟨P, w, K⟩ a sem) []
  | _, _, .nil, f, n, a, h => by simp at h
  | _, _, .cons h1 h2, 0, n, a, h => by
    simp only [List.getElem?_cons_zero, Option.some.injEq] at h
    subst h
    obtain ⟨m, q1, q2⟩ := h1
    exact ⟨m, _, rfl, q1, q2⟩
  | _, _, .cons h1 h2, f + 1, n, a, h => by
    obtain ⟨m, sem, q1, q2, q3⟩ := fns_get h2 f n a (by simpa using h)
    exact ⟨m, sem, by simpa using q1, q2, q3⟩
abbrev GlbAt (mg : Str → Option Value) (l : List (Str × PV)) : Prop := ∀ p ∈ l, ∃ u w, mg p.1 = some u ∧ cOk p.2 = some w ∧ RelV w u
theorem GlbAt.nil : GlbAt mg [] := fun p hp => by cases hp
theorem GlbAt.cons {x : Str} {v : PV} {y : V} {l : List (Str × PV)} (h1 : ∃ u, mg x = some u ∧ RelV y u) (hc : cOk v = some y) (h2 : GlbAt mg l) : GlbAt mg ((x, v) :: l) := fun p hp => by
  rcases List.mem_cons.mp hp with rfl | hp
  · obtain ⟨u, q1, q2⟩ := h1
    exact ⟨u, y, q1, hc, q2⟩
  · exact h2 p hp
theorem cal_def {x : Str} {st : Stmt} {ps : List Str} {k : Nat} {G : Ck} {ctx : List Sem} {f : IFun} (F : ∃ fa fd, C8.Def K mg x st fa fd ∧ L2.Binds K fd ps []) (b : ∀ x ∈ bltNm, mg x = none) (fs : FnsAt P w K mg base k G.fns ctx) (gs : GlbAt mg G.glb) (h : kF G f st ps = true) :
    Cal P w K mg base (k + 1) x (spS ⟨P, w, K⟩ ps.length (runFn f ctx)) [] := by
  obtain ⟨fa, fd, F, bb⟩ := F
  exact def_ok F bb ⟨fns_get fs, b, fun x v hp => gs (x, v) hp⟩ h
/-- what never answers may be called by any def's name -/
theorem cal_bad {x : Str} {st : Stmt} {ps : List Str} {k : Nat} {N : List Str} (F : ∃ fa fd, C8.Def K mg x st fa fd ∧ L2.Binds K fd ps []) (S : scC N ps (C8.fnScope st) = true) : Cal P w K mg base (k + 1) x (spS ⟨P, w, K⟩ ps.length fun _ _ => .bad) [] := by
  obtain ⟨fa, fd, F, bb⟩ := F
  exact cal0 F bb .nil (fnScope_by S) (fun vs H Q E ⟨_, _, p, _, _, _, v, e, _⟩ => by rw [v.length, e]) fun cdv A outer s H vs Q E room ⟨_, _, _, _, _, _, _, _, e, _⟩ => by cases e
end
end HW
/-! HxE: the law's own head. -/
namespace HW
open PySem PySem.Spec PyProof.Rows L2 C8

section
variable {P : Program} {w : World} {K : PySem.W.Frag} {mg : Str → Option Value} {base : Heap}
/-- def_ok, of the function object that is known -/
theorem def_fn {x : Str} {st : Stmt} {fa : Addr} {fd : FuncData} {ps : List Str} {k : Nat} {G : Ck} {ctx : List Sem} {f : IFun} (F : C8.Def K mg x st fa fd) (gl : Gl0 P w K mg base G ctx k) (h : kF G f st ps = true) :
    FnOk P w K mg base C8.CX0 (k + 1) fa fd ps (spS ⟨P, w, K⟩ ps.length (runFn f ctx)) := by
  unfold kF at h
  simp only [Bool.and_eq_true, decide_eq_true_eq] at h
  obtain ⟨⟨⟨h1, h2⟩, h3⟩, h4⟩ := h
  have S := fnScope_by h1
  refine fn0 F.fn S (fun vs H Q E ⟨L, hh, p, r, h', hr, v, e, _⟩ => by rw [v.length, e]) fun cdv A outer s H vs Q E room ⟨L, hh, p, r, h', hr, v, hn, e, post⟩ => ?_
  let X : Cx := (cxOf C8.CX0 P w K mg base G.N x (fnScope st) fa cdv A outer s H E).nox
  have um : Um X := by
    have := room.un
    show (A.deeper (envOfC x (fnScope st) s.heap.objs.size fa cdv)).units + 100 < cLine
    omega
  have g : Gd G ctx X := ⟨rfl, S.nd, rfl, um, PassesOwn.never, fun f n a q => by
    obtain ⟨m, sem, q1, q2, q3⟩ := gl.fns f n a q
    exact ⟨k, m, sem, q1, room, q2, q3⟩, gl.blt, gl.glb⟩
  have ps' := ss_fin (keep := f.keep) (okSs f.body g S.kind (fun _ => rfl) h2)
  refine ⟨_, ps', L, hh, p.map some ++ List.replicate (G.N.length - p.length) none, r, h', hr, start_er v ?_, ?_, fun x L' H' e' r' v' => ⟨post x L' H' e' r' v', fun ex σ => by subst ex; exact post _ L' H' e' r' v'⟩⟩
  · rw [hn, ← S.pre, List.length_take]
    exact Nat.min_le_right _ _
  · unfold runFn at e
    rw [if_pos (by rw [hn, h4])] at e
    rw [h3, h4, ← hn] at e
    exact e
abbrev LawAt (K : PySem.W.Frag) (mg : Str → Option Value) (st : Stmt) (x : Str) : Prop := ∃ fa fd, C8.Def K mg "law" st fa fd ∧ ∀ (s : Shared) (u : Value), BindsTo s fd ⟨[u], []⟩ [(x, u)]
theorem mkLaw {h : Heap} (X : K.In h) (G : h.Ns mainGlobals mg) {st : Stmt} {y : Str} {f : Addr} {od an : Option Addr} {osl : Array (Option Value)} {oc kV doc pm cdv ct : Value}
    (hb : ∀ (kV doc pm : Value) (an : Option Addr) (cdv ct : Value) (u : Value), bindArgs (PySem.W.fnOf "law" "law" (C8.fnArgs st) (C8.fnBody st) (C8.fnScope st) .none kV doc pm an cdv ct) ⟨[u], []⟩ = pure [(y, u)])
    (a : PySem.W.nsIn K mainGlobals "law" = some (some (.ref f))) (l : K.lookup f = some ⟨oc, od, .func (PySem.W.fnOf "law" "law" (C8.fnArgs st) (C8.fnBody st) (C8.fnScope st) .none kV doc pm an cdv ct), osl⟩) (c : PySem.W.codeIn K cdv "law" = true) (k : PySem.W.keepIn K (.ref f) = true) :
    LawAt K mg st y := by
  have F : C8.Fun K "law" "law" st f (PySem.W.fnOf "law" "law" (C8.fnArgs st) (C8.fnBody st) (C8.fnScope st) .none kV doc pm an cdv ct) := ⟨oc, od, .none, kV, doc, pm, an, cdv, ct, osl, rfl, l, c⟩
  exact ⟨f, _, ⟨F, PySem.W.mg_of X G a, k⟩, fun s u => .of_eq (hb _ _ _ _ _ _ _)⟩
theorem law_fn {st : Stmt} {x : Str} {fa : Addr} {k : Nat} {G : Ck} {ctx : List Sem} {f : IFun} (F : LawAt K mg st x) (hmg : mg "law" = some (.ref fa)) (b : ∀ x ∈ bltNm, mg x = none) (fs : ∀ base, FnsAt P w K mg base k G.fns ctx) (gs : GlbAt mg G.glb) (h : kF G f st [x] = true) :
    ∃ fd : FuncData, (∀ (s : Shared) (u : Value), BindsTo s fd ⟨[u], []⟩ [(x, u)]) ∧ ∀ base : Heap, K.In base → base.Ns mainGlobals mg → FnOk P w K mg base L2.CX0 (k + 1) fa fd [x] (spS ⟨P, w, K⟩ 1 (runFn f ctx)) := by
  obtain ⟨fa', fd, F, bb⟩ := F
  have e := hmg.symm.trans F.mgf
  cases e
  exact ⟨fd, bb, fun base _ _ => def_fn F ⟨fns_get (fs base), b, fun x v hp => gs (x, v) hp⟩ h⟩
end
/-- the law answers True of every script: the promise that the head asks for -/
theorem law_sp {Z : Wd} {H : Hp} {a : Addr} {ns : List Int} {sem : Sem} (hO : Only H) (hS : SqL Z.K H a (ns.map V.int)) {E : XK} {h' : PHeap} (m : sem [.scr ns] [] = .ok (.bl true) h') : spS Z 1 sem [.ref a] H (fun v _ => v = .bl true) E := by
  have nil : HR Z [] [] H := ⟨rfl, .nil, fun n c a h => by simp at h⟩
  have v : VR Z [] H (.scr ns) (.ref a) := by
    rcases hS with h | h
    · rcases h with h | h
      · rcases hO a with q | ⟨o, xs, q⟩
        · rw [q] at h; cases h
        · rw [q] at h; cases h
      · exact .scr h (by simp)
    · exact .scrK fun G => .inr h
  exact ⟨[], [], _, _, _, nil, .cons v .nil, rfl, m, fun x L' H' _ _ v => by cases v; rfl⟩
end HW
namespace K13
open PySem HW
def topS (i : Nat) : Stmt := PySem.Challenge.pw_hollowstead_k13_closed_complexes.main.body.getD i (.Pass ⟨0, 0, 0, 0⟩)
def if_is_integer : IFun := ⟨1, 1, (.cons (.ret (.and (.blt (.isi "int") (.cons (.var 0) .nil)) (.not (.blt (.isi "bool") (.cons (.var 0) .nil))))) .nil), false⟩
def ck_is_integer : Ck := ⟨["value"], [], []⟩
theorem kf_is_integer : kF ck_is_integer if_is_integer (topS 1) ["value"] = true := by decide +kernel
def if_is_face : IFun := ⟨1, 3, (.cons (.ifs (.or (.not (.blt (.isi "tuple") (.cons (.var 0) .nil))) (.or (.cmp .eq (.blt .len (.cons (.var 0) .nil)) (.cst (.int 0))) (.not (.conv .all false (.comp false [1] (.nm 1) (.ex (.var 0)) .nil (.and (.call 0 (.cons (.var 1) .nil)) (.cmp .ge (.var 1) (.cst (.int 0))))))))) (.cons (.ret (.cst (.bl false))) .nil) .nil) (.cons (.ret (.conv .all false (.comp false [1, 2] (.tp [(.nm 1), (.nm 2)]) (.zip (.var 0) (.slice (.var 0) (.some (.cst (.int 1))) .none)) .nil (.cmp .lt (.var 1) (.var 2))))) .nil)), false⟩
def ck_is_face : Ck := ⟨["value", "one", "two"], [("is_integer", 1)], []⟩
theorem kf_is_face : kF ck_is_face if_is_face (topS 2) ["value"] = true := by decide +kernel
def if_parts_of_face : IFun := ⟨1, 4, (.cons (.asg (.tg (.nm 1)) (.lst false (.cons (.tup .nil) .nil))) (.cons (.for_ (.nm 2) (.ex (.var 0)) (.cons (.asg (.tg (.nm 1)) (.bin .add (.var 1) (.comp false [3] (.nm 3) (.ex (.var 1)) .nil (.bin .add (.var 3) (.tup (.cons (.var 2) .nil)))))) .nil)) (.cons (.ret (.slice (.var 1) (.some (.cst (.int 1))) .none)) .nil))), false⟩
def ck_parts_of_face : Ck := ⟨["face", "found", "corner", "one"], [], []⟩
theorem kf_parts_of_face : kF ck_parts_of_face if_parts_of_face (topS 3) ["face"] = true := by decide +kernel
def if_all_faces : IFun := ⟨1, 4, (.cons (.asg (.tg (.nm 1)) (.dct true .nil)) (.cons (.for_ (.nm 2) (.ex (.var 0)) (.cons (.for_ (.nm 3) (.ex (.call 0 (.cons (.var 2) .nil))) (.cons (.asg (.sub (.var 1) (.var 3)) (.cst (.bl true))) .nil)) .nil)) (.cons (.ret (.var 1)) .nil))), false⟩
def ck_all_faces : Ck := ⟨["greatest", "found", "face", "one"], [("parts_of_face", 1)], []⟩
theorem kf_all_faces : kF ck_all_faces if_all_faces (topS 4) ["greatest"] = true := by decide +kernel
def if_faces_of : IFun := ⟨2, 3, (.cons (.ret (.conv .tuple false (.conv .sorted false (.comp false [2] (.nm 2) (.ex (.call 0 (.cons (.var 0) .nil))) (.cons (.cmp .eq (.blt .len (.cons (.var 2) .nil)) (.bin .add (.var 1) (.cst (.int 1)))) .nil) (.var 2))))) .nil), false⟩
def ck_faces_of : Ck := ⟨["shape", "d", "face"], [("all_faces", 1)], []⟩
theorem kf_faces_of : kF ck_faces_of if_faces_of (topS 5) ["shape", "d"] = true := by decide +kernel
def if_dimension : IFun := ⟨1, 2, (.cons (.ret (.bin .sub (.conv .max false (.comp false [1] (.nm 1) (.ex (.var 0)) .nil (.blt .len (.cons (.var 1) .nil)))) (.cst (.int 1)))) .nil), false⟩
def ck_dimension : Ck := ⟨["shape", "face"], [], []⟩
theorem kf_dimension : kF ck_dimension if_dimension (topS 6) ["shape"] = true := by decide +kernel
def if_told : IFun := ⟨1, 3, (.cons (.ret (.conv .tuple false (.conv .sorted false (.comp false [1, 2] (.tp [(.nm 1), (.nm 2)]) (.items (.var 0)) (.cons (.cmp .ne (.var 2) (.cst (.int 0))) .nil) (.tup (.cons (.var 1) (.cons (.var 2) .nil))))))) .nil), false⟩
def ck_told : Ck := ⟨["table", "face", "n"], [], []⟩
theorem kf_told : kF ck_told if_told (topS 8) ["table"] = true := by decide +kernel
def if_is_chain : IFun := ⟨2, 5, (.cons (.ifs (.not (.blt (.isi "tuple") (.cons (.var 0) .nil))) (.cons (.ret (.cst (.bl false))) .nil) .nil) (.cons (.for_ (.nm 2) (.ex (.var 0)) (.cons (.ifs (.or (.not (.blt (.isi "tuple") (.cons (.var 2) .nil))) (.or (.cmp .ne (.blt .len (.cons (.var 2) .nil)) (.cst (.int 2))) (.or (.not (.call 0 (.cons (.sub (.var 2) (.cst (.int 0))) .nil))) (.cmp .notin (.sub (.var 2) (.cst (.int 0))) (.var 1))))) (.cons (.ret (.cst (.bl false))) .nil) .nil) (.cons (.ifs (.or (.not (.call 1 (.cons (.sub (.var 2) (.cst (.int 1))) .nil))) (.cmp .eq (.sub (.var 2) (.cst (.int 1))) (.cst (.int 0)))) (.cons (.ret (.cst (.bl false))) .nil) .nil) .nil))) (.cons (.ret (.conv .all false (.comp false [3, 4] (.tp [(.nm 3), (.nm 4)]) (.zip (.var 0) (.slice (.var 0) (.some (.cst (.int 1))) .none)) .nil (.cmp .lt (.sub (.var 3) (.cst (.int 0))) (.sub (.var 4) (.cst (.int 0))))))) .nil))), false⟩
def ck_is_chain : Ck := ⟨["value", "known", "pair", "one", "two"], [("is_face", 1), ("is_integer", 1)], []⟩
theorem kf_is_chain : kF ck_is_chain if_is_chain (topS 9) ["value", "known"] = true := by decide +kernel
def if_sides_of : IFun := ⟨1, 2, (.cons (.ifs (.cmp .eq (.blt .len (.cons (.var 0) .nil)) (.cst (.int 1))) (.cons (.ret (.lst false .nil)) .nil) .nil) (.cons (.ret (.comp false [1] (.nm 1) (.rng1 (.blt .len (.cons (.var 0) .nil))) .nil (.tup (.cons (.bin .add (.slice (.var 0) .none (.some (.var 1))) (.slice (.var 0) (.some (.bin .add (.var 1) (.cst (.int 1)))) .none)) (.cons (.bin .sub (.cst (.int 1)) (.bin .mul (.cst (.int 2)) (.bin .mod (.var 1) (.cst (.int 2))))) .nil))))) .nil)), false⟩
def ck_sides_of : Ck := ⟨["face", "k"], [], []⟩
theorem kf_sides_of : kF ck_sides_of if_sides_of (topS 10) ["face"] = true := by decide +kernel
def if_boundary : IFun := ⟨1, 6, (.cons (.asg (.tg (.nm 1)) (.dct true .nil)) (.cons (.for_ (.tp [(.nm 2), (.nm 3)]) (.ex (.var 0)) (.cons (.for_ (.tp [(.nm 4), (.nm 5)]) (.ex (.call 0 (.cons (.var 2) .nil))) (.cons (.asg (.sub (.var 1) (.var 4)) (.bin .add (.meth .dget (.var 1) (.cons (.var 4) (.cons (.cst (.int 0)) .nil))) (.bin .mul (.var 5) (.var 3)))) .nil)) .nil)) (.cons (.ret (.call 1 (.cons (.var 1) .nil))) .nil))), false⟩
def ck_boundary : Ck := ⟨["chain", "found", "face", "n", "side", "sign"], [("sides_of", 1), ("told", 1)], []⟩
theorem kf_boundary : kF ck_boundary if_boundary (topS 11) ["chain"] = true := by decide +kernel
def if_around : IFun := ⟨1, 5, (.cons (.asg (.tg (.nm 1)) (.dcomp true [2] (.nm 2) (.ex (.call 0 (.cons (.var 0) (.cons (.bin .sub (.call 1 (.cons (.var 0) .nil)) (.cst (.int 1))) .nil)))) .nil (.var 2) (.lst true .nil))) (.cons (.for_ (.nm 2) (.ex (.var 0)) (.cons (.for_ (.tp [(.nm 3), (.nm 4)]) (.ex (.call 2 (.cons (.var 2) .nil))) (.cons (.ifs (.cmp .isin (.var 3) (.var 1)) (.cons (.expr (.meth .lapp (.sub (.var 1) (.var 3)) (.cons (.tup (.cons (.var 2) (.cons (.var 4) .nil))) .nil))) .nil) .nil) .nil)) .nil)) (.cons (.ret (.var 1)) .nil))), false⟩
def ck_around : Ck := ⟨["shape", "found", "face", "side", "sign"], [("faces_of", 2), ("dimension", 1), ("sides_of", 1)], []⟩
theorem kf_around : kF ck_around if_around (topS 13) ["shape"] = true := by decide +kernel
def if_opening : IFun := ⟨1, 7, (.cons (.asg (.tg (.nm 1)) (.call 0 (.cons (.var 0) .nil))) (.cons (.asg (.tg (.nm 2)) (.comp false [4] (.nm 4) (.ex (.var 0)) (.cons (.cmp .lt (.blt .len (.cons (.var 4) .nil)) (.bin .add (.var 1) (.cst (.int 1)))) .nil) (.var 4))) (.cons (.ifs (.var 2) (.cons (.ret (.sub (.var 2) (.cst (.int 0)))) .nil) .nil) (.cons (.ifs (.cmp .eq (.var 1) (.cst (.int 0))) (.cons (.ret (.sub (.var 0) (.cst (.int 0)))) .nil) .nil) (.cons (.asg (.tg (.nm 3)) (.comp false [5, 6] (.tp [(.nm 5), (.nm 6)]) (.ex (.conv .sortedItems false (.call 1 (.cons (.var 0) .nil)))) (.cons (.cmp .ne (.blt .len (.cons (.var 6) .nil)) (.cst (.int 2))) .nil) (.var 5))) (.cons (.ret (.ife (.var 3) (.sub (.var 3) (.cst (.int 0))) (.cst .non))) .nil)))))), false⟩
def ck_opening : Ck := ⟨["shape", "d", "low", "fits", "face", "side", "faces"], [("dimension", 1), ("around", 1)], []⟩
theorem kf_opening : kF ck_opening if_opening (topS 14) ["shape"] = true := by decide +kernel
def if_steps_of : IFun := ⟨1, 9, (.cons (.asg (.tg (.nm 1)) (.dcomp true [3] (.nm 3) (.ex (.var 0)) .nil (.var 3) (.lst true .nil))) (.cons (.for_ (.tp [(.nm 2), (.tp [(.tp [(.nm 4), (.nm 5)]), (.tp [(.nm 6), (.nm 7)])])]) (.items (.call 0 (.cons (.var 0) .nil))) (.cons (.expr (.meth .lapp (.sub (.var 1) (.var 4)) (.cons (.tup (.cons (.var 6) (.cons (.cmp .eq (.var 5) (.var 7)) .nil))) .nil))) (.cons (.expr (.meth .lapp (.sub (.var 1) (.var 6)) (.cons (.tup (.cons (.var 4) (.cons (.cmp .eq (.var 5) (.var 7)) .nil))) .nil))) .nil))) (.cons (.ret (.dcomp false [3, 8] (.tp [(.nm 3), (.nm 8)]) (.items (.var 1)) .nil (.var 3) (.conv .sorted false (.var 8)))) .nil))), false⟩
def ck_steps_of : Ck := ⟨["shape", "found", "side", "face", "one", "sign", "two", "other", "row"], [("around", 1)], []⟩
theorem kf_steps_of : kF ck_steps_of if_steps_of (topS 15) ["shape"] = true := by decide +kernel
def if_closed_paper : IFun := ⟨1, 12, (.cons (.asg (.tg (.nm 1)) (.call 0 (.cons (.var 0) .nil))) (.cons (.ifs (.cmp .isnot (.var 1) (.cst .non)) (.cons (.ret (.tup (.cons (.cst (.str (Str.ofString "open"))) (.cons (.var 1) .nil)))) .nil) .nil) (.cons (.asg (.tg (.nm 2)) (.call 1 (.cons (.var 0) .nil))) (.cons (.asg (.tg (.nm 3)) (.dct true .nil)) (.cons (.asg (.tg (.nm 4)) (.dct true .nil)) (.cons (.for_ (.nm 5) (.ex (.var 0)) (.cons (.ifs (.cmp .isin (.var 5) (.var 3)) (.cons .cont .nil) .nil) (.cons (.par [(.sub (.var 3) (.var 5)), (.sub (.var 4) (.var 5))] (.cons (.cst (.int 1)) (.cons (.tup (.cons (.var 5) .nil)) .nil))) (.cons (.asg (.tg (.nm 6)) (.lst true (.cons (.var 5) .nil))) (.cons (.asg (.tg (.nm 7)) (.cst (.int 0))) (.cons (.while_ 1000 (.cmp .lt (.var 7) (.blt .len (.cons (.var 6) .nil))) (.cons (.asg (.tg (.nm 8)) (.sub (.var 6) (.var 7))) (.cons (.aug 7 .add (.cst (.int 1))) (.cons (.for_ (.tp [(.nm 9), (.nm 10)]) (.ex (.sub (.var 2) (.var 8))) (.cons (.asg (.tg (.nm 11)) (.ife (.var 10) (.neg (.sub (.var 3) (.var 8))) (.sub (.var 3) (.var 8)))) (.cons (.ifs (.cmp .notin (.var 9) (.var 3)) (.cons (.par [(.sub (.var 3) (.var 9)), (.sub (.var 4) (.var 9))] (.cons (.var 11) (.cons (.bin .add (.sub (.var 4) (.var 8)) (.tup (.cons (.var 9) .nil))) .nil))) (.cons (.expr (.meth .lapp (.var 6) (.cons (.var 9) .nil))) .nil)) (.cons (.ifs (.cmp .ne (.sub (.var 3) (.var 9)) (.var 11)) (.cons (.ret (.tup (.cons (.cst (.str (Str.ofString "turned"))) (.cons (.bin .add (.sub (.var 4) (.var 8)) (.rev (.sub (.var 4) (.var 9)) (.neg (.cst (.int 1))))) .nil)))) .nil) .nil) .nil)) .nil))) .nil)))) .nil)))))) (.cons (.ret (.tup (.cons (.cst (.str (Str.ofString "cycle"))) (.cons (.conv .tuple false (.conv .sortedItems false (.var 3))) .nil)))) .nil))))))), false⟩
def ck_closed_paper : Ck := ⟨["shape", "face", "near", "signs", "ways", "first", "order", "at", "here", "other", "turns", "sign"], [("opening", 1), ("steps_of", 1)], []⟩
theorem kf_closed_paper : kF ck_closed_paper if_closed_paper (topS 16) ["shape"] = true := by decide +kernel
def if_is_opening : IFun := ⟨2, 7, (.cons (.asg (.tg (.nm 2)) (.call 0 (.cons (.var 0) .nil))) (.cons (.ifs (.not (.blt (.isi "tuple") (.cons (.var 1) .nil))) (.cons (.ret (.cst (.bl false))) .nil) .nil) (.cons (.ifs (.conv .any false (.comp false [4] (.nm 4) (.ex (.var 0)) .nil (.cmp .lt (.blt .len (.cons (.var 4) .nil)) (.bin .add (.var 2) (.cst (.int 1)))))) (.cons (.ret (.cmp .isin (.var 1) (.comp false [4] (.nm 4) (.ex (.var 0)) (.cons (.cmp .lt (.blt .len (.cons (.var 4) .nil)) (.bin .add (.var 2) (.cst (.int 1)))) .nil) (.var 4)))) .nil) .nil) (.cons (.ifs (.cmp .eq (.var 2) (.cst (.int 0))) (.cons (.ret (.cmp .isin (.var 1) (.var 0))) .nil) .nil) (.cons (.asg (.tg (.nm 3)) (.call 1 (.cons (.var 0) .nil))) (.cons (.ret (.conv .any false (.comp false [5, 6] (.tp [(.nm 5), (.nm 6)]) (.items (.var 3)) .nil (.and (.cmp .eq (.var 1) (.var 5)) (.cmp .ne (.blt .len (.cons (.var 6) .nil)) (.cst (.int 2))))))) .nil)))))), false⟩
def ck_is_opening : Ck := ⟨["shape", "face", "d", "rows", "one", "side", "faces"], [("dimension", 1), ("around", 1)], []⟩
theorem kf_is_opening : kF ck_is_opening if_is_opening (topS 17) ["shape", "face"] = true := by decide +kernel
def if_is_turned : IFun := ⟨2, 8, (.cons (.ifs (.or (.not (.blt (.isi "tuple") (.cons (.var 1) .nil))) (.or (.cmp .lt (.blt .len (.cons (.var 1) .nil)) (.cst (.int 2))) (.not (.conv .all false (.comp false [4] (.nm 4) (.ex (.var 1)) .nil (.and (.blt (.isi "tuple") (.cons (.var 4) .nil)) (.cmp .isin (.var 4) (.var 0)))))))) (.cons (.ret (.cst (.bl false))) .nil) .nil) (.cons (.ifs (.cmp .ne (.sub (.var 1) (.cst (.int 0))) (.sub (.var 1) (.neg (.cst (.int 1))))) (.cons (.ret (.cst (.bl false))) .nil) .nil) (.cons (.asg (.tg (.nm 2)) (.dcomp false [6, 7] (.tp [(.nm 6), (.nm 7)]) (.items (.call 0 (.cons (.var 0) .nil))) .nil (.var 6) (.conv .dict false (.var 7)))) (.cons (.asg (.tg (.nm 3)) (.cst (.int 0))) (.cons (.for_ (.tp [(.nm 4), (.nm 5)]) (.zip (.var 1) (.slice (.var 1) (.some (.cst (.int 1))) .none)) (.cons (.ifs (.cmp .notin (.var 5) (.sub (.var 2) (.var 4))) (.cons (.ret (.cst (.bl false))) .nil) .nil) (.cons (.aug 3 .add (.blt .int (.cons (.sub (.sub (.var 2) (.var 4)) (.var 5)) .nil))) .nil))) (.cons (.ret (.cmp .eq (.bin .mod (.var 3) (.cst (.int 2))) (.cst (.int 1)))) .nil)))))), false⟩
def ck_is_turned : Ck := ⟨["shape", "row", "near", "turns", "one", "two", "face", "steps"], [("steps_of", 1)], []⟩
theorem kf_is_turned : kF ck_is_turned if_is_turned (topS 18) ["shape", "row"] = true := by decide +kernel
def if_judge_closed : IFun := ⟨2, 5, (.cons (.ifs (.or (.not (.blt (.isi "tuple") (.cons (.var 1) .nil))) (.or (.cmp .ne (.blt .len (.cons (.var 1) .nil)) (.cst (.int 2))) (.not (.blt (.isi "str") (.cons (.sub (.var 1) (.cst (.int 0))) .nil))))) (.cons (.ret (.cst (.bl false))) .nil) .nil) (.cons (.ifs (.cmp .eq (.sub (.var 1) (.cst (.int 0))) (.cst (.str (Str.ofString "open")))) (.cons (.ret (.and (.call 1 (.cons (.sub (.var 1) (.cst (.int 1))) .nil)) (.call 0 (.cons (.var 0) (.cons (.sub (.var 1) (.cst (.int 1))) .nil))))) .nil) .nil) (.cons (.ifs (.cmp .isnot (.call 2 (.cons (.var 0) .nil)) (.cst .non)) (.cons (.ret (.cst (.bl false))) .nil) .nil) (.cons (.ifs (.cmp .eq (.sub (.var 1) (.cst (.int 0))) (.cst (.str (Str.ofString "turned")))) (.cons (.ret (.and (.blt (.isi "tuple") (.cons (.sub (.var 1) (.cst (.int 1))) .nil)) (.and (.conv .all false (.comp false [2] (.nm 2) (.ex (.sub (.var 1) (.cst (.int 1)))) .nil (.call 1 (.cons (.var 2) .nil)))) (.call 3 (.cons (.var 0) (.cons (.sub (.var 1) (.cst (.int 1))) .nil)))))) .nil) .nil) (.cons (.ifs (.or (.cmp .ne (.sub (.var 1) (.cst (.int 0))) (.cst (.str (Str.ofString "cycle")))) (.not (.call 4 (.cons (.sub (.var 1) (.cst (.int 1))) (.cons (.dcomp false [3] (.nm 3) (.ex (.var 0)) .nil (.var 3) (.cst (.bl true))) .nil))))) (.cons (.ret (.cst (.bl false))) .nil) .nil) (.cons (.ifs (.or (.cmp .ne (.blt .len (.cons (.sub (.var 1) (.cst (.int 1))) .nil)) (.blt .len (.cons (.var 0) .nil))) (.conv .any false (.comp false [3, 4] (.tp [(.nm 3), (.nm 4)]) (.ex (.sub (.var 1) (.cst (.int 1)))) .nil (.cmp .notin (.var 4) (.tup (.cons (.cst (.int 1)) (.cons (.neg (.cst (.int 1))) .nil))))))) (.cons (.ret (.cst (.bl false))) .nil) .nil) (.cons (.ret (.cmp .eq (.call 5 (.cons (.sub (.var 1) (.cst (.int 1))) .nil)) (.tup .nil))) .nil))))))), false⟩
def ck_judge_closed : Ck := ⟨["shape", "value", "one", "face", "n"], [("is_opening", 2), ("is_plain", 1), ("opening", 1), ("is_turned", 2), ("is_chain", 2), ("boundary", 1)], []⟩
theorem kf_judge_closed : kF ck_judge_closed if_judge_closed (topS 19) ["shape", "value"] = true := by decide +kernel
def if_is_plain : IFun := ⟨1, 2, (.cons (.ret (.and (.blt (.isi "tuple") (.cons (.var 0) .nil)) (.conv .all false (.comp false [1] (.nm 1) (.ex (.var 0)) .nil (.and (.blt (.isi "int") (.cons (.var 1) .nil)) (.not (.blt (.isi "bool") (.cons (.var 1) .nil)))))))) .nil), false⟩
def ck_is_plain : Ck := ⟨["value", "one"], [], []⟩
theorem kf_is_plain : kF ck_is_plain if_is_plain (topS 20) ["value"] = true := by decide +kernel
def if__law_start : IFun := ⟨1, 2, (.cons (.ret (.lst true (.cons (.comp false [1] (.nm 1) (.ex (.slice (.var 0) .none (.some (.cst (.int 63))))) .nil (.blt .int (.cons (.var 1) .nil))) (.cons (.cst (.int 0)) (.cons (.cst (.int 0)) (.cons (.cst (.int 0)) (.cons (.cst (.int 20)) .nil))))))) .nil), true⟩
def ck__law_start : Ck := ⟨["script", "cell"], [], []⟩
theorem kf__law_start : kF ck__law_start if__law_start (topS 22) ["script"] = true := by decide +kernel
def if__law_fill : IFun := ⟨1, 2, (.cons (.asg (.sub (.var 0) (.cst (.int 3))) (.bin .add (.sub (.var 0) (.cst (.int 3))) (.cst (.int 1)))) (.cons (.asg (.tg (.nm 1)) (.bin .add (.bin .mul (.sub (.var 0) (.cst (.int 3))) (.cst (.int 69621))) (.cst (.int 12345)))) (.cons (.ifs (.cmp .lt (.sub (.var 0) (.cst (.int 1))) (.blt .len (.cons (.sub (.var 0) (.cst (.int 0))) .nil))) (.cons (.asg (.tg (.nm 1)) (.sub (.sub (.var 0) (.cst (.int 0))) (.sub (.var 0) (.cst (.int 1))))) (.cons (.asg (.sub (.var 0) (.cst (.int 1))) (.bin .add (.sub (.var 0) (.cst (.int 1))) (.cst (.int 1)))) (.cons (.ifs (.cmp .lt (.var 1) (.cst (.int 0))) (.cons (.asg (.tg (.nm 1)) (.bin .sub (.bin .sub (.cst (.int 0)) (.cst (.int 1))) (.var 1))) .nil) .nil) (.cons (.ifs (.cmp .ge (.var 1) (.bin .pow (.cst (.int 10)) (.cst (.int 18)))) (.cons (.ret (.var 1)) .nil) .nil) .nil)))) .nil) (.cons (.ifs (.and (.sub (.var 0) (.cst (.int 0))) (.cmp .ge (.sub (.var 0) (.cst (.int 1))) (.blt .len (.cons (.sub (.var 0) (.cst (.int 0))) .nil)))) (.cons (.asg (.tg (.nm 1)) (.bin .add (.var 1) (.bin .mod (.blt .int (.cons (.sub (.sub (.var 0) (.cst (.int 0))) (.neg (.cst (.int 1)))) .nil)) (.cst (.int 1000003))))) .nil) .nil) (.cons (.asg (.tg (.nm 1)) (.bin .mod (.blt .int (.cons (.bin .add (.bin .mul (.var 1) (.cst (.int 48271))) (.bin .mul (.sub (.var 0) (.cst (.int 3))) (.cst (.int 69621)))) .nil)) (.cst (.int 2147483647)))) (.cons (.ret (.bin .add (.bin .fdiv (.blt .int (.cons (.bin .add (.bin .add (.bin .mul (.var 1) (.var 1)) (.bin .mul (.sub (.var 0) (.cst (.int 3))) (.cst (.int 7919)))) (.cst (.int 11))) .nil)) (.cst (.int 64))) (.cst (.int 36028797018963968)))) .nil)))))), false⟩
def ck__law_fill : Ck := ⟨["c", "number"], [], []⟩
theorem kf__law_fill : kF ck__law_fill if__law_fill (topS 23) ["c"] = true := by decide +kernel
def if__law_take : IFun := ⟨2, 3, (.cons (.ifs (.cmp .lt (.sub (.var 0) (.cst (.int 2))) (.var 1)) (.cons (.asg (.sub (.var 0) (.cst (.int 2))) (.call 0 (.cons (.var 0) .nil))) .nil) .nil) (.cons (.asg (.tg (.nm 2)) (.bin .mod (.blt .int (.cons (.sub (.var 0) (.cst (.int 2))) .nil)) (.var 1))) (.cons (.asg (.sub (.var 0) (.cst (.int 2))) (.bin .fdiv (.sub (.var 0) (.cst (.int 2))) (.var 1))) (.cons (.ret (.var 2)) .nil)))), false⟩
def ck__law_take : Ck := ⟨["c", "many", "digit"], [("_law_fill", 1)], []⟩
theorem kf__law_take : kF ck__law_take if__law_take (topS 24) ["c", "many"] = true := by decide +kernel
def if__law_is_int : IFun := ⟨1, 1, (.cons (.ret (.and (.blt (.isi "int") (.cons (.var 0) .nil)) (.not (.blt (.isi "bool") (.cons (.var 0) .nil))))) .nil), false⟩
def ck__law_is_int : Ck := ⟨["value"], [], []⟩
theorem kf__law_is_int : kF ck__law_is_int if__law_is_int (topS 25) ["value"] = true := by decide +kernel
def if__law_alike : IFun := ⟨2, 3, (.cons (.ifs (.blt (.isi "tuple") (.cons (.var 1) .nil)) (.cons (.ret (.and (.blt (.isi "tuple") (.cons (.var 0) .nil)) (.and (.cmp .eq (.blt .len (.cons (.var 0) .nil)) (.blt .len (.cons (.var 1) .nil))) (.conv .all false (.comp false [2] (.nm 2) (.rng1 (.blt .len (.cons (.var 1) .nil))) .nil (.call 0 (.cons (.sub (.var 0) (.var 2)) (.cons (.sub (.var 1) (.var 2)) .nil)))))))) .nil) .nil) (.cons (.ifs (.cmp .is (.var 1) (.cst .non)) (.cons (.ret (.cmp .is (.var 0) (.cst .non))) .nil) .nil) (.cons (.ifs (.or (.blt (.isi "bool") (.cons (.var 0) .nil)) (.cmp .ne (.blt (.isi "str") (.cons (.var 0) .nil)) (.blt (.isi "str") (.cons (.var 1) .nil)))) (.cons (.ret (.cst (.bl false))) .nil) .nil) (.cons (.ret (.and (.blt (.isiT ["int", "str"]) (.cons (.var 0) .nil)) (.cmp .eq (.var 0) (.var 1)))) .nil)))), false⟩
def ck__law_alike : Ck := ⟨["value", "due", "k"], [("_law_alike", 2)], []⟩
theorem kf__law_alike : kF ck__law_alike if__law_alike (topS 26) ["value", "due"] = true := by decide +kernel
def if__law_spoilt : IFun := ⟨2, 3, (.cons (.ifs (.blt (.isi "str") (.cons (.var 1) .nil)) (.cons (.ret (.sub (.lst false (.cons (.cst (.str (Str.ofString ""))) (.cons (.cst (.str (Str.ofString "way"))) (.cons (.cst (.str (Str.ofString "apart"))) (.cons (.cst (.str (Str.ofString "open"))) (.cons (.cst (.str (Str.ofString "turned"))) (.cons (.cst (.str (Str.ofString "cycle"))) (.cons (.cst (.str (Str.ofString "smith"))) (.cons (.cst (.str (Str.ofString "holes"))) (.cons (.cst (.str (Str.ofString "fills"))) (.cons (.cst (.str (Str.ofString "bars"))) (.cons (.cst (.str (Str.ofString "comes"))) .nil)))))))))))) (.call 0 (.cons (.var 0) (.cons (.cst (.int 11)) .nil))))) .nil) .nil) (.cons (.ifs (.not (.blt (.isi "tuple") (.cons (.var 1) .nil))) (.cons (.ret (.sub (.lst false (.cons (.cst (.int 0)) (.cons (.cst (.int 1)) (.cons (.cst (.int 2)) (.cons (.neg (.cst (.int 1))) (.cons (.cst (.bl true)) (.cons (.cst .non) (.cons (.cst (.int 3)) .nil)))))))) (.call 0 (.cons (.var 0) (.cons (.cst (.int 7)) .nil))))) .nil) .nil) (.cons (.ifs (.or (.not (.var 1)) (.cmp .eq (.call 0 (.cons (.var 0) (.cons (.cst (.int 5)) .nil))) (.cst (.int 0)))) (.cons (.ret (.sub (.lst false (.cons (.slice (.var 1) (.some (.cst (.int 1))) .none) (.cons (.slice (.var 1) .none (.some (.neg (.cst (.int 1))))) (.cons (.bin .add (.var 1) (.slice (.var 1) (.some (.neg (.cst (.int 1)))) .none)) (.cons (.rev (.var 1) (.neg (.cst (.int 1)))) (.cons (.conv .list false (.var 1)) (.cons (.bin .add (.var 1) (.tup (.cons (.cst (.int 0)) .nil))) (.cons (.tup .nil) (.cons (.tup (.cons (.cst (.int 1)) (.cons (.cst (.int 0)) .nil))) .nil))))))))) (.call 0 (.cons (.var 0) (.cons (.cst (.int 8)) .nil))))) .nil) .nil) (.cons (.asg (.tg (.nm 2)) (.call 0 (.cons (.var 0) (.cons (.blt .len (.cons (.var 1) .nil)) .nil)))) (.cons (.ret (.bin .add (.bin .add (.slice (.var 1) .none (.some (.var 2))) (.tup (.cons (.call 1 (.cons (.var 0) (.cons (.sub (.var 1) (.var 2)) .nil))) .nil))) (.slice (.var 1) (.some (.bin .add (.var 2) (.cst (.int 1)))) .none))) .nil))))), false⟩
def ck__law_spoilt : Ck := ⟨["c", "value", "k"], [("_law_take", 2), ("_law_spoilt", 2)], []⟩
theorem kf__law_spoilt : kF ck__law_spoilt if__law_spoilt (topS 27) ["c", "value"] = true := by decide +kernel
def if__law_bent : IFun := ⟨3, 4, (.cons (.for_ (.nm 3) (.rng1 (.bin .mul (.blt .int (.cons (.cmp .gt (.var 2) (.cst (.int 0))) .nil)) (.bin .add (.cst (.int 1)) (.call 0 (.cons (.var 0) (.cons (.cst (.int 2)) .nil)))))) (.cons (.asg (.tg (.nm 1)) (.call 1 (.cons (.var 0) (.cons (.var 1) .nil)))) .nil)) (.cons (.ret (.var 1)) .nil)), false⟩
def ck__law_bent : Ck := ⟨["c", "value", "turn", "k"], [("_law_take", 2), ("_law_spoilt", 2)], []⟩
theorem kf__law_bent : kF ck__law_bent if__law_bent (topS 28) ["c", "value", "turn"] = true := by decide +kernel
def if__law_parts_of : IFun := ⟨1, 4, (.cons (.asg (.tg (.nm 1)) (.lst false (.cons (.tup .nil) .nil))) (.cons (.for_ (.nm 2) (.ex (.var 0)) (.cons (.asg (.tg (.nm 1)) (.bin .add (.var 1) (.comp false [3] (.nm 3) (.ex (.var 1)) .nil (.bin .add (.var 3) (.tup (.cons (.var 2) .nil)))))) .nil)) (.cons (.ret (.comp false [3] (.nm 3) (.ex (.var 1)) (.cons (.var 3) .nil) (.var 3))) .nil))), false⟩
def ck__law_parts_of : Ck := ⟨["face", "found", "corner", "one"], [], []⟩
theorem kf__law_parts_of : kF ck__law_parts_of if__law_parts_of (topS 29) ["face"] = true := by decide +kernel
def if__law_faces : IFun := ⟨1, 4, (.cons (.asg (.tg (.nm 1)) (.dct true .nil)) (.cons (.for_ (.nm 2) (.ex (.var 0)) (.cons (.for_ (.nm 3) (.ex (.call 0 (.cons (.var 2) .nil))) (.cons (.asg (.sub (.var 1) (.var 3)) (.cst (.bl true))) .nil)) .nil)) (.cons (.ret (.conv .sorted false (.var 1))) .nil))), false⟩
def ck__law_faces : Ck := ⟨["shape", "found", "face", "one"], [("_law_parts_of", 1)], []⟩
theorem kf__law_faces : kF ck__law_faces if__law_faces (topS 30) ["shape"] = true := by decide +kernel
def if__law_level : IFun := ⟨2, 3, (.cons (.ret (.comp false [2] (.nm 2) (.ex (.call 0 (.cons (.var 0) .nil))) (.cons (.cmp .eq (.blt .len (.cons (.var 2) .nil)) (.bin .add (.var 1) (.cst (.int 1)))) .nil) (.var 2))) .nil), false⟩
def ck__law_level : Ck := ⟨["shape", "d", "face"], [("_law_faces", 1)], []⟩
theorem kf__law_level : kF ck__law_level if__law_level (topS 31) ["shape", "d"] = true := by decide +kernel
def if__law_inside : IFun := ⟨2, 3, (.cons (.ret (.conv .all false (.comp false [2] (.nm 2) (.ex (.var 0)) .nil (.cmp .isin (.var 2) (.var 1))))) .nil), false⟩
def ck__law_inside : Ck := ⟨["one", "two", "k"], [], []⟩
theorem kf__law_inside : kF ck__law_inside if__law_inside (topS 32) ["one", "two"] = true := by decide +kernel
def if__law_greatest : IFun := ⟨1, 4, (.cons (.asg (.tg (.nm 1)) (.conv .sortedSet false (.var 0))) (.cons (.ret (.conv .tuple false (.comp false [2] (.nm 2) (.ex (.var 1)) (.cons (.not (.conv .any false (.comp false [3] (.nm 3) (.ex (.var 1)) .nil (.and (.cmp .ne (.var 2) (.var 3)) (.call 0 (.cons (.var 2) (.cons (.var 3) .nil))))))) .nil) (.var 2)))) .nil)), false⟩
def ck__law_greatest : Ck := ⟨["faces", "rows", "one", "two"], [("_law_inside", 2)], []⟩
theorem kf__law_greatest : kF ck__law_greatest if__law_greatest (topS 33) ["faces"] = true := by decide +kernel
def if__law_plane : IFun := ⟨0, 0, (.cons (.ret (.tup (.cons (.tup (.cons (.cst (.int 0)) (.cons (.cst (.int 1)) (.cons (.cst (.int 4)) .nil)))) (.cons (.tup (.cons (.cst (.int 0)) (.cons (.cst (.int 1)) (.cons (.cst (.int 5)) .nil)))) (.cons (.tup (.cons (.cst (.int 0)) (.cons (.cst (.int 2)) (.cons (.cst (.int 3)) .nil)))) (.cons (.tup (.cons (.cst (.int 0)) (.cons (.cst (.int 2)) (.cons (.cst (.int 5)) .nil)))) (.cons (.tup (.cons (.cst (.int 0)) (.cons (.cst (.int 3)) (.cons (.cst (.int 4)) .nil)))) (.cons (.tup (.cons (.cst (.int 1)) (.cons (.cst (.int 2)) (.cons (.cst (.int 3)) .nil)))) (.cons (.tup (.cons (.cst (.int 1)) (.cons (.cst (.int 2)) (.cons (.cst (.int 4)) .nil)))) (.cons (.tup (.cons (.cst (.int 1)) (.cons (.cst (.int 3)) (.cons (.cst (.int 5)) .nil)))) (.cons (.tup (.cons (.cst (.int 2)) (.cons (.cst (.int 4)) (.cons (.cst (.int 5)) .nil)))) (.cons (.tup (.cons (.cst (.int 3)) (.cons (.cst (.int 4)) (.cons (.cst (.int 5)) .nil)))) .nil)))))))))))) .nil), false⟩
def ck__law_plane : Ck := ⟨[], [], []⟩
theorem kf__law_plane : kF ck__law_plane if__law_plane (topS 34) [] = true := by decide +kernel
def if__law_shape : IFun := ⟨1, 6, (.cons (.asg (.tg (.nm 1)) (.call 0 (.cons (.var 0) (.cons (.cst (.int 8)) .nil)))) (.cons (.ifs (.cmp .eq (.var 1) (.cst (.int 0))) (.cons (.ret (.call 1 .nil)) .nil) .nil) (.cons (.ifs (.cmp .eq (.var 1) (.cst (.int 1))) (.cons (.ret (.tup (.cons (.tup (.cons (.cst (.int 0)) (.cons (.cst (.int 1)) (.cons (.cst (.int 2)) .nil)))) (.cons (.tup (.cons (.cst (.int 0)) (.cons (.cst (.int 1)) (.cons (.cst (.int 3)) .nil)))) (.cons (.tup (.cons (.cst (.int 0)) (.cons (.cst (.int 2)) (.cons (.cst (.int 3)) .nil)))) (.cons (.tup (.cons (.cst (.int 1)) (.cons (.cst (.int 2)) (.cons (.cst (.int 3)) .nil)))) .nil)))))) .nil) .nil) (.cons (.asg (.tg (.nm 2)) (.bin .add (.cst (.int 1)) (.call 0 (.cons (.var 0) (.cons (.cst (.int 5)) .nil))))) (.cons (.asg (.tg (.nm 3)) (.comp true [5] (.nm 5) (.rng1 (.var 2)) .nil (.tup (.cons (.var 5) .nil)))) (.cons (.for_ (.nm 4) (.ex (.call 2 (.cons (.convI .tuple false (.rng1 (.var 2))) .nil))) (.cons (.ifs (.and (.cmp2 .lt .lt (.cst (.int 1)) (.blt .len (.cons (.var 4) .nil)) (.cst (.int 5))) (.cmp .eq (.call 0 (.cons (.var 0) (.cons (.sub (.lst false (.cons (.cst (.int 3)) (.cons (.cst (.int 2)) (.cons (.cst (.int 3)) (.cons (.cst (.int 4)) (.cons (.cst (.int 4)) .nil)))))) (.blt .len (.cons (.var 4) .nil))) .nil))) (.cst (.int 0)))) (.cons (.expr (.meth .lapp (.var 3) (.cons (.var 4) .nil))) .nil) .nil) .nil)) (.cons (.ret (.call 3 (.cons (.var 3) .nil))) .nil))))))), false⟩
def ck__law_shape : Ck := ⟨["c", "kind", "n", "faces", "face", "k"], [("_law_take", 2), ("_law_plane", 0), ("_law_parts_of", 1), ("_law_greatest", 1)], []⟩
theorem kf__law_shape : kF ck__law_shape if__law_shape (topS 35) ["c"] = true := by decide +kernel
def if__law_sides : IFun := ⟨1, 2, (.cons (.ifs (.cmp .eq (.blt .len (.cons (.var 0) .nil)) (.cst (.int 1))) (.cons (.ret (.lst false .nil)) .nil) .nil) (.cons (.ret (.comp false [1] (.nm 1) (.rng1 (.blt .len (.cons (.var 0) .nil))) .nil (.tup (.cons (.bin .add (.slice (.var 0) .none (.some (.var 1))) (.slice (.var 0) (.some (.bin .add (.var 1) (.cst (.int 1)))) .none)) (.cons (.bin .sub (.cst (.int 1)) (.bin .mul (.cst (.int 2)) (.bin .mod (.var 1) (.cst (.int 2))))) .nil))))) .nil)), false⟩
def ck__law_sides : Ck := ⟨["face", "k"], [], []⟩
theorem kf__law_sides : kF ck__law_sides if__law_sides (topS 36) ["face"] = true := by decide +kernel
def if__law_chain : IFun := ⟨1, 2, (.cons (.ret (.conv .tuple false (.conv .sorted false (.comp false [1] (.nm 1) (.ex (.var 0)) (.cons (.cmp .ne (.sub (.var 0) (.var 1)) (.cst (.int 0))) .nil) (.tup (.cons (.var 1) (.cons (.sub (.var 0) (.var 1)) .nil))))))) .nil), false⟩
def ck__law_chain : Ck := ⟨["table", "face"], [], []⟩
theorem kf__law_chain : kF ck__law_chain if__law_chain (topS 37) ["table"] = true := by decide +kernel
def if__law_boundary : IFun := ⟨1, 6, (.cons (.asg (.tg (.nm 1)) (.dct true .nil)) (.cons (.for_ (.tp [(.nm 2), (.nm 3)]) (.ex (.var 0)) (.cons (.for_ (.tp [(.nm 4), (.nm 5)]) (.ex (.call 0 (.cons (.var 2) .nil))) (.cons (.asg (.sub (.var 1) (.var 4)) (.bin .add (.meth .dget (.var 1) (.cons (.var 4) (.cons (.cst (.int 0)) .nil))) (.bin .mul (.var 5) (.var 3)))) .nil)) .nil)) (.cons (.ret (.call 1 (.cons (.var 1) .nil))) .nil))), false⟩
def ck__law_boundary : Ck := ⟨["chain", "found", "face", "n", "side", "sign"], [("_law_sides", 1), ("_law_chain", 1)], []⟩
theorem kf__law_boundary : kF ck__law_boundary if__law_boundary (topS 38) ["chain"] = true := by decide +kernel
def if__law_value : IFun := ⟨2, 5, (.cons (.asg (.tg (.nm 2)) (.conv .dict false (.var 0))) (.cons (.ret (.conv .sum false (.comp false [3, 4] (.tp [(.nm 3), (.nm 4)]) (.ex (.var 1)) .nil (.bin .mul (.meth .dget (.var 2) (.cons (.var 3) (.cons (.cst (.int 0)) .nil))) (.var 4))))) .nil)), false⟩
def ck__law_value : Ck := ⟨["cochain", "chain", "table", "face", "n"], [], []⟩
theorem kf__law_value : kF ck__law_value if__law_value (topS 39) ["cochain", "chain"] = true := by decide +kernel
def if__law_coboundary : IFun := ⟨2, 4, (.cons (.asg (.tg (.nm 2)) (.dct true .nil)) (.cons (.ifs (.var 1) (.cons (.for_ (.nm 3) (.ex (.call 0 (.cons (.var 0) (.cons (.blt .len (.cons (.sub (.sub (.var 1) (.cst (.int 0))) (.cst (.int 0))) .nil)) .nil)))) (.cons (.asg (.sub (.var 2) (.var 3)) (.call 1 (.cons (.var 1) (.cons (.call 2 (.cons (.tup (.cons (.tup (.cons (.var 3) (.cons (.cst (.int 1)) .nil))) .nil)) .nil)) .nil)))) .nil)) .nil) .nil) (.cons (.ret (.call 3 (.cons (.var 2) .nil))) .nil))), false⟩
def ck__law_coboundary : Ck := ⟨["shape", "cochain", "found", "face"], [("_law_level", 2), ("_law_value", 2), ("_law_boundary", 1), ("_law_chain", 1)], []⟩
theorem kf__law_coboundary : kF ck__law_coboundary if__law_coboundary (topS 40) ["shape", "cochain"] = true := by decide +kernel
def if__law_some : IFun := ⟨2, 3, (.cons (.ret (.call 0 (.cons (.conv .dict false (.comp false [2] (.nm 2) (.ex (.var 1)) .nil (.tup (.cons (.var 2) (.cons (.bin .sub (.call 1 (.cons (.var 0) (.cons (.cst (.int 5)) .nil))) (.cst (.int 2))) .nil))))) .nil))) .nil), false⟩
def ck__law_some : Ck := ⟨["c", "faces", "face"], [("_law_chain", 1), ("_law_take", 2)], []⟩
theorem kf__law_some : kF ck__law_some if__law_some (topS 41) ["c", "faces"] = true := by decide +kernel
def if__law_is_face : IFun := ⟨1, 2, (.cons (.ret (.and (.blt (.isi "tuple") (.cons (.var 0) .nil)) (.and (.cmp .gt (.blt .len (.cons (.var 0) .nil)) (.cst (.int 0))) (.conv .all false (.comp false [1] (.nm 1) (.ex (.var 0)) .nil (.and (.call 0 (.cons (.var 1) .nil)) (.cmp .ge (.var 1) (.cst (.int 0))))))))) .nil), false⟩
def ck__law_is_face : Ck := ⟨["value", "one"], [("_law_is_int", 1)], []⟩
theorem kf__law_is_face : kF ck__law_is_face if__law_is_face (topS 42) ["value"] = true := by decide +kernel
def if__law_is_chain : IFun := ⟨2, 3, (.cons (.ifs (.not (.blt (.isi "tuple") (.cons (.var 0) .nil))) (.cons (.ret (.cst (.bl false))) .nil) .nil) (.cons (.for_ (.nm 2) (.ex (.var 0)) (.cons (.ifs (.or (.not (.blt (.isi "tuple") (.cons (.var 2) .nil))) (.or (.cmp .ne (.blt .len (.cons (.var 2) .nil)) (.cst (.int 2))) (.or (.not (.call 0 (.cons (.sub (.var 2) (.cst (.int 0))) .nil))) (.cmp .notin (.sub (.var 2) (.cst (.int 0))) (.var 1))))) (.cons (.ret (.cst (.bl false))) .nil) .nil) (.cons (.ifs (.or (.not (.call 1 (.cons (.sub (.var 2) (.cst (.int 1))) .nil))) (.cmp .eq (.sub (.var 2) (.cst (.int 1))) (.cst (.int 0)))) (.cons (.ret (.cst (.bl false))) .nil) .nil) .nil))) (.cons (.ret (.cmp .eq (.comp false [2] (.nm 2) (.ex (.var 0)) .nil (.sub (.var 2) (.cst (.int 0)))) (.conv .sortedSet false (.comp false [2] (.nm 2) (.ex (.var 0)) .nil (.sub (.var 2) (.cst (.int 0))))))) .nil))), false⟩
def ck__law_is_chain : Ck := ⟨["value", "known", "pair"], [("_law_is_face", 1), ("_law_is_int", 1)], []⟩
theorem kf__law_is_chain : kF ck__law_is_chain if__law_is_chain (topS 43) ["value", "known"] = true := by decide +kernel
def if__law_divides : IFun := ⟨2, 2, (.cons (.ret (.ife (.cmp .eq (.var 0) (.cst (.int 0))) (.cmp .eq (.var 1) (.cst (.int 0))) (.cmp .eq (.bin .mod (.var 1) (.var 0)) (.cst (.int 0))))) .nil), false⟩
def ck__law_divides : Ck := ⟨["m", "n"], [], []⟩
theorem kf__law_divides : kF ck__law_divides if__law_divides (topS 44) ["m", "n"] = true := by decide +kernel
def if__law_around : IFun := ⟨2, 3, (.cons (.ret (.comp false [2] (.nm 2) (.ex (.var 0)) (.cons (.call 0 (.cons (.var 1) (.cons (.var 2) .nil))) .nil) (.var 2))) .nil), false⟩
def ck__law_around : Ck := ⟨["shape", "side", "face"], [("_law_inside", 2)], []⟩
theorem kf__law_around : kF ck__law_around if__law_around (topS 45) ["shape", "side"] = true := by decide +kernel
def if__law_open : IFun := ⟨1, 5, (.cons (.asg (.tg (.nm 1)) (.bin .sub (.conv .max false (.comp false [3] (.nm 3) (.ex (.var 0)) .nil (.blt .len (.cons (.var 3) .nil)))) (.cst (.int 1)))) (.cons (.asg (.tg (.nm 2)) (.comp false [3] (.nm 3) (.ex (.var 0)) (.cons (.cmp .lt (.blt .len (.cons (.var 3) .nil)) (.bin .add (.var 1) (.cst (.int 1)))) .nil) (.var 3))) (.cons (.ifs (.var 2) (.cons (.ret (.var 2)) .nil) .nil) (.cons (.ifs (.cmp .eq (.var 1) (.cst (.int 0))) (.cons (.ret (.conv .list false (.var 0))) .nil) .nil) (.cons (.ret (.comp false [4] (.nm 4) (.ex (.call 0 (.cons (.var 0) (.cons (.bin .sub (.var 1) (.cst (.int 1))) .nil)))) (.cons (.cmp .ne (.blt .len (.cons (.call 1 (.cons (.var 0) (.cons (.var 4) .nil))) .nil)) (.cst (.int 2))) .nil) (.var 4))) .nil))))), false⟩
def ck__law_open : Ck := ⟨["shape", "d", "low", "face", "side"], [("_law_level", 2), ("_law_around", 2)], []⟩
theorem kf__law_open : kF ck__law_open if__law_open (topS 46) ["shape"] = true := by decide +kernel
def if__law_turns : IFun := ⟨2, 4, (.cons (.asg (.tg (.nm 2)) (.conv .tuple false (.comp false [3] (.nm 3) (.ex (.var 0)) (.cons (.cmp .isin (.var 3) (.var 1)) .nil) (.var 3)))) (.cons (.ifs (.or (.cmp .eq (.var 0) (.var 1)) (.cmp .ne (.blt .len (.cons (.var 2) .nil)) (.bin .sub (.blt .len (.cons (.var 0) .nil)) (.cst (.int 1))))) (.cons (.ret (.cst .non)) .nil) .nil) (.cons (.ret (.cmp .eq (.sub (.conv .dict false (.call 0 (.cons (.var 0) .nil))) (.var 2)) (.sub (.conv .dict false (.call 0 (.cons (.var 1) .nil))) (.var 2)))) .nil))), false⟩
def ck__law_turns : Ck := ⟨["one", "two", "common", "k"], [("_law_sides", 1)], []⟩
theorem kf__law_turns : kF ck__law_turns if__law_turns (topS 47) ["one", "two"] = true := by decide +kernel
def if__law_signs : IFun := ⟨1, 8, (.cons (.asg (.tg (.nm 1)) (.dct true .nil)) (.cons (.for_ (.nm 2) (.ex (.var 0)) (.cons (.ifs (.cmp .notin (.var 2) (.var 1)) (.cons (.asg (.sub (.var 1) (.var 2)) (.cst (.int 1))) (.cons (.asg (.tg (.nm 3)) (.lst true (.cons (.var 2) .nil))) (.cons (.for_ (.nm 4) (.rng1 (.blt .len (.cons (.var 0) .nil))) (.cons (.ifs (.cmp .lt (.var 4) (.blt .len (.cons (.var 3) .nil))) (.cons (.for_ (.nm 5) (.ex (.var 0)) (.cons (.asg (.tg (.nm 6)) (.call 0 (.cons (.sub (.var 3) (.var 4)) (.cons (.var 5) .nil)))) (.cons (.ifs (.cmp .isnot (.var 6) (.cst .non)) (.cons (.asg (.tg (.nm 7)) (.ife (.var 6) (.bin .sub (.cst (.int 0)) (.sub (.var 1) (.sub (.var 3) (.var 4)))) (.sub (.var 1) (.sub (.var 3) (.var 4))))) (.cons (.ifs (.cmp .notin (.var 5) (.var 1)) (.cons (.asg (.sub (.var 1) (.var 5)) (.var 7)) (.cons (.expr (.meth .lapp (.var 3) (.cons (.var 5) .nil))) .nil)) (.cons (.ifs (.cmp .ne (.sub (.var 1) (.var 5)) (.var 7)) (.cons (.ret (.cst .non)) .nil) .nil) .nil)) .nil)) .nil) .nil))) .nil) .nil) .nil)) .nil))) .nil) .nil)) (.cons (.ret (.var 1)) .nil))), false⟩
def ck__law_signs : Ck := ⟨["shape", "signs", "first", "order", "turn", "other", "turns", "sign"], [("_law_turns", 2)], []⟩
theorem kf__law_signs : kF ck__law_signs if__law_signs (topS 48) ["shape"] = true := by decide +kernel
def if__law_is_plain : IFun := ⟨1, 2, (.cons (.ret (.and (.blt (.isi "tuple") (.cons (.var 0) .nil)) (.conv .all false (.comp false [1] (.nm 1) (.ex (.var 0)) .nil (.call 0 (.cons (.var 1) .nil)))))) .nil), false⟩
def ck__law_is_plain : Ck := ⟨["value", "one"], [("_law_is_int", 1)], []⟩
theorem kf__law_is_plain : kF ck__law_is_plain if__law_is_plain (topS 49) ["value"] = true := by decide +kernel
def if__law_is_paper : IFun := ⟨2, 9, (.cons (.ifs (.or (.not (.blt (.isi "tuple") (.cons (.var 1) .nil))) (.or (.cmp .ne (.blt .len (.cons (.var 1) .nil)) (.cst (.int 2))) (.not (.blt (.isi "str") (.cons (.sub (.var 1) (.cst (.int 0))) .nil))))) (.cons (.ret (.cst (.bl false))) .nil) .nil) (.cons (.asg (.tg (.nm 2)) (.call 0 (.cons (.var 0) .nil))) (.cons (.ifs (.cmp .eq (.sub (.var 1) (.cst (.int 0))) (.cst (.str (Str.ofString "open")))) (.cons (.ret (.and (.call 1 (.cons (.sub (.var 1) (.cst (.int 1))) .nil)) (.cmp .isin (.sub (.var 1) (.cst (.int 1))) (.var 2)))) .nil) .nil) (.cons (.ifs (.var 2) (.cons (.ret (.cst (.bl false))) .nil) .nil) (.cons (.ifs (.cmp .eq (.sub (.var 1) (.cst (.int 0))) (.cst (.str (Str.ofString "cycle")))) (.cons (.ifs (.or (.not (.call 2 (.cons (.sub (.var 1) (.cst (.int 1))) (.cons (.var 0) .nil)))) (.or (.cmp .ne (.blt .len (.cons (.sub (.var 1) (.cst (.int 1))) .nil)) (.blt .len (.cons (.var 0) .nil))) (.conv .any false (.comp false [7, 8] (.tp [(.nm 7), (.nm 8)]) (.ex (.sub (.var 1) (.cst (.int 1)))) .nil (.cmp .notin (.var 8) (.lst false (.cons (.cst (.int 1)) (.cons (.neg (.cst (.int 1))) .nil)))))))) (.cons (.ret (.cst (.bl false))) .nil) .nil) (.cons (.ret (.cmp .eq (.call 3 (.cons (.sub (.var 1) (.cst (.int 1))) .nil)) (.tup .nil))) .nil)) .nil) (.cons (.asg (.tg (.nm 3)) (.sub (.var 1) (.cst (.int 1)))) (.cons (.ifs (.or (.cmp .ne (.sub (.var 1) (.cst (.int 0))) (.cst (.str (Str.ofString "turned")))) (.or (.not (.blt (.isi "tuple") (.cons (.var 3) .nil))) (.or (.cmp .lt (.blt .len (.cons (.var 3) .nil)) (.cst (.int 2))) (.not (.conv .all false (.comp false [6] (.nm 6) (.ex (.var 3)) .nil (.and (.call 1 (.cons (.var 6) .nil)) (.cmp .isin (.var 6) (.var 0))))))))) (.cons (.ret (.cst (.bl false))) .nil) .nil) (.cons (.asg (.tg (.nm 4)) (.comp false [5] (.nm 5) (.rng2 (.cst (.int 1)) (.blt .len (.cons (.var 3) .nil))) .nil (.call 4 (.cons (.sub (.var 3) (.bin .sub (.var 5) (.cst (.int 1)))) (.cons (.sub (.var 3) (.var 5)) .nil))))) (.cons (.ret (.and (.cmp .eq (.sub (.var 3) (.cst (.int 0))) (.sub (.var 3) (.neg (.cst (.int 1))))) (.and (.cmp .notin (.cst .non) (.var 4)) (.cmp .eq (.bin .mod (.meth .lcount (.var 4) (.cons (.cst (.bl true)) .nil)) (.cst (.int 2))) (.cst (.int 1)))))) .nil))))))))), false⟩
def ck__law_is_paper : Ck := ⟨["shape", "value", "faces", "row", "steps", "k", "one", "face", "n"], [("_law_open", 1), ("_law_is_plain", 1), ("_law_is_chain", 2), ("_law_boundary", 1), ("_law_turns", 2)], []⟩
theorem kf__law_is_paper : kF ck__law_is_paper if__law_is_paper (topS 50) ["shape", "value"] = true := by decide +kernel
def if_law : IFun := ⟨1, 13, (.cons (.asg (.tg (.nm 1)) (.call 0 (.cons (.var 0) .nil))) (.cons (.asg (.tg (.nm 2)) (.call 1 (.cons (.var 1) .nil))) (.cons (.asg (.tg (.nm 3)) (.call 2 (.cons (.var 2) .nil))) (.cons (.asg (.tg (.nm 4)) (.call 3 (.cons (.var 2) .nil))) (.cons (.asg (.tg (.nm 5)) (.ife (.var 4) (.cst .non) (.call 4 (.cons (.var 2) .nil)))) (.cons (.ifs (.or (.not (.call 5 (.cons (.var 2) (.cons (.var 3) .nil)))) (.cmp .ne (.cmp .eq (.sub (.var 3) (.cst (.int 0))) (.cst (.str (Str.ofString "open")))) (.cmp .gt (.blt .len (.cons (.var 4) .nil)) (.cst (.int 0))))) (.cons (.ret (.cst (.bl false))) .nil) .nil) (.cons (.ifs (.and (.var 4) (.cmp .ne (.var 3) (.tup (.cons (.cst (.str (Str.ofString "open"))) (.cons (.sub (.var 4) (.cst (.int 0))) .nil))))) (.cons (.ret (.cst (.bl false))) .nil) .nil) (.cons (.ifs (.or (.and (.not (.var 4)) (.cmp .ne (.cmp .eq (.sub (.var 3) (.cst (.int 0))) (.cst (.str (Str.ofString "cycle")))) (.cmp .isnot (.var 5) (.cst .non)))) (.and (.cmp .isnot (.var 5) (.cst .non)) (.cmp .ne (.var 3) (.tup (.cons (.cst (.str (Str.ofString "cycle"))) (.cons (.call 6 (.cons (.var 5) .nil)) .nil)))))) (.cons (.ret (.cst (.bl false))) .nil) .nil) (.cons (.for_ (.nm 6) (.rng1 (.cst (.int 8))) (.cons (.asg (.tg (.nm 8)) (.call 7 (.cons (.var 1) (.cons (.var 3) (.cons (.var 6) .nil))))) (.cons (.ifs (.cmp .eq (.var 6) (.cst (.int 6))) (.cons (.asg (.tg (.nm 8)) (.tup (.cons (.cst (.str (Str.ofString "open"))) (.cons (.sub (.call 8 (.cons (.var 2) .nil)) (.call 9 (.cons (.var 1) (.cons (.blt .len (.cons (.call 8 (.cons (.var 2) .nil)) .nil)) .nil)))) .nil)))) .nil) .nil) (.cons (.ifs (.cmp .eq (.var 6) (.cst (.int 7))) (.cons (.asg (.tg (.nm 10)) (.comp false [11] (.nm 11) (.rng1 (.bin .add (.cst (.int 1)) (.call 9 (.cons (.var 1) (.cons (.cst (.int 4)) .nil))))) .nil (.sub (.var 2) (.call 9 (.cons (.var 1) (.cons (.blt .len (.cons (.var 2) .nil)) .nil)))))) (.cons (.asg (.tg (.nm 8)) (.tup (.cons (.cst (.str (Str.ofString "turned"))) (.cons (.conv .tuple false (.bin .add (.var 10) (.slice (.var 10) .none (.some (.cst (.int 1)))))) .nil)))) .nil)) .nil) (.cons (.asg (.tg (.nm 9)) (.call 10 (.cons (.var 2) (.cons (.var 8) .nil)))) (.cons (.ifs (.or (.not (.blt (.isi "bool") (.cons (.var 9) .nil))) (.cmp .ne (.var 9) (.call 5 (.cons (.var 2) (.cons (.var 8) .nil))))) (.cons (.ret (.cst (.bl false))) .nil) .nil) .nil)))))) (.cons (.ifs (.cmp .is (.var 5) (.cst .non)) (.cons (.ret (.cst (.bl true))) .nil) .nil) (.cons (.asg (.tg (.nm 7)) (.call 6 (.cons (.conv .dict false (.comp false [12] (.nm 12) (.ex (.var 5)) .nil (.tup (.cons (.var 12) (.cons (.bin .sub (.cst (.int 0)) (.sub (.var 5) (.var 12))) .nil))))) .nil))) (.cons (.ret (.cmp .is (.call 10 (.cons (.var 2) (.cons (.tup (.cons (.cst (.str (Str.ofString "cycle"))) (.cons (.var 7) .nil))) .nil))) (.cst (.bl true)))) .nil)))))))))))), false⟩
def ck_law : Ck := ⟨["script", "c", "shape", "paper", "faces", "signs", "turn", "other", "bent", "told_v", "row", "k", "face"], [("_law_start", 1), ("_law_shape", 1), ("closed_paper", 1), ("_law_open", 1), ("_law_signs", 1), ("_law_is_paper", 2), ("_law_chain", 1), ("_law_bent", 3), ("_law_faces", 1), ("_law_take", 2), ("judge_closed", 2)], []⟩
theorem kf_law : kF ck_law if_law (topS 51) ["script"] = true := by decide +kernel
end K13
namespace K13
open PySem PySem.Spec PyProof.Rows L2 C8 HW
abbrev DefAt (K : PySem.W.Frag) (mg : Str → Option Value) (x : Str) (st : Stmt) (ps : List Str) : Prop := ∃ fa fd, C8.Def K mg x st fa fd ∧ L2.Binds K fd ps []
structure Top (K : PySem.W.Frag) (mg : Str → Option Value) : Prop where
  d_is_integer : DefAt K mg "is_integer" (topS 1) ["value"]
  d_is_face : DefAt K mg "is_face" (topS 2) ["value"]
  d_parts_of_face : DefAt K mg "parts_of_face" (topS 3) ["face"]
  d_all_faces : DefAt K mg "all_faces" (topS 4) ["greatest"]
  d_faces_of : DefAt K mg "faces_of" (topS 5) ["shape", "d"]
  d_dimension : DefAt K mg "dimension" (topS 6) ["shape"]
  d_told : DefAt K mg "told" (topS 8) ["table"]
  d_is_chain : DefAt K mg "is_chain" (topS 9) ["value", "known"]
  d_sides_of : DefAt K mg "sides_of" (topS 10) ["face"]
  d_boundary : DefAt K mg "boundary" (topS 11) ["chain"]
  d_around : DefAt K mg "around" (topS 13) ["shape"]
  d_opening : DefAt K mg "opening" (topS 14) ["shape"]
  d_steps_of : DefAt K mg "steps_of" (topS 15) ["shape"]
  d_closed_paper : DefAt K mg "closed_paper" (topS 16) ["shape"]
  d_is_opening : DefAt K mg "is_opening" (topS 17) ["shape", "face"]
  d_is_turned : DefAt K mg "is_turned" (topS 18) ["shape", "row"]
  d_is_plain : DefAt K mg "is_plain" (topS 20) ["value"]
  d_judge_closed : DefAt K mg "judge_closed" (topS 19) ["shape", "value"]
  d__law_start : DefAt K mg "_law_start" (topS 22) ["script"]
  d__law_fill : DefAt K mg "_law_fill" (topS 23) ["c"]
  d__law_take : DefAt K mg "_law_take" (topS 24) ["c", "many"]
  d__law_is_int : DefAt K mg "_law_is_int" (topS 25) ["value"]
  d__law_spoilt : DefAt K mg "_law_spoilt" (topS 27) ["c", "value"]
  d__law_bent : DefAt K mg "_law_bent" (topS 28) ["c", "value", "turn"]
  d__law_parts_of : DefAt K mg "_law_parts_of" (topS 29) ["face"]
  d__law_faces : DefAt K mg "_law_faces" (topS 30) ["shape"]
  d__law_level : DefAt K mg "_law_level" (topS 31) ["shape", "d"]
  d__law_inside : DefAt K mg "_law_inside" (topS 32) ["one", "two"]
  d__law_greatest : DefAt K mg "_law_greatest" (topS 33) ["faces"]
  d__law_plane : DefAt K mg "_law_plane" (topS 34) []
  d__law_shape : DefAt K mg "_law_shape" (topS 35) ["c"]
  d__law_sides : DefAt K mg "_law_sides" (topS 36) ["face"]
  d__law_chain : DefAt K mg "_law_chain" (topS 37) ["table"]
  d__law_boundary : DefAt K mg "_law_boundary" (topS 38) ["chain"]
  d__law_is_face : DefAt K mg "_law_is_face" (topS 42) ["value"]
  d__law_is_chain : DefAt K mg "_law_is_chain" (topS 43) ["value", "known"]
  d__law_around : DefAt K mg "_law_around" (topS 45) ["shape", "side"]
  d__law_open : DefAt K mg "_law_open" (topS 46) ["shape"]
  d__law_turns : DefAt K mg "_law_turns" (topS 47) ["one", "two"]
  d__law_signs : DefAt K mg "_law_signs" (topS 48) ["shape"]
  d__law_is_plain : DefAt K mg "_law_is_plain" (topS 49) ["value"]
  d__law_is_paper : DefAt K mg "_law_is_paper" (topS 50) ["shape", "value"]
  d_law : DefAt K mg "law" (topS 51) ["script"]
  b : ∀ x ∈ bltNm, mg x = none
section
variable {P : Program} {w : World} {K : PySem.W.Frag} {mg : Str → Option Value} {base : Heap}
def s_is_integer : Sem := runFn if_is_integer []
theorem c_is_integer (T : Top K mg) : Cal P w K mg base 1 "is_integer" (spS ⟨P, w, K⟩ 1 s_is_integer) [] := cal_def (G := ck_is_integer) T.d_is_integer T.b .nil .nil kf_is_integer
def s_is_face : Sem := runFn if_is_face [s_is_integer]
theorem c_is_face (T : Top K mg) : Cal P w K mg base 2 "is_face" (spS ⟨P, w, K⟩ 1 s_is_face) [] := cal_def (G := ck_is_face) T.d_is_face T.b (.cons ⟨_, (by decide), (c_is_integer T)⟩ .nil) .nil kf_is_face
def s_parts_of_face : Sem := runFn if_parts_of_face []
theorem c_parts_of_face (T : Top K mg) : Cal P w K mg base 1 "parts_of_face" (spS ⟨P, w, K⟩ 1 s_parts_of_face) [] := cal_def (G := ck_parts_of_face) T.d_parts_of_face T.b .nil .nil kf_parts_of_face
def s_all_faces : Sem := runFn if_all_faces [s_parts_of_face]
theorem c_all_faces (T : Top K mg) : Cal P w K mg base 2 "all_faces" (spS ⟨P, w, K⟩ 1 s_all_faces) [] := cal_def (G := ck_all_faces) T.d_all_faces T.b (.cons ⟨_, (by decide), (c_parts_of_face T)⟩ .nil) .nil kf_all_faces
def s_faces_of : Sem := runFn if_faces_of [s_all_faces]
theorem c_faces_of (T : Top K mg) : Cal P w K mg base 3 "faces_of" (spS ⟨P, w, K⟩ 2 s_faces_of) [] := cal_def (G := ck_faces_of) T.d_faces_of T.b (.cons ⟨_, (by decide), (c_all_faces T)⟩ .nil) .nil kf_faces_of
def s_dimension : Sem := runFn if_dimension []
theorem c_dimension (T : Top K mg) : Cal P w K mg base 1 "dimension" (spS ⟨P, w, K⟩ 1 s_dimension) [] := cal_def (G := ck_dimension) T.d_dimension T.b .nil .nil kf_dimension
def s_told : Sem := runFn if_told []
theorem c_told (T : Top K mg) : Cal P w K mg base 1 "told" (spS ⟨P, w, K⟩ 1 s_told) [] := cal_def (G := ck_told) T.d_told T.b .nil .nil kf_told
def s_is_chain : Sem := runFn if_is_chain [s_is_face, s_is_integer]
theorem c_is_chain (T : Top K mg) : Cal P w K mg base 3 "is_chain" (spS ⟨P, w, K⟩ 2 s_is_chain) [] := cal_def (G := ck_is_chain) T.d_is_chain T.b (.cons ⟨_, (by decide), (c_is_face T)⟩ (.cons ⟨_, (by decide), (c_is_integer T)⟩ .nil)) .nil kf_is_chain
def s_sides_of : Sem := runFn if_sides_of []
theorem c_sides_of (T : Top K mg) : Cal P w K mg base 1 "sides_of" (spS ⟨P, w, K⟩ 1 s_sides_of) [] := cal_def (G := ck_sides_of) T.d_sides_of T.b .nil .nil kf_sides_of
def s_boundary : Sem := runFn if_boundary [s_sides_of, s_told]
theorem c_boundary (T : Top K mg) : Cal P w K mg base 2 "boundary" (spS ⟨P, w, K⟩ 1 s_boundary) [] := cal_def (G := ck_boundary) T.d_boundary T.b (.cons ⟨_, (by decide), (c_sides_of T)⟩ (.cons ⟨_, (by decide), (c_told T)⟩ .nil)) .nil kf_boundary
def s_around : Sem := runFn if_around [s_faces_of, s_dimension, s_sides_of]
theorem c_around (T : Top K mg) : Cal P w K mg base 4 "around" (spS ⟨P, w, K⟩ 1 s_around) [] := cal_def (G := ck_around) T.d_around T.b (.cons ⟨_, (by decide), (c_faces_of T)⟩ (.cons ⟨_, (by decide), (c_dimension T)⟩ (.cons ⟨_, (by decide), (c_sides_of T)⟩ .nil))) .nil kf_around
def s_opening : Sem := runFn if_opening [s_dimension, s_around]
theorem c_opening (T : Top K mg) : Cal P w K mg base 5 "opening" (spS ⟨P, w, K⟩ 1 s_opening) [] := cal_def (G := ck_opening) T.d_opening T.b (.cons ⟨_, (by decide), (c_dimension T)⟩ (.cons ⟨_, (by decide), (c_around T)⟩ .nil)) .nil kf_opening
def s_steps_of : Sem := runFn if_steps_of [s_around]
theorem c_steps_of (T : Top K mg) : Cal P w K mg base 5 "steps_of" (spS ⟨P, w, K⟩ 1 s_steps_of) [] := cal_def (G := ck_steps_of) T.d_steps_of T.b (.cons ⟨_, (by decide), (c_around T)⟩ .nil) .nil kf_steps_of
def s_closed_paper : Sem := runFn if_closed_paper [s_opening, s_steps_of]
theorem c_closed_paper (T : Top K mg) : Cal P w K mg base 6 "closed_paper" (spS ⟨P, w, K⟩ 1 s_closed_paper) [] := cal_def (G := ck_closed_paper) T.d_closed_paper T.b (.cons ⟨_, (by decide), (c_opening T)⟩ (.cons ⟨_, (by decide), (c_steps_of T)⟩ .nil)) .nil kf_closed_paper
def s_is_opening : Sem := runFn if_is_opening [s_dimension, s_around]
theorem c_is_opening (T : Top K mg) : Cal P w K mg base 5 "is_opening" (spS ⟨P, w, K⟩ 2 s_is_opening) [] := cal_def (G := ck_is_opening) T.d_is_opening T.b (.cons ⟨_, (by decide), (c_dimension T)⟩ (.cons ⟨_, (by decide), (c_around T)⟩ .nil)) .nil kf_is_opening
def s_is_turned : Sem := runFn if_is_turned [s_steps_of]
theorem c_is_turned (T : Top K mg) : Cal P w K mg base 6 "is_turned" (spS ⟨P, w, K⟩ 2 s_is_turned) [] := cal_def (G := ck_is_turned) T.d_is_turned T.b (.cons ⟨_, (by decide), (c_steps_of T)⟩ .nil) .nil kf_is_turned
def s_is_plain : Sem := runFn if_is_plain []
theorem c_is_plain (T : Top K mg) : Cal P w K mg base 1 "is_plain" (spS ⟨P, w, K⟩ 1 s_is_plain) [] := cal_def (G := ck_is_plain) T.d_is_plain T.b .nil .nil kf_is_plain
def s_judge_closed : Sem := runFn if_judge_closed [s_is_opening, s_is_plain, s_opening, s_is_turned, s_is_chain, s_boundary]
theorem c_judge_closed (T : Top K mg) : Cal P w K mg base 7 "judge_closed" (spS ⟨P, w, K⟩ 2 s_judge_closed) [] := cal_def (G := ck_judge_closed) T.d_judge_closed T.b (.cons ⟨_, (by decide), (c_is_opening T)⟩ (.cons ⟨_, (by decide), (c_is_plain T)⟩ (.cons ⟨_, (by decide), (c_opening T)⟩ (.cons ⟨_, (by decide), (c_is_turned T)⟩ (.cons ⟨_, (by decide), (c_is_chain T)⟩ (.cons ⟨_, (by decide), (c_boundary T)⟩ .nil)))))) .nil kf_judge_closed
def s__law_start : Sem := runFn if__law_start []
theorem c__law_start (T : Top K mg) : Cal P w K mg base 1 "_law_start" (spS ⟨P, w, K⟩ 1 s__law_start) [] := cal_def (G := ck__law_start) T.d__law_start T.b .nil .nil kf__law_start
def s__law_fill : Sem := runFn if__law_fill []
theorem c__law_fill (T : Top K mg) : Cal P w K mg base 1 "_law_fill" (spS ⟨P, w, K⟩ 1 s__law_fill) [] := cal_def (G := ck__law_fill) T.d__law_fill T.b .nil .nil kf__law_fill
def s__law_take : Sem := runFn if__law_take [s__law_fill]
theorem c__law_take (T : Top K mg) : Cal P w K mg base 2 "_law_take" (spS ⟨P, w, K⟩ 2 s__law_take) [] := cal_def (G := ck__law_take) T.d__law_take T.b (.cons ⟨_, (by decide), (c__law_fill T)⟩ .nil) .nil kf__law_take
def s__law_is_int : Sem := runFn if__law_is_int []
theorem c__law_is_int (T : Top K mg) : Cal P w K mg base 1 "_law_is_int" (spS ⟨P, w, K⟩ 1 s__law_is_int) [] := cal_def (G := ck__law_is_int) T.d__law_is_int T.b .nil .nil kf__law_is_int
def r__law_spoilt : Nat → Sem | 0 => fun _ _ => .bad | n + 1 => runFn if__law_spoilt [s__law_take, r__law_spoilt n]
def s__law_spoilt : Sem := r__law_spoilt 6
theorem cr__law_spoilt (T : Top K mg) : ∀ n, Cal P w K mg base (2 + n + 1) "_law_spoilt" (spS ⟨P, w, K⟩ 2 (r__law_spoilt n)) []
  | 0 => cal_bad (N := ck__law_spoilt.N) T.d__law_spoilt (by decide +kernel)
  | n + 1 => cal_def (G := ck__law_spoilt) T.d__law_spoilt T.b (.cons ⟨_, (by omega), (c__law_take T)⟩ (.cons ⟨_, (by omega), (cr__law_spoilt T n)⟩ .nil)) .nil kf__law_spoilt
theorem c__law_spoilt (T : Top K mg) : Cal P w K mg base 9 "_law_spoilt" (spS ⟨P, w, K⟩ 2 s__law_spoilt) [] := cr__law_spoilt T 6
def s__law_bent : Sem := runFn if__law_bent [s__law_take, s__law_spoilt]
theorem c__law_bent (T : Top K mg) : Cal P w K mg base 10 "_law_bent" (spS ⟨P, w, K⟩ 3 s__law_bent) [] := cal_def (G := ck__law_bent) T.d__law_bent T.b (.cons ⟨_, (by decide), (c__law_take T)⟩ (.cons ⟨_, (by decide), (c__law_spoilt T)⟩ .nil)) .nil kf__law_bent
def s__law_parts_of : Sem := runFn if__law_parts_of []
theorem c__law_parts_of (T : Top K mg) : Cal P w K mg base 1 "_law_parts_of" (spS ⟨P, w, K⟩ 1 s__law_parts_of) [] := cal_def (G := ck__law_parts_of) T.d__law_parts_of T.b .nil .nil kf__law_parts_of
def s__law_faces : Sem := runFn if__law_faces [s__law_parts_of]
theorem c__law_faces (T : Top K mg) : Cal P w K mg base 2 "_law_faces" (spS ⟨P, w, K⟩ 1 s__law_faces) [] := cal_def (G := ck__law_faces) T.d__law_faces T.b (.cons ⟨_, (by decide), (c__law_parts_of T)⟩ .nil) .nil kf__law_faces
def s__law_level : Sem := runFn if__law_level [s__law_faces]
theorem c__law_level (T : Top K mg) : Cal P w K mg base 3 "_law_level" (spS ⟨P, w, K⟩ 2 s__law_level) [] := cal_def (G := ck__law_level) T.d__law_level T.b (.cons ⟨_, (by decide), (c__law_faces T)⟩ .nil) .nil kf__law_level
def s__law_inside : Sem := runFn if__law_inside []
theorem c__law_inside (T : Top K mg) : Cal P w K mg base 1 "_law_inside" (spS ⟨P, w, K⟩ 2 s__law_inside) [] := cal_def (G := ck__law_inside) T.d__law_inside T.b .nil .nil kf__law_inside
def s__law_greatest : Sem := runFn if__law_greatest [s__law_inside]
theorem c__law_greatest (T : Top K mg) : Cal P w K mg base 2 "_law_greatest" (spS ⟨P, w, K⟩ 1 s__law_greatest) [] := cal_def (G := ck__law_greatest) T.d__law_greatest T.b (.cons ⟨_, (by decide), (c__law_inside T)⟩ .nil) .nil kf__law_greatest
def s__law_plane : Sem := runFn if__law_plane []
theorem c__law_plane (T : Top K mg) : Cal P w K mg base 1 "_law_plane" (spS ⟨P, w, K⟩ 0 s__law_plane) [] := cal_def (G := ck__law_plane) T.d__law_plane T.b .nil .nil kf__law_plane
def s__law_shape : Sem := runFn if__law_shape [s__law_take, s__law_plane, s__law_parts_of, s__law_greatest]
theorem c__law_shape (T : Top K mg) : Cal P w K mg base 3 "_law_shape" (spS ⟨P, w, K⟩ 1 s__law_shape) [] := cal_def (G := ck__law_shape) T.d__law_shape T.b (.cons ⟨_, (by decide), (c__law_take T)⟩ (.cons ⟨_, (by decide), (c__law_plane T)⟩ (.cons ⟨_, (by decide), (c__law_parts_of T)⟩ (.cons ⟨_, (by decide), (c__law_greatest T)⟩ .nil)))) .nil kf__law_shape
def s__law_sides : Sem := runFn if__law_sides []
theorem c__law_sides (T : Top K mg) : Cal P w K mg base 1 "_law_sides" (spS ⟨P, w, K⟩ 1 s__law_sides) [] := cal_def (G := ck__law_sides) T.d__law_sides T.b .nil .nil kf__law_sides
def s__law_chain : Sem := runFn if__law_chain []
theorem c__law_chain (T : Top K mg) : Cal P w K mg base 1 "_law_chain" (spS ⟨P, w, K⟩ 1 s__law_chain) [] := cal_def (G := ck__law_chain) T.d__law_chain T.b .nil .nil kf__law_chain
def s__law_boundary : Sem := runFn if__law_boundary [s__law_sides, s__law_chain]
theorem c__law_boundary (T : Top K mg) : Cal P w K mg base 2 "_law_boundary" (spS ⟨P, w, K⟩ 1 s__law_boundary) [] := cal_def (G := ck__law_boundary) T.d__law_boundary T.b (.cons ⟨_, (by decide), (c__law_sides T)⟩ (.cons ⟨_, (by decide), (c__law_chain T)⟩ .nil)) .nil kf__law_boundary
def s__law_is_face : Sem := runFn if__law_is_face [s__law_is_int]
theorem c__law_is_face (T : Top K mg) : Cal P w K mg base 2 "_law_is_face" (spS ⟨P, w, K⟩ 1 s__law_is_face) [] := cal_def (G := ck__law_is_face) T.d__law_is_face T.b (.cons ⟨_, (by decide), (c__law_is_int T)⟩ .nil) .nil kf__law_is_face
def s__law_is_chain : Sem := runFn if__law_is_chain [s__law_is_face, s__law_is_int]
theorem c__law_is_chain (T : Top K mg) : Cal P w K mg base 3 "_law_is_chain" (spS ⟨P, w, K⟩ 2 s__law_is_chain) [] := cal_def (G := ck__law_is_chain) T.d__law_is_chain T.b (.cons ⟨_, (by decide), (c__law_is_face T)⟩ (.cons ⟨_, (by decide), (c__law_is_int T)⟩ .nil)) .nil kf__law_is_chain
def s__law_around : Sem := runFn if__law_around [s__law_inside]
theorem c__law_around (T : Top K mg) : Cal P w K mg base 2 "_law_around" (spS ⟨P, w, K⟩ 2 s__law_around) [] := cal_def (G := ck__law_around) T.d__law_around T.b (.cons ⟨_, (by decide), (c__law_inside T)⟩ .nil) .nil kf__law_around
def s__law_open : Sem := runFn if__law_open [s__law_level, s__law_around]
theorem c__law_open (T : Top K mg) : Cal P w K mg base 4 "_law_open" (spS ⟨P, w, K⟩ 1 s__law_open) [] := cal_def (G := ck__law_open) T.d__law_open T.b (.cons ⟨_, (by decide), (c__law_level T)⟩ (.cons ⟨_, (by decide), (c__law_around T)⟩ .nil)) .nil kf__law_open
def s__law_turns : Sem := runFn if__law_turns [s__law_sides]
theorem c__law_turns (T : Top K mg) : Cal P w K mg base 2 "_law_turns" (spS ⟨P, w, K⟩ 2 s__law_turns) [] := cal_def (G := ck__law_turns) T.d__law_turns T.b (.cons ⟨_, (by decide), (c__law_sides T)⟩ .nil) .nil kf__law_turns
def s__law_signs : Sem := runFn if__law_signs [s__law_turns]
theorem c__law_signs (T : Top K mg) : Cal P w K mg base 3 "_law_signs" (spS ⟨P, w, K⟩ 1 s__law_signs) [] := cal_def (G := ck__law_signs) T.d__law_signs T.b (.cons ⟨_, (by decide), (c__law_turns T)⟩ .nil) .nil kf__law_signs
def s__law_is_plain : Sem := runFn if__law_is_plain [s__law_is_int]
theorem c__law_is_plain (T : Top K mg) : Cal P w K mg base 2 "_law_is_plain" (spS ⟨P, w, K⟩ 1 s__law_is_plain) [] := cal_def (G := ck__law_is_plain) T.d__law_is_plain T.b (.cons ⟨_, (by decide), (c__law_is_int T)⟩ .nil) .nil kf__law_is_plain
def s__law_is_paper : Sem := runFn if__law_is_paper [s__law_open, s__law_is_plain, s__law_is_chain, s__law_boundary, s__law_turns]
theorem c__law_is_paper (T : Top K mg) : Cal P w K mg base 5 "_law_is_paper" (spS ⟨P, w, K⟩ 2 s__law_is_paper) [] := cal_def (G := ck__law_is_paper) T.d__law_is_paper T.b (.cons ⟨_, (by decide), (c__law_open T)⟩ (.cons ⟨_, (by decide), (c__law_is_plain T)⟩ (.cons ⟨_, (by decide), (c__law_is_chain T)⟩ (.cons ⟨_, (by decide), (c__law_boundary T)⟩ (.cons ⟨_, (by decide), (c__law_turns T)⟩ .nil))))) .nil kf__law_is_paper
def s_law : Sem := runFn if_law [s__law_start, s__law_shape, s_closed_paper, s__law_open, s__law_signs, s__law_is_paper, s__law_chain, s__law_bent, s__law_faces, s__law_take, s_judge_closed]
theorem c_law (T : Top K mg) : Cal P w K mg base 11 "law" (spS ⟨P, w, K⟩ 1 s_law) [] := cal_def (G := ck_law) T.d_law T.b (.cons ⟨_, (by decide), (c__law_start T)⟩ (.cons ⟨_, (by decide), (c__law_shape T)⟩ (.cons ⟨_, (by decide), (c_closed_paper T)⟩ (.cons ⟨_, (by decide), (c__law_open T)⟩ (.cons ⟨_, (by decide), (c__law_signs T)⟩ (.cons ⟨_, (by decide), (c__law_is_paper T)⟩ (.cons ⟨_, (by decide), (c__law_chain T)⟩ (.cons ⟨_, (by decide), (c__law_bent T)⟩ (.cons ⟨_, (by decide), (c__law_faces T)⟩ (.cons ⟨_, (by decide), (c__law_take T)⟩ (.cons ⟨_, (by decide), (c_judge_closed T)⟩ .nil))))))))))) .nil kf_law
end
-- levels {'is_integer': 1, 'is_face': 2, 'parts_of_face': 1, 'all_faces': 2, 'faces_of': 3, 'dimension': 1, 'told': 1, 'is_chain': 3, 'sides_of': 1, 'boundary': 2, 'around': 4, 'opening': 5, 'steps_of': 5, 'closed_paper': 6, 'is_opening': 5, 'is_turned': 6, 'is_plain': 1, 'judge_closed': 7, '_law_start': 1, '_law_fill': 1, '_law_take': 2, '_law_is_int': 1, '_law_spoilt': 9, '_law_bent': 10, '_law_parts_of': 1, '_law_faces': 2, '_law_level': 3, '_law_inside': 1, '_law_greatest': 2, '_law_plane': 1, '_law_shape': 3, '_law_sides': 1, '_law_chain': 1, '_law_boundary': 2, '_law_is_face': 2, '_law_is_chain': 3, '_law_around': 2, '_law_open': 4, '_law_turns': 2, '_law_signs': 3, '_law_is_plain': 2, '_law_is_paper': 5, 'law': 11}
end K13
namespace K13
open PySem HW
/-- the number box's cell *)-/
def box (ns : List Int) (i left k : Int) : Cell := .lst [.lst (ns.map .int), .int i, .int left, .int k, .int 20]
theorem compGo_ints {ctx : List Sem} {h : PHeap} {tg : PV → HW.Env → Option HW.Env} {env : HW.Env} {elt : HW.Env → PHeap → R PV} (f : Int → PV) (ht : ∀ i, ∃ e1, tg (.int i) env = some e1 ∧ elt e1 h = .ok (f i) h) : ∀ (ns : List Int) (acc : List PV), acc.length + ns.length < LIM →
    compGo (fun _ => true) tg (fun _ h => .ok true h) elt env (ns.map .int) h acc = .ok (acc ++ ns.map f) h
  | [], acc, _ => by simp [compGo]
  | i :: ns, acc, hl => by
    obtain ⟨e1, q1, q2⟩ := ht i
    simp only [List.length_cons] at hl
    have := compGo_ints (ctx := ctx) f ht ns (acc ++ [f i]) (by simp; omega)
    simp only [List.map_cons, compGo, if_true, q1, R.bind_ok, q2]
    rw [if_pos (by omega), this]
    simp
theorem start_ev (ns : List Int) (hl : ns.length ≤ 63) : s__law_start [.scr ns] [] = .ok (.ref 0) [box ns 0 0 0] := by
  have e : sliceOf ([] : PHeap) (.scr ns) none (some 63) = some (.lst (ns.map .int)) := by
    show some (PV.lst (cut _ _ _)) = _
    rw [cut_whole _ _ _ rfl (by simp [HT.sIx]; omega)]
  have hc := compGo_ints (ctx := []) (h := []) (tg := tgSet (.nm 1)) (env := [some (PV.scr ns), none]) (elt := fun (x : HW.Env) x_1 => dE [] (.blt .int (.cons (.var 1) .nil)) x x_1) PV.int (fun i => ⟨_, rfl, by simp [dE, dEs, bltop, bInt]⟩) ns [] (by simp [LIM]; omega)
  simp [s__law_start, runFn, if__law_start, dSs, dS, dE, dEs, dI, lockI, lockE, withLock, dO, intOf, e, walkSrc, mkList, HW.finish, wipeE, dIfs]
  simp [dE, dEs] at hc
  rw [hc]
  simp [box]
theorem belows_ints (n : Nat) : ∀ ns : List Int, belows n (ns.map .int) = true
  | [] => rfl
  | i :: ns => by simp [belows, below, belows_ints n ns]
theorem finish_box {ns : List Int} {i left k i' left' k' : Int} {t : PHeap} {v : PV} (hv : ∀ n, below n v = true) : HW.finish false (box ns i left k :: t) v (box ns i' left' k' :: t) = .ok v (box ns i' left' k' :: t) := by
  have h1 : okOuter (box ns i left k :: t) (box ns i' left' k' :: t) = true := by
    simp only [okOuter, List.all_eq_true, List.mem_range, Bool.or_eq_true, decide_eq_true_eq]
    intro m hm
    cases m with
    | zero => exact .inr (by simp [box, belowC, belows, below, belows_ints])
    | succ m => exact .inl (by simp)
  have h2 : frz (box ns i' left' k' :: t) (box ns i left k :: t).length 12 v = some v := by
    unfold frz
    rw [if_pos (hv _)]
  unfold HW.finish
  rw [h1, h2]
  simp
/-! steps, as rewriting rules -/
section
variable {h : PHeap} {a b : Int}
theorem ev_add : binop .add (.int a) (.int b) h = some (.int (a + b)) := rfl
theorem ev_sub : binop .sub (.int a) (.int b) h = some (.int (a - b)) := rfl
theorem ev_mul (q : small a || small b) : binop .mul (.int a) (.int b) h = some (.int (a * b)) := by
  show (if _ then _ else _) = _
  rw [if_pos q]
theorem ev_mr (q : small b = true) : binop .mul (.int a) (.int b) h = some (.int (a * b)) := ev_mul (by simp [q])
theorem sm1 : small 69621 = true := by decide
theorem sm2 : small 48271 = true := by decide
theorem sm3 : small 7919 = true := by decide
theorem ev_f64 : binop .fdiv (.int a) (.int 64) h = some (.int (a.fdiv 64)) := rfl
theorem ev_m1 : binop .mod (.int a) (.int 1000003) h = some (.int (a.fmod 1000003)) := rfl
theorem ev_m2 : binop .mod (.int a) (.int 2147483647) h = some (.int (a.fmod 2147483647)) := rfl
theorem small_mod : small (a.fmod 2147483647) = true := by
  have h1 := Int.fmod_nonneg_of_pos a (b := 2147483647) (by decide)
  have h2 := Int.fmod_lt_of_pos a (b := 2147483647) (by decide)
  simp only [small, decide_eq_true_eq]
  omega
theorem ev_fdiv (q : b ≠ 0) (q2 : b.natAbs < 1073741824) : binop .fdiv (.int a) (.int b) h = some (.int (a.fdiv b)) := by
  show (if _ then _ else _) = _
  rw [if_pos ⟨q, q2⟩]
theorem ev_mod (q : b ≠ 0) : binop .mod (.int a) (.int b) h = some (.int (a.fmod b)) := by
  show (if _ then _ else _) = _
  rw [if_pos q]
theorem ev_lt : cmpop .lt (.int a) (.int b) h = some (decide (a < b)) := rfl
theorem ev_gt : cmpop .gt (.int a) (.int b) h = some (decide (b < a)) := rfl
theorem ev_le : cmpop .le (.int a) (.int b) h = some (decide (a ≤ b)) := rfl
theorem ev_ge : cmpop .ge (.int a) (.int b) h = some (decide (b ≤ a)) := rfl
theorem ev_bl {c : Bool} : tru h (.bl c) = some c := rfl
theorem ev_lst {xs : List PV} : itemOf h (.lst xs) (.int a) = L2.atI xs a := rfl
theorem ev_tup {xs : List PV} : itemOf h (.tup xs) (.int a) = L2.atI xs a := rfl
theorem ev_trl {xs : List PV} : tru h (.lst xs) = some (!xs.isEmpty) := rfl
theorem ev_trt {xs : List PV} : tru h (.tup xs) = some (!xs.isEmpty) := rfl
theorem ev_ll {xs : List PV} : bltop .len [.lst xs] h = some (.int xs.length) := rfl
theorem ev_lt' {xs : List PV} : bltop .len [.tup xs] h = some (.int xs.length) := rfl
theorem ev_int : bltop .int [.int a] h = some (.int a) := rfl
theorem ev_pow : binop .pow (.int 10) (.int 18) h = some (.int 1000000000000000000) := rfl
end
section
variable {ns : List Int} {i left k : Int} {t : PHeap}
theorem it0 : itemOf (box ns i left k :: t) (.ref 0) (.int 0) = some (.lst (ns.map .int)) := rfl
theorem it1 : itemOf (box ns i left k :: t) (.ref 0) (.int 1) = some (.int i) := rfl
theorem it2 : itemOf (box ns i left k :: t) (.ref 0) (.int 2) = some (.int left) := rfl
theorem it3 : itemOf (box ns i left k :: t) (.ref 0) (.int 3) = some (.int k) := rfl
theorem pt1 {z : Int} : putItem (box ns i left k :: t) (.ref 0) (.int 1) (.int z) = some (box ns z left k :: t) := rfl
theorem pt2 {z : Int} : putItem (box ns i left k :: t) (.ref 0) (.int 2) (.int z) = some (box ns i z k :: t) := rfl
theorem pt3 {z : Int} : putItem (box ns i left k :: t) (.ref 0) (.int 3) (.int z) = some (box ns i left z :: t) := rfl
/-- a take from 0 ≤ .. : what is left after many digits; the digit lies below many -/
theorem take_ev {many : Int} (hm : 1 ≤ many) (hm2 : many < 1073741824) (h : many ≤ left) : s__law_take [.ref 0, .int many] (box ns i left k :: t) = .ok (.int (left.fmod many)) (box ns i (left.fdiv many) k :: t) := by
  have n : ¬ left < many := by omega
  have z : many ≠ 0 := by omega
  have zz : many.natAbs < 1073741824 := by omega
  simp [s__law_take, runFn, if__law_take, dSs, dS, dE, dEs, dT, dTg, it2, pt2, cmpop, pyOrd, n, tru, bltop, bInt, binop, z, zz, tgSet]
  exact finish_box fun _ => by simp [below]
theorem atI_ints {ns : List Int} {j : Int} (h0 : 0 ≤ j) (h1 : j < ns.length) : ∃ z, L2.atI (ns.map PV.int) j = some (.int z) := by
  obtain ⟨n, rfl⟩ : ∃ n : Nat, j = n := ⟨j.toNat, by omega⟩
  have hn : n < ns.length := by omega
  exact ⟨ns[n], L2.atI_nat (by simp [hn])⟩
theorem v_pos {n k : Int} (hk : 0 ≤ k) : 0 ≤ (n.fmod 2147483647 * n.fmod 2147483647 + k * 7919 + 11).fdiv 64 + 36028797018963968 := by
  have h1 := Int.fmod_nonneg_of_pos n (b := 2147483647) (by decide)
  have h3 : 0 ≤ n.fmod 2147483647 * n.fmod 2147483647 := Int.mul_nonneg h1 h1
  have := Int.fdiv_nonneg (a := n.fmod 2147483647 * n.fmod 2147483647 + k * 7919 + 11) (b := 64) (by omega) (by decide)
  omega
theorem fill_ev (h0 : 0 ≤ i) (h1 : i ≤ ns.length) (hk : 0 ≤ k) : ∃ v i' : Int, 0 ≤ v ∧ 0 ≤ i' ∧ i' ≤ ns.length ∧ s__law_fill [.ref 0] (box ns i left k :: t) = .ok (.int v) (box ns i' left (k + 1) :: t) := by
  by_cases hi : i < ns.length
  · obtain ⟨z, hz⟩ := atI_ints h0 hi
    have hn : ns ≠ [] := by
      intro q
      subst q
      simp at hi
      omega
    obtain ⟨l, hl⟩ : ∃ z, L2.atI (ns.map PV.int) (-1) = some (.int z) := by
      have e : ns.map PV.int = ns.dropLast.map PV.int ++ [.int (ns.getLast hn)] := by
        rw [← List.map_singleton, ← List.map_append, List.dropLast_concat_getLast]
      exact ⟨_, by rw [e]; exact L2.atI_last _ _⟩
    by_cases hz0 : z < 0
    · by_cases hb : 1000000000000000000 ≤ -1 - z
      · refine ⟨?w11, i + 1, ?h11, by omega, by omega, ?e11⟩
        case e11 =>
          simp [s__law_fill, runFn, if__law_fill, dSs, dS, dE, dEs, dT, dTg, it0, it1, it3, pt3, pt1, tgSet, hi, hn, hz, hl, hz0, hb, intOf, ev_add, ev_sub, ev_lt, ev_le, ev_ge, ev_gt, ev_bl, ev_lst, ev_trl, ev_ll, ev_int, ev_pow, ev_mr, sm1, sm2, sm3, ev_f64, ev_m1, ev_m2, small_mod]
          exact finish_box (v := .int _) fun _ => rfl
        omega
      · by_cases he : (ns.length : Int) ≤ i + 1
        · refine ⟨?w12, i + 1, ?h12, by omega, by omega, ?e12⟩
          case e12 =>
            simp [s__law_fill, runFn, if__law_fill, dSs, dS, dE, dEs, dT, dTg, it0, it1, it3, pt3, pt1, tgSet, hi, hn, hz, hl, hz0, hb, he, intOf, ev_add, ev_sub, ev_lt, ev_le, ev_ge, ev_gt, ev_bl, ev_lst, ev_trl, ev_ll, ev_int, ev_pow, ev_mr, sm1, sm2, sm3, ev_f64, ev_m1, ev_m2, small_mod]
            exact finish_box (v := .int _) fun _ => rfl
          exact v_pos (by omega)
        · refine ⟨?w13, i + 1, ?h13, by omega, by omega, ?e13⟩
          case e13 =>
            simp [s__law_fill, runFn, if__law_fill, dSs, dS, dE, dEs, dT, dTg, it0, it1, it3, pt3, pt1, tgSet, hi, hn, hz, hl, hz0, hb, he, intOf, ev_add, ev_sub, ev_lt, ev_le, ev_ge, ev_gt, ev_bl, ev_lst, ev_trl, ev_ll, ev_int, ev_pow, ev_mr, sm1, sm2, sm3, ev_f64, ev_m1, ev_m2, small_mod]
            exact finish_box (v := .int _) fun _ => rfl
          exact v_pos (by omega)
    · by_cases hb : 1000000000000000000 ≤ z
      · refine ⟨?w14, i + 1, ?h14, by omega, by omega, ?e14⟩
        case e14 =>
          simp [s__law_fill, runFn, if__law_fill, dSs, dS, dE, dEs, dT, dTg, it0, it1, it3, pt3, pt1, tgSet, hi, hn, hz, hl, hz0, hb, intOf, ev_add, ev_sub, ev_lt, ev_le, ev_ge, ev_gt, ev_bl, ev_lst, ev_trl, ev_ll, ev_int, ev_pow, ev_mr, sm1, sm2, sm3, ev_f64, ev_m1, ev_m2, small_mod]
          exact finish_box (v := .int _) fun _ => rfl
        omega
      · by_cases he : (ns.length : Int) ≤ i + 1
        · refine ⟨?w15, i + 1, ?h15, by omega, by omega, ?e15⟩
          case e15 =>
            simp [s__law_fill, runFn, if__law_fill, dSs, dS, dE, dEs, dT, dTg, it0, it1, it3, pt3, pt1, tgSet, hi, hn, hz, hl, hz0, hb, he, intOf, ev_add, ev_sub, ev_lt, ev_le, ev_ge, ev_gt, ev_bl, ev_lst, ev_trl, ev_ll, ev_int, ev_pow, ev_mr, sm1, sm2, sm3, ev_f64, ev_m1, ev_m2, small_mod]
            exact finish_box (v := .int _) fun _ => rfl
          exact v_pos (by omega)
        · refine ⟨?w16, i + 1, ?h16, by omega, by omega, ?e16⟩
          case e16 =>
            simp [s__law_fill, runFn, if__law_fill, dSs, dS, dE, dEs, dT, dTg, it0, it1, it3, pt3, pt1, tgSet, hi, hn, hz, hl, hz0, hb, he, intOf, ev_add, ev_sub, ev_lt, ev_le, ev_ge, ev_gt, ev_bl, ev_lst, ev_trl, ev_ll, ev_int, ev_pow, ev_mr, sm1, sm2, sm3, ev_f64, ev_m1, ev_m2, small_mod]
            exact finish_box (v := .int _) fun _ => rfl
          exact v_pos (by omega)
  · have hi2 : ns.length ≤ i := by omega
    by_cases hn : ns = []
    · subst hn
      have hz : ¬ i < 0 := by omega
      refine ⟨?w, i, ?h, h0, h1, ?e⟩
      case e =>
        simp [s__law_fill, runFn, if__law_fill, dSs, dS, dE, dEs, dT, dTg, it0, it1, it3, pt3, pt1, tgSet, hi, hz, intOf, ev_add, ev_sub, ev_lt, ev_le, ev_ge, ev_gt, ev_bl, ev_lst, ev_trl, ev_ll, ev_int, ev_pow, ev_mr, sm1, sm2, sm3, ev_f64, ev_m1, ev_m2, small_mod]
        exact finish_box (v := .int _) fun _ => rfl
      exact v_pos (by omega)
    · obtain ⟨z, hz⟩ : ∃ z, L2.atI (ns.map PV.int) (-1) = some (.int z) := by
        have e : ns.map PV.int = ns.dropLast.map PV.int ++ [.int (ns.getLast hn)] := by
          rw [← List.map_singleton, ← List.map_append, List.dropLast_concat_getLast]
        exact ⟨_, by rw [e]; exact L2.atI_last _ _⟩
      refine ⟨?w2, i, ?h2, h0, h1, ?e2⟩
      case e2 =>
        simp [s__law_fill, runFn, if__law_fill, dSs, dS, dE, dEs, dT, dTg, it0, it1, it3, pt3, pt1, tgSet, hi, hi2, hn, hz, intOf, ev_add, ev_sub, ev_lt, ev_le, ev_ge, ev_gt, ev_bl, ev_lst, ev_trl, ev_ll, ev_int, ev_pow, ev_mr, sm1, sm2, sm3, ev_f64, ev_m1, ev_m2, small_mod]
        exact finish_box (v := .int _) fun _ => rfl
      exact v_pos (by omega)
/-- a digit: only its bounds matter *)-/
theorem take_any {many : Int} (h0 : 0 ≤ i) (h1 : i ≤ ns.length) (hk : 0 ≤ k) (hl : 0 ≤ left) (hm : 1 ≤ many) (hm2 : many < 1073741824) :
    ∃ d i' left' k' : Int, 0 ≤ d ∧ d < many ∧ 0 ≤ i' ∧ i' ≤ ns.length ∧ 0 ≤ left' ∧ 0 ≤ k' ∧ s__law_take [.ref 0, .int many] (box ns i left k :: t) = .ok (.int d) (box ns i' left' k' :: t) := by
  by_cases h : left < many
  · obtain ⟨v, i', q1, q2, q3, q4⟩ := fill_ev (left := left) (t := t) h0 h1 hk
    have z : many ≠ 0 := by omega
    have zz : many.natAbs < 1073741824 := by omega
    refine ⟨v.fmod many, i', v.fdiv many, k + 1, Int.fmod_nonneg_of_pos _ (by omega), Int.fmod_lt_of_pos _ (by omega), q2, q3, Int.fdiv_nonneg q1 (by omega), by omega, ?_⟩
    simp [s__law_take, runFn, if__law_take, dSs, dS, dE, dEs, dT, dTg, it2, pt2, cmpop, pyOrd, h, tru, bltop, bInt, binop, z, zz, tgSet, q4]
    exact finish_box fun _ => rfl
  · refine ⟨_, _, _, _, Int.fmod_nonneg_of_pos _ (by omega), Int.fmod_lt_of_pos _ (by omega), h0, h1, Int.fdiv_nonneg hl (by omega), hk, take_ev hm hm2 (by omega)⟩
end
end K13
namespace K13
open PySem HW
/-- a function that leaves the cells as they are *)-/
theorem finish_same {h : PHeap} {v : PV} (hv : below h.length v = true) : HW.finish false h v h = .ok v h := by
  have h1 : okOuter h h = true := by simp [okOuter]
  have h2 : frz h h.length 12 v = some v := by
    unfold frz
    rw [if_pos hv]
  unfold HW.finish
  rw [h1, h2]
  simp
/-- a value of plain data -/
def isI : PV → Bool
  | .int _ => true
  | _ => false
def plainV : PV → Bool
  | .ref _ => false
  | .dct _ => false
  | .scr _ => false
  | _ => true
theorem is_integer_ev {h : PHeap} {v : PV} (hv : plainV v = true) : s_is_integer [v] h = .ok (.bl (isI v)) h := by
  cases v <;> simp [plainV] at hv <;> simp [s_is_integer, runFn, if_is_integer, dSs, dS, dE, dEs, bltop, bIsi, tyOf, tyNames, isTy, isI, tru, asList] <;> exact finish_same rfl
theorem law_is_int_ev {h : PHeap} {v : PV} (hv : plainV v = true) : s__law_is_int [v] h = .ok (.bl (isI v)) h := by
  cases v <;> simp [plainV] at hv <;> simp [s__law_is_int, runFn, if__law_is_int, dSs, dS, dE, dEs, bltop, bIsi, tyOf, tyNames, isTy, isI, tru, asList] <;> exact finish_same rfl
/-- a list comprehension whose turns leave the cells *)-/
theorem comp_gen {h : PHeap} {chk : Chk} {tg : PV → HW.Env → Option HW.Env} {ok : HW.Env → PHeap → R Bool} {elt : HW.Env → PHeap → R PV} {env : HW.Env} (p : PV → Bool) (f : PV → PV) (hc : chk h = true) :
    ∀ (xs acc : List PV), (∀ x ∈ xs, ∃ e1, tg x env = some e1 ∧ ok e1 h = .ok (p x) h ∧ (p x = true → elt e1 h = .ok (f x) h)) → acc.length + xs.length ≤ LIM →
      compGo chk tg ok elt env xs h acc = .ok (acc ++ (xs.filter p).map f) h
  | [], acc, _, _ => by simp [compGo, hc]
  | x :: xs, acc, hx, hl => by
    obtain ⟨e1, q1, q2, q3⟩ := hx x (List.mem_cons_self ..)
    simp only [List.length_cons] at hl
    have r : ∀ y ∈ xs, _ := fun y hy => hx y (List.mem_cons_of_mem _ hy)
    cases hp : p x with
    | true =>
      have ih := comp_gen p f hc xs (acc ++ [f x]) r (by simp; omega)
      simp only [compGo, hc, if_true, q1, q2, hp, R.bind_ok, q3 hp]
      rw [if_pos (by omega), ih]
      simp [hp]
    | false =>
      have ih := comp_gen p f hc xs acc r (by omega)
      simp [compGo, hc, q1, q2, hp, ih]
theorem asBools_map (f : PV → Bool) : ∀ xs : List PV, asBools (xs.map fun x => .bl (f x)) = some (xs.map f)
  | [] => rfl
  | x :: xs => by simp [asBools, asBools_map f xs]
theorem all_map {h : PHeap} {al : Bool} (f : PV → Bool) (xs : List PV) : convop .all al (.lst (xs.map fun x => .bl (f x))) h = .ok (.bl (xs.all f)) h := by
  simp [convop, asList, asBools_map, List.all_map]
theorem any_map {h : PHeap} {al : Bool} (f : PV → Bool) (xs : List PV) : convop .any al (.lst (xs.map fun x => .bl (f x))) h = .ok (.bl (xs.any f)) h := by
  simp [convop, asList, asBools_map, List.any_map]
def isNatV : PV → Bool
  | .int i => decide (0 ≤ i)
  | _ => false
theorem nats_ev {h : PHeap} {env : HW.Env} (he : env.length = 3) {xs : List PV} (hx : ∀ x ∈ xs, plainV x = true) (hl : xs.length ≤ LIM) :
    compGo (fun _ => true) (tgSet (.nm 1)) (dIfs [s_is_integer] .nil) (dE [s_is_integer] (.and (.call 0 (.cons (.var 1) .nil)) (.cmp .ge (.var 1) (.cst (.int 0))))) env xs h [] = .ok (xs.map fun x => .bl (isNatV x)) h := by
  have := comp_gen (h := h) (chk := fun _ => true) (tg := tgSet (.nm 1)) (ok := dIfs [s_is_integer] .nil) (elt := dE [s_is_integer] (.and (.call 0 (.cons (.var 1) .nil)) (.cmp .ge (.var 1) (.cst (.int 0))))) (env := env) (fun _ => true) (fun x => .bl (isNatV x)) rfl xs [] (fun x q => ⟨env.set 1 (some x), by simp [tgSet, he], by simp [dIfs], fun _ => by
    have := hx x q
    simp [dE, dEs, he, is_integer_ev this]
    cases x <;> simp [plainV] at this <;> simp [isI, tru, isNatV, cmpop, pyOrd]⟩) (by simpa using hl)
  rw [this, List.filter_eq_self.mpr (fun _ _ => rfl)]
  rfl
end K13
namespace K13
open PySem HW
def pairLt : PV → Bool
  | .tup [.int a, .int b] => decide (a < b)
  | _ => false
theorem mem_zipOf {xs ys : List PV} {p : PV} (h : p ∈ zipOf xs ys) : ∃ x y, x ∈ xs ∧ y ∈ ys ∧ p = .tup [x, y] := by
  unfold zipOf at h
  rw [← List.map_uncurry_zip_eq_zipWith] at h
  obtain ⟨⟨x, y⟩, h1, rfl⟩ := List.mem_map.mp h
  exact ⟨x, y, (List.of_mem_zip h1).1, (List.of_mem_zip h1).2, rfl⟩
theorem cut_tail (xs : List PV) : cut xs (some 1) none = xs.drop 1 := by
  unfold cut
  have e : HT.sIx xs.length 0 (some 1) = min 1 xs.length := HT.sIx_nat _ _ 1
  rw [e, HT.sIx_none]
  cases xs with
  | nil => rfl
  | cons x xs => simp
def isFaceV : PV → Bool
  | .tup xs => !xs.isEmpty && xs.all isNatV && (zipOf xs (xs.drop 1)).all pairLt
  | _ => false
def plains (xs : List PV) : Prop := ∀ x ∈ xs, plainV x = true
end K13
namespace K13
abbrev Fc := List Int
/-! faces within a face -/
def subsG (acc : List Fc) (f : Fc) : List Fc := f.foldl (fun acc c => acc ++ acc.map (· ++ [c])) acc
def subs (f : Fc) : List Fc := subsG [[]] f
theorem mem_subsG {g : Fc} : ∀ {f : Fc} {acc : List Fc}, g ∈ subsG acc f ↔ ∃ a ∈ acc, ∃ t, t.Sublist f ∧ g = a ++ t
  | [], acc => by
    constructor
    · intro h
      exact ⟨g, h, [], List.Sublist.slnil, by simp⟩
    · rintro ⟨a, h1, t, h2, rfl⟩
      rw [List.sublist_nil.mp h2]
      simpa [subsG] using h1
  | c :: f, acc => by
    show g ∈ subsG (acc ++ acc.map (· ++ [c])) f ↔ _
    rw [mem_subsG]
    constructor
    · rintro ⟨a, h1, t, h2, rfl⟩
      rcases List.mem_append.mp h1 with h | h
      · exact ⟨a, h, t, h2.cons c, rfl⟩
      · obtain ⟨b, h3, rfl⟩ := List.mem_map.mp h
        exact ⟨b, h3, c :: t, h2.cons₂ c, by simp⟩
    · rintro ⟨a, h1, t, h2, rfl⟩
      rcases List.sublist_cons_iff.mp h2 with h | ⟨r, rfl, h⟩
      · exact ⟨a, List.mem_append.mpr (.inl h1), t, h, rfl⟩
      · exact ⟨a ++ [c], List.mem_append.mpr (.inr (List.mem_map.mpr ⟨a, h1, rfl⟩)), r, h, by simp⟩
theorem mem_subs {f g : Fc} : g ∈ subs f ↔ g.Sublist f := by
  unfold subs
  rw [mem_subsG]
  simp
theorem subsG_cons : ∀ (f : Fc) (acc : List Fc), (∀ a ∈ acc, a ≠ []) → ∃ r, subsG ([] :: acc) f = [] :: r ∧ ∀ a ∈ r, a ≠ []
  | [], acc, h => ⟨acc, rfl, h⟩
  | c :: f, acc, h => by
    show ∃ r, subsG (([] :: acc) ++ ([] :: acc).map (· ++ [c])) f = _ ∧ _
    rw [List.cons_append]
    refine subsG_cons f _ fun a ha => ?_
    rcases List.mem_append.mp ha with q | q
    · exact h a q
    · obtain ⟨b, _, rfl⟩ := List.mem_map.mp q
      simp
theorem length_subsG : ∀ (f : Fc) (acc : List Fc), (subsG acc f).length = acc.length * 2 ^ f.length
  | [], acc => by simp [subsG]
  | c :: f, acc => by
    show (subsG (acc ++ acc.map (· ++ [c])) f).length = _
    rw [length_subsG]
    simp [Nat.pow_succ]
    rw [← Nat.mul_two, Nat.mul_assoc, Nat.mul_comm 2]
def parts (f : Fc) : List Fc := (subs f).drop 1
theorem parts_eq (f : Fc) : (subs f).filter (fun g => !g.isEmpty) = parts f := by
  obtain ⟨r, h1, h2⟩ := subsG_cons f [] (by simp)
  unfold parts subs
  rw [h1]
  simp
  intro a ha q
  exact h2 a ha q
theorem mem_parts {f g : Fc} : g ∈ parts f ↔ g ≠ [] ∧ g.Sublist f := by
  rw [← parts_eq, List.mem_filter, mem_subs]
  cases g <;> simp
theorem length_parts (f : Fc) : (parts f).length ≤ 2 ^ f.length := by
  unfold parts subs
  rw [List.length_drop, length_subsG]
  simp
/-! each one once -/
def ins (S : List Fc) (f : Fc) : List Fc := if S.any (fun g => decide (g = f)) then S else S ++ [f]
theorem mem_ins {S : List Fc} {f g : Fc} : g ∈ ins S f ↔ g ∈ S ∨ g = f := by
  unfold ins
  split
  · rename_i h
    obtain ⟨x, h1, h2⟩ := List.any_eq_true.mp h
    have := of_decide_eq_true h2
    subst this
    exact ⟨.inl, fun h => h.elim id (fun e => e ▸ h1)⟩
  · simp
theorem nodup_ins {S : List Fc} {f : Fc} (h : S.Nodup) : (ins S f).Nodup := by
  unfold ins
  split
  · exact h
  · rename_i q
    refine List.nodup_append.mpr ⟨h, by simp, ?_⟩
    rintro a ha b hb rfl
    refine q (List.any_eq_true.mpr ⟨a, ha, ?_⟩)
    simpa using hb
theorem length_ins {S : List Fc} {f : Fc} : (ins S f).length ≤ S.length + 1 := by
  unfold ins
  split <;> simp
def insA (S : List Fc) (fs : List Fc) : List Fc := fs.foldl ins S
theorem mem_insA {g : Fc} : ∀ {fs S : List Fc}, g ∈ insA S fs ↔ g ∈ S ∨ g ∈ fs
  | [], S => by simp [insA]
  | f :: fs, S => by
    show g ∈ insA (ins S f) fs ↔ _
    rw [mem_insA, mem_ins, List.mem_cons, or_assoc]
theorem nodup_insA : ∀ {fs S : List Fc}, S.Nodup → (insA S fs).Nodup
  | [], S, h => h
  | f :: fs, S, h => nodup_insA (fs := fs) (S := ins S f) (nodup_ins h)
theorem length_insA : ∀ {fs S : List Fc}, (insA S fs).length ≤ S.length + fs.length
  | [], S => by simp [insA]
  | f :: fs, S => by
    show (insA (ins S f) fs).length ≤ _
    have := length_insA (fs := fs) (S := ins S f)
    have := length_ins (S := S) (f := f)
    simp only [List.length_cons]
    omega
def allG (S : List Fc) (s : List Fc) : List Fc := s.foldl (fun S f => insA S (parts f)) S
def allF (s : List Fc) : List Fc := allG [] s
theorem mem_allG {g : Fc} : ∀ {s S : List Fc}, g ∈ allG S s ↔ g ∈ S ∨ ∃ f ∈ s, g ∈ parts f
  | [], S => by simp [allG]
  | f :: s, S => by
    show g ∈ allG (insA S (parts f)) s ↔ _
    rw [mem_allG, mem_insA]
    simp [or_assoc]
theorem nodup_allG : ∀ {s S : List Fc}, S.Nodup → (allG S s).Nodup
  | [], S, h => h
  | f :: s, S, h => nodup_allG (s := s) (S := insA S (parts f)) (nodup_insA h)
theorem length_allG {m : Nat} : ∀ {s S : List Fc}, (∀ f ∈ s, f.length ≤ m) → (allG S s).length ≤ S.length + s.length * 2 ^ m
  | [], S, _ => by simp [allG]
  | f :: s, S, h => by
    show (allG (insA S (parts f)) s).length ≤ _
    have h1 := length_allG (s := s) (S := insA S (parts f)) fun g q => h g (List.mem_cons_of_mem _ q)
    have h2 := length_insA (fs := parts f) (S := S)
    have h3 := length_parts f
    have h4 : 2 ^ f.length ≤ 2 ^ m := Nat.pow_le_pow_right (by decide) (h f (List.mem_cons_self ..))
    rw [List.length_cons, Nat.add_mul]
    omega
theorem mem_allF {s : List Fc} {g : Fc} : g ∈ allF s ↔ ∃ f ∈ s, g ≠ [] ∧ g.Sublist f := by
  unfold allF
  rw [mem_allG]
  simp [mem_parts]
theorem nodup_allF (s : List Fc) : (allF s).Nodup := nodup_allG List.nodup_nil
theorem allF_sub {s : List Fc} {g k : Fc} (h : g ∈ allF s) (hk : k.Sublist g) (hn : k ≠ []) : k ∈ allF s := by
  obtain ⟨f, h1, _, h3⟩ := mem_allF.mp h
  exact mem_allF.mpr ⟨f, h1, hn, hk.trans h3⟩
/-! tables -/
abbrev Tb := List (Fc × Int)
def get : Tb → Fc → Int
  | [], _ => 0
  | p :: T, g => if p.1 = g then p.2 else get T g
def put (T : Tb) (f : Fc) (n : Int) : Tb := if T.any (fun e => decide (e.1 = f)) then T.map (fun e => if e.1 = f then (e.1, n) else e) else T ++ [(f, n)]
def nod (T : Tb) : Prop := (T.map (·.1)).Nodup
theorem put_keys (T : Tb) (f : Fc) (n : Int) : (put T f n).map (·.1) = ins (T.map (·.1)) f := by
  unfold put ins
  have e : (T.map (·.1)).any (fun g => decide (g = f)) = T.any (fun e => decide (e.1 = f)) := by
    rw [List.any_map]
    rfl
  rw [e]
  split
  · rw [List.map_map]
    refine List.map_congr_left fun p _ => ?_
    simp only [Function.comp]
    split <;> rfl
  · simp
theorem nod_put {T : Tb} (h : nod T) (f : Fc) (n : Int) : nod (put T f n) := by
  unfold nod
  rw [put_keys]
  exact nodup_ins h
/-- the sum of φ's values, each so many times -/
def lin (φ : Fc → Int) : Tb → Int
  | [] => 0
  | p :: T => φ p.1 * p.2 + lin φ T
theorem lin_append (φ : Fc → Int) : ∀ A B : Tb, lin φ (A ++ B) = lin φ A + lin φ B
  | [], B => by simp [lin]
  | p :: A, B => by simp [lin, lin_append φ A B, Int.add_assoc]
theorem lin_perm (φ : Fc → Int) {A B : Tb} (h : A.Perm B) : lin φ A = lin φ B := by
  induction h with
  | nil => rfl
  | cons x _ ih => simp [lin, ih]
  | swap x y l => simp [lin]; omega
  | trans _ _ ih1 ih2 => rw [ih1, ih2]
theorem lin_congr {φ ψ : Fc → Int} : ∀ {T : Tb}, (∀ p ∈ T, φ p.1 = ψ p.1) → lin φ T = lin ψ T
  | [], _ => rfl
  | p :: T, h => by
    unfold lin
    rw [h p (List.mem_cons_self ..), lin_congr fun q hq => h q (List.mem_cons_of_mem _ hq)]
theorem lin_zero {φ : Fc → Int} {T : Tb} (h : ∀ p ∈ T, φ p.1 = 0) : lin φ T = 0 := by
  induction T with
  | nil => rfl
  | cons p T ih => rw [lin, h p (List.mem_cons_self ..), ih fun q hq => h q (List.mem_cons_of_mem _ hq)]; simp
theorem get_none {f : Fc} : ∀ {T : Tb}, (∀ p ∈ T, p.1 ≠ f) → get T f = 0
  | [], _ => rfl
  | p :: T, h => by
    rw [get, if_neg (h p (List.mem_cons_self ..)), get_none fun q hq => h q (List.mem_cons_of_mem _ hq)]
theorem get_mem {p : Fc × Int} : ∀ {T : Tb}, nod T → p ∈ T → get T p.1 = p.2
  | q :: T, h, hp => by
    unfold nod at h
    rw [List.map_cons, List.nodup_cons] at h
    rcases List.mem_cons.mp hp with e | e
    · subst e
      rw [get, if_pos rfl]
    · rw [get, if_neg, get_mem h.2 e]
      intro x
      exact h.1 (x ▸ List.mem_map.mpr ⟨p, e, rfl⟩)
theorem lin_keys_no (φ : Fc → Int) (f : Fc) (n : Int) : ∀ {T : Tb}, (∀ p ∈ T, p.1 ≠ f) → lin φ (T.map fun e => if e.1 = f then (e.1, n) else e) = lin φ T
  | [], _ => rfl
  | p :: T, h => by
    rw [List.map_cons, if_neg (h p (List.mem_cons_self ..)), lin, lin, lin_keys_no φ f n fun q hq => h q (List.mem_cons_of_mem _ hq)]
theorem lin_put_in (φ : Fc → Int) (f : Fc) (n : Int) : ∀ {T : Tb}, nod T → (∃ p ∈ T, p.1 = f) → lin φ (T.map fun e => if e.1 = f then (e.1, n) else e) = lin φ T + φ f * (n - get T f)
  | p :: T, h, hp => by
    have h' := h
    unfold nod at h'
    rw [List.map_cons, List.nodup_cons] at h'
    by_cases e : p.1 = f
    · have no : ∀ q ∈ T, q.1 ≠ f := fun q hq x => h'.1 (e ▸ x ▸ List.mem_map.mpr ⟨q, hq, rfl⟩)
      rw [List.map_cons, if_pos e, lin, lin, lin_keys_no φ f n no, get, if_pos e, e]
      simp only [Int.mul_sub]
      omega
    · obtain ⟨q, h1, h2⟩ := hp
      have : ∃ p ∈ T, p.1 = f := by
        rcases List.mem_cons.mp h1 with x | x
        · exact absurd (x ▸ h2) e
        · exact ⟨q, x, h2⟩
      rw [List.map_cons, if_neg e, lin, lin, lin_put_in φ f n h'.2 this, get, if_neg e]
      omega
theorem lin_put (φ : Fc → Int) {T : Tb} (h : nod T) (f : Fc) (n : Int) : lin φ (put T f n) = lin φ T + φ f * (n - get T f) := by
  unfold put
  split
  · rename_i q
    obtain ⟨p, h1, h2⟩ := List.any_eq_true.mp q
    exact lin_put_in φ f n h ⟨p, h1, of_decide_eq_true h2⟩
  · rename_i q
    have no : ∀ p ∈ T, p.1 ≠ f := fun p hp e => q (List.any_eq_true.mpr ⟨p, hp, by simpa using e⟩)
    rw [lin_append, get_none no]
    simp [lin]
def upd (T : Tb) (p : Fc × Int) : Tb := put T p.1 (get T p.1 + p.2)
def updA (T L : Tb) : Tb := L.foldl upd T
theorem nod_upd {T : Tb} (h : nod T) (p : Fc × Int) : nod (upd T p) := nod_put h _ _
theorem nod_updA : ∀ {L T : Tb}, nod T → nod (updA T L)
  | [], T, h => h
  | p :: L, T, h => nod_updA (L := L) (nod_upd h p)
theorem lin_updA (φ : Fc → Int) : ∀ {L T : Tb}, nod T → lin φ (updA T L) = lin φ T + lin φ L
  | [], T, h => by simp [updA, lin]
  | p :: L, T, h => by
    show lin φ (updA (upd T p) L) = _
    rw [lin_updA φ (nod_upd h p), upd, lin_put φ h, lin]
    have : get T p.1 + p.2 - get T p.1 = p.2 := by omega
    rw [this]
    omega
def one1 (g : Fc) : Fc → Int := fun f => if f = g then 1 else 0
theorem get_lin (g : Fc) : ∀ {T : Tb}, nod T → get T g = lin (one1 g) T
  | [], _ => rfl
  | p :: T, h => by
    unfold nod at h
    rw [List.map_cons, List.nodup_cons] at h
    rw [get, lin, one1]
    split
    · rename_i e
      have : lin (one1 g) T = 0 := lin_zero fun q hq => by
        unfold one1
        rw [if_neg]
        intro x
        exact h.1 (e ▸ x ▸ List.mem_map.mpr ⟨q, hq, rfl⟩)
      rw [this]
      simp
    · rw [get_lin g (T := T) h.2]
      simp
def nz (p : Fc × Int) : Bool := decide (p.2 ≠ 0)
theorem lin_nz (φ : Fc → Int) : ∀ T : Tb, lin φ (T.filter nz) = lin φ T
  | [] => rfl
  | p :: T => by
    rw [List.filter_cons]
    split
    · rw [lin, lin, lin_nz φ T]
    · rename_i h
      have : p.2 = 0 := by simpa [nz] using h
      rw [lin, this, lin_nz φ T]
      simp
/-! sides -/
def sdA (f : Fc) : Tb := (List.range f.length).map fun k => (f.take k ++ f.drop (k + 1), 1 - 2 * ((k : Int) % 2))
def sd (f : Fc) : Tb := if f.length = 1 then [] else sdA f
def D : (Fc → Int) → Fc → Int
  | _, [] => 0
  | φ, x :: f => φ f - D (fun s => φ (x :: s)) f
theorem lin_map (φ : Fc → Int) (u : Fc → Fc) : ∀ T : Tb, lin φ (T.map fun p => (u p.1, -p.2)) = -lin (fun s => φ (u s)) T
  | [] => rfl
  | p :: T => by
    rw [List.map_cons, lin, lin, lin_map φ u T]
    simp only [Int.mul_neg]
    omega
theorem lin_sdA : ∀ (f : Fc) (φ : Fc → Int), lin φ (sdA f) = D φ f
  | [], φ => rfl
  | x :: f, φ => by
    have e : sdA (x :: f) = (f, 1) :: (sdA f).map fun p => (x :: p.1, -p.2) := by
      unfold sdA
      rw [List.length_cons, List.range_succ_eq_map, List.map_cons, List.map_map, List.map_map]
      congr 1
      refine List.map_congr_left fun k _ => ?_
      simp only [Function.comp, Prod.mk.injEq]
      refine ⟨by simp, ?_⟩
      omega
    rw [e, lin, lin_map, lin_sdA f, D]
    simp
    omega
theorem D_sub (φ ψ : Fc → Int) : ∀ (f : Fc), D (fun s => φ s - ψ s) f = D φ f - D ψ f := by
  intro f
  induction f generalizing φ ψ with
  | nil => rfl
  | cons x f ih =>
    simp only [D]
    rw [ih]
    omega
theorem DD : ∀ (f : Fc) (φ : Fc → Int), D (fun s => D φ s) f = 0
  | [], φ => rfl
  | x :: f, φ => by
    show D φ f - D (fun s => D φ (x :: s)) f = 0
    have e : (fun s => D φ (x :: s)) = fun s => φ s - D (fun t => φ (x :: t)) s := rfl
    rw [e, D_sub φ (fun s => D (fun t => φ (x :: t)) s), DD f]
    omega
theorem D_congr : ∀ {f : Fc} {φ ψ : Fc → Int}, (∀ s, s.length + 1 = f.length → φ s = ψ s) → D φ f = D ψ f
  | [], φ, ψ, _ => rfl
  | x :: f, φ, ψ, h => by
    rw [D, D, h f rfl, D_congr (f := f) (φ := fun s => φ (x :: s)) (ψ := fun s => ψ (x :: s)) fun s hs => h _ (by simp [hs])]
def cutE (φ : Fc → Int) : Fc → Int := fun s => if s = [] then 0 else φ s
theorem lin_sd (f : Fc) (φ : Fc → Int) : lin φ (sd f) = D (cutE φ) f := by
  unfold sd
  split
  · rename_i h
    obtain ⟨x, rfl⟩ := List.length_eq_one_iff.mp h
    rfl
  · rename_i h
    rw [lin_sdA]
    refine D_congr fun s hs => ?_
    rw [cutE, if_neg]
    rintro rfl
    exact h hs.symm
/-- the coboundary of a value -/
def del (φ : Fc → Int) (f : Fc) : Int := lin φ (sd f)
theorem del_del (φ : Fc → Int) (f : Fc) : del (del φ) f = 0 := by
  unfold del
  rw [lin_sd]
  have : cutE (fun f => lin φ (sd f)) = fun s => D (cutE φ) s := by
    funext s
    unfold cutE
    split
    · rename_i h
      subst h
      rfl
    · exact lin_sd s φ
  rw [this, DD]
theorem sd_mem {f : Fc} {p : Fc × Int} (h : p ∈ sd f) : p.1.Sublist f ∧ p.1.length + 1 = f.length ∧ p.1 ≠ [] := by
  unfold sd at h
  split at h
  · cases h
  · rename_i q
    obtain ⟨k, hk, rfl⟩ := List.mem_map.mp h
    have hk := List.mem_range.mp hk
    have l : (f.take k ++ f.drop (k + 1)).length + 1 = f.length := by
      simp
      omega
    refine ⟨?_, l, ?_⟩
    · have : (f.take k ++ f.drop (k + 1)).Sublist (f.take k ++ f.drop k) := List.Sublist.append (List.Sublist.refl _) (by
        rw [← List.drop_drop]
        exact List.drop_sublist _ _)
      rwa [List.take_append_drop] at this
    · intro e
      simp only at e
      rw [e] at l
      exact q l.symm
/-! the boundary -/
def bl (T : Tb) : Tb := T.flatMap fun p => (sd p.1).map fun q => (q.1, q.2 * p.2)
theorem lin_mulr (φ : Fc → Int) (n : Int) : ∀ T : Tb, lin φ (T.map fun q => (q.1, q.2 * n)) = lin φ T * n
  | [] => by simp [lin]
  | p :: T => by
    rw [List.map_cons, lin, lin, lin_mulr φ n T, Int.add_mul, Int.mul_assoc]
theorem lin_bl (φ : Fc → Int) : ∀ T : Tb, lin φ (bl T) = lin (del φ) T
  | [] => rfl
  | p :: T => by
    have e : bl (p :: T) = ((sd p.1).map fun q => (q.1, q.2 * p.2)) ++ bl T := by simp [bl]
    rw [e, lin_append, lin_bl φ T, lin_mulr, lin]
    rfl
def bnd (T : Tb) : Tb := updA [] (bl T)
theorem nod_nil : nod [] := List.nodup_nil
theorem nod_bnd (T : Tb) : nod (bnd T) := nod_updA nod_nil
theorem lin_bnd (φ : Fc → Int) (T : Tb) : lin φ (bnd T) = lin (del φ) T := by
  unfold bnd
  rw [lin_updA φ nod_nil, lin_bl]
  simp [lin]
end K13
namespace K13
open PySem HW
/-! values of data: what their parts are like -/
mutual
def tame : Nat → PV → Bool
  | _, .non => true
  | _, .bl _ => true
  | _, .int _ => true
  | _, .str s => PyData.strOk s
  | n + 1, .tup xs => tames n xs
  | n + 1, .lst xs => tames n xs
  | _, _ => false
def tames : Nat → List PV → Bool
  | _, [] => true
  | n, x :: xs => tame n x && tames n xs
end
mutual
theorem tame_toD : ∀ (n : Nat) (v : PV), tame n v = true → ∃ d, toD v = some d ∧ d.canLay0 = true ∧ d.depth ≤ n
  | n, .non, _ => ⟨.none, rfl, rfl, by simp [PyData.depth]⟩
  | n, .bl b, _ => ⟨.bool b, rfl, rfl, by simp [PyData.depth]⟩
  | n, .int i, _ => ⟨.int i, rfl, rfl, by simp [PyData.depth]⟩
  | n, .str s, h => ⟨.str s, rfl, (by rw [PyData.canLay0]; rw [tame] at h; exact h), by simp [PyData.depth]⟩
  | n + 1, .tup xs, h => by
    rw [tame] at h
    obtain ⟨ds, e, h1, h2⟩ := tames_toD n xs h
    exact ⟨.tuple ds, by rw [toD, e]; rfl, by rw [PyData.canLay0]; exact h1, by rw [PyData.depth]; omega⟩
  | n + 1, .lst xs, h => by
    rw [tame] at h
    obtain ⟨ds, e, h1, h2⟩ := tames_toD n xs h
    exact ⟨.list ds, by rw [toD, e]; rfl, by rw [PyData.canLay0]; exact h1, by rw [PyData.depth]; omega⟩
  | 0, .tup xs, h => by simp [tame] at h
  | 0, .lst xs, h => by simp [tame] at h
  | n, .dct s, h => by simp [tame] at h
  | n, .scr s, h => by simp [tame] at h
  | n, .ref s, h => by simp [tame] at h
theorem tames_toD : ∀ (n : Nat) (xs : List PV), tames n xs = true → ∃ ds, toDs xs = some ds ∧ PyData.canLayAll0 ds = true ∧ PyData.depthAll ds ≤ n
  | n, [], _ => ⟨[], rfl, rfl, by simp [PyData.depthAll]⟩
  | n, x :: xs, h => by
    rw [tames, Bool.and_eq_true] at h
    obtain ⟨d, e1, h1, h2⟩ := tame_toD n x h.1
    obtain ⟨ds, e2, h3, h4⟩ := tames_toD n xs h.2
    exact ⟨d :: ds, by rw [toDs, e1, e2], by rw [PyData.canLayAll0, h1, h3]; rfl, by rw [PyData.depthAll]; omega⟩
end
theorem tames_iff {n : Nat} : ∀ {xs : List PV}, tames n xs = true ↔ ∀ x ∈ xs, tame n x = true
  | [] => by simp [tames]
  | x :: xs => by simp [tames, tames_iff (xs := xs)]
mutual
theorem below_tame (m : Nat) : ∀ (n : Nat) (v : PV), tame n v = true → below m v = true
  | n, .non, _ => rfl
  | n, .bl b, _ => rfl
  | n, .int i, _ => rfl
  | n, .str i, _ => rfl
  | n + 1, .tup xs, h => by
    rw [tame] at h
    rw [below]
    exact belows_tame m n xs h
  | n + 1, .lst xs, h => by
    rw [tame] at h
    rw [below]
    exact belows_tame m n xs h
  | 0, .tup xs, h => by simp [tame] at h
  | 0, .lst xs, h => by simp [tame] at h
  | n, .dct s, h => by simp [tame] at h
  | n, .scr s, h => by simp [tame] at h
  | n, .ref s, h => by simp [tame] at h
theorem belows_tame (m : Nat) : ∀ (n : Nat) (xs : List PV), tames n xs = true → belows m xs = true
  | n, [], _ => rfl
  | n, x :: xs, h => by
    rw [tames, Bool.and_eq_true] at h
    rw [belows, below_tame m n x h.1, belows_tame m n xs h.2]
    rfl
end
theorem tame_plain {n : Nat} {v : PV} (h : tame n v = true) : plainV v = true := by
  cases v <;> simp [tame] at h <;> rfl
theorem tame_res {n : Nat} {v : PV} (h : tame n v = true) (g : PHeap) : res g v = v := by
  cases v <;> simp [tame] at h <;> rfl
theorem tame_mono : ∀ {n m : Nat}, n ≤ m → ∀ {v : PV}, tame n v = true → tame m v = true := by
  intro n
  induction n with
  | zero =>
    intro m hm v h
    cases v <;> simp [tame] at h <;> simp [tame, h]
  | succ n ih =>
    intro m hm v h
    obtain ⟨k, rfl⟩ : ∃ k, m = k + 1 := ⟨m - 1, by omega⟩
    cases v with
    | tup xs =>
      rw [tame] at h ⊢
      exact tames_iff.mpr fun x hx => ih (by omega) (tames_iff.mp h x hx)
    | lst xs =>
      rw [tame] at h ⊢
      exact tames_iff.mpr fun x hx => ih (by omega) (tames_iff.mp h x hx)
    | _ => simp [tame] at h <;> simp [tame, h]
theorem eq_tame {n : Nat} (hn : n ≤ 64) {a b : PV} {g : PHeap} (ha : tame n a = true) (hb : tame n b = true) : ∃ d e, toD a = some d ∧ toD b = some e ∧ pyEq g a b = some (PyData.eqv d e) := by
  obtain ⟨d, d1, d2, d3⟩ := tame_toD n a ha
  obtain ⟨e, e1, e2, e3⟩ := tame_toD n b hb
  refine ⟨d, e, d1, e1, ?_⟩
  unfold pyEq
  rw [tame_res ha, tame_res hb, d1, e1]
  have h1 : SeqAt.shaped d = true := by
    unfold SeqAt.shaped
    rw [d2]
    simp
    omega
  have h2 : SeqAt.shaped e = true := by
    unfold SeqAt.shaped
    rw [e2]
    simp
    omega
  simp [h1, h2]
theorem eq_same {n : Nat} (hn : n ≤ 64) {a : PV} {g : PHeap} (ha : tame n a = true) : pyEq g a a = some true := by
  obtain ⟨d, e, h1, h2, h3⟩ := eq_tame (g := g) hn ha ha
  obtain ⟨d', d1, d2, _⟩ := tame_toD n a ha
  rw [d1] at h1 h2
  cases h1
  cases h2
  rw [h3, SeqAt.eqv_refl _ d2]
theorem tame_ints (n : Nat) (k : List Int) : tames n (k.map .int) = true := tames_iff.mpr fun x hx => by
  obtain ⟨i, _, rfl⟩ := List.mem_map.mp hx
  cases n <;> rfl
theorem tame_tI (n : Nat) (k : Fc) : tame (n + 1) (tI k) = true := by
  unfold tI
  rw [tame]
  exact tame_ints n k
theorem tame_tIs (n : Nat) (ks : List Fc) : tames (n + 1) (ks.map tI) = true := tames_iff.mpr fun x hx => by
  obtain ⟨i, _, rfl⟩ := List.mem_map.mp hx
  exact tame_tI n i
theorem eq_int {g : PHeap} (a b : Int) : pyEq g (.int a) (.int b) = some (decide (a = b)) := by
  obtain ⟨d, e, h1, h2, h3⟩ := eq_tame (n := 0) (g := g) (by omega) (a := .int a) (b := .int b) rfl rfl
  cases h1
  cases h2
  rw [h3]
  simp only [PyData.eqv]
  rfl
theorem eq_bool {g : PHeap} (a b : Bool) : pyEq g (.bl a) (.bl b) = some (decide (a = b)) := by
  obtain ⟨d, e, h1, h2, h3⟩ := eq_tame (n := 0) (g := g) (by omega) (a := .bl a) (b := .bl b) rfl rfl
  cases h1
  cases h2
  rw [h3]
  simp only [PyData.eqv]
  cases a <;> cases b <;> rfl
theorem eqv_ints : ∀ a b : List Int, PyData.eqvAll (a.map .int) (b.map .int) = decide (a = b)
  | [], [] => by simp [PyData.eqvAll]
  | [], _ :: _ => by simp [PyData.eqvAll]
  | _ :: _, [] => by simp [PyData.eqvAll]
  | a :: as, b :: bs => by
    rw [List.map_cons, List.map_cons, PyData.eqvAll, PyData.eqv, eqv_ints as bs]
    show (decide (a = b) && _) = _
    rw [← Bool.decide_and]
    exact decide_eq_decide.mpr (by rw [List.cons.injEq])
theorem any_ints (f : List Int) (c : Int) : ((f.map PyData.int).any fun e => PyData.eqv e (.int c)) = decide (c ∈ f) := by
  rw [List.any_map, Bool.eq_iff_iff, List.any_eq_true, decide_eq_true_eq]
  constructor
  · rintro ⟨y, hy, e⟩
    simp only [Function.comp, PyData.eqv, beq_iff_eq] at e
    exact e ▸ hy
  · intro h
    exact ⟨c, h, by simp [Function.comp, PyData.eqv]⟩
theorem eq_tI {g : PHeap} (a b : Fc) : pyEq g (tI a) (tI b) = some (decide (a = b)) := by
  obtain ⟨d, e, h1, h2, h3⟩ := eq_tame (n := 1) (g := g) (by omega) (tame_tI 0 a) (tame_tI 0 b)
  unfold tI at h1 h2
  rw [toD, toD_ints] at h1 h2
  cases h1
  cases h2
  rw [h3, PyData.eqv, eqv_ints]
theorem eq_ints {g : PHeap} (a b : List Int) : pyEq g (.lst (a.map .int)) (.lst (b.map .int)) = some (decide (a = b)) := by
  obtain ⟨d, e, h1, h2, h3⟩ := eq_tame (n := 1) (g := g) (by omega) (a := .lst (a.map .int)) (b := .lst (b.map .int)) (by rw [tame]; exact tame_ints 0 a) (by rw [tame]; exact tame_ints 0 b)
  rw [toD, toD_ints] at h1 h2
  cases h1
  cases h2
  rw [h3, PyData.eqv, eqv_ints]
theorem toD_tI (k : Fc) : toD (tI k) = some (.tuple (k.map .int)) := by
  unfold tI
  rw [toD, toD_ints]
  rfl
theorem toD_tIs : ∀ ks : List Fc, toDs (ks.map tI) = some (ks.map fun k => .tuple (k.map .int))
  | [] => rfl
  | k :: ks => by rw [List.map_cons, toDs, toD_tI, toD_tIs ks]; rfl
theorem eqv_tIs : ∀ a b : List Fc, PyData.eqvAll (a.map fun k => .tuple (k.map .int)) (b.map fun k => .tuple (k.map .int)) = decide (a = b)
  | [], [] => by simp [PyData.eqvAll]
  | [], _ :: _ => by simp [PyData.eqvAll]
  | _ :: _, [] => by simp [PyData.eqvAll]
  | a :: as, b :: bs => by
    rw [List.map_cons, List.map_cons, PyData.eqvAll, PyData.eqv, eqv_ints, eqv_tIs as bs, ← Bool.decide_and]
    exact decide_eq_decide.mpr (by rw [List.cons.injEq])
theorem eq_tIs {g : PHeap} (a b : List Fc) : pyEq g (.tup (a.map tI)) (.tup (b.map tI)) = some (decide (a = b)) := by
  obtain ⟨d, e, h1, h2, h3⟩ := eq_tame (n := 2) (g := g) (by omega) (a := .tup (a.map tI)) (b := .tup (b.map tI)) (by rw [tame]; exact tame_tIs 0 a) (by rw [tame]; exact tame_tIs 0 b)
  rw [toD, toD_tIs] at h1 h2
  cases h1
  cases h2
  rw [h3, PyData.eqv, eqv_tIs]
theorem shaped_of {n : Nat} (hn : n ≤ 64) {v : PV} {d : PyData} (h : tame n v = true) (e : toD v = some d) : SeqAt.shaped d = true := by
  obtain ⟨d', d1, d2, d3⟩ := tame_toD n v h
  rw [e] at d1
  cases d1
  unfold SeqAt.shaped
  rw [d2]
  simp
  omega
/-- c in face -/
theorem in_tI {g : PHeap} (c : Int) (f : Fc) : isIn g (.int c) (tI f) = some (decide (c ∈ f)) := by
  have h1 : SeqAt.shaped (.int c) = true := shaped_of (n := 0) (by omega) (v := .int c) rfl rfl
  have h2 : SeqAt.shaped (.list (f.map .int)) = true := shaped_of (n := 1) (by omega) (v := .lst (f.map .int)) (by rw [tame]; exact tame_ints 0 f) (by rw [toD, toD_ints]; rfl)
  show (match toD (res g (.int c)), toDs (f.map .int) with
      | some d, some ds => if SeqAt.shaped d && SeqAt.shaped (.list ds) then some (ds.any fun e => PyData.eqv e d) else none
      | _, _ => none) = _
  rw [toD_ints]
  show (if SeqAt.shaped (.int c) && SeqAt.shaped (.list (f.map .int)) then some _ else none) = _
  rw [h1, h2]
  simp only [Bool.and_self, if_true]
  exact congrArg some (any_ints f c)
theorem any_tIs (ks : List Fc) (f : Fc) : ((ks.map fun k => PyData.tuple (k.map .int)).any fun e => PyData.eqv e (.tuple (f.map .int))) = decide (f ∈ ks) := by
  rw [List.any_map, Bool.eq_iff_iff, List.any_eq_true, decide_eq_true_eq]
  constructor
  · rintro ⟨y, hy, e⟩
    simp only [Function.comp, PyData.eqv, eqv_ints, decide_eq_true_eq] at e
    exact e ▸ hy
  · intro h
    exact ⟨f, h, by simp only [Function.comp, PyData.eqv, eqv_ints, decide_true]⟩
/-- face in faces -/
theorem in_tIs {g : PHeap} (f : Fc) (ks : List Fc) : isIn g (tI f) (.lst (ks.map tI)) = some (decide (f ∈ ks)) := by
  have h1 : SeqAt.shaped (.tuple (f.map .int)) = true := shaped_of (n := 1) (by omega) (tame_tI 0 f) (toD_tI f)
  have h2 : SeqAt.shaped (.list (ks.map fun k => .tuple (k.map .int))) = true := shaped_of (n := 2) (by omega) (v := .lst (ks.map tI)) (by rw [tame]; exact tame_tIs 0 ks) (by rw [toD, toD_tIs]; rfl)
  show (match toD (tI f), toDs (ks.map tI) with
      | some d, some ds => if SeqAt.shaped d && SeqAt.shaped (.list ds) then some (ds.any fun e => PyData.eqv e d) else none
      | _, _ => none) = _
  rw [toD_tIs, toD_tI]
  show (if SeqAt.shaped _ && SeqAt.shaped _ then some _ else none) = _
  rw [h1, h2]
  simp only [Bool.and_self, if_true]
  exact congrArg some (any_tIs ks f)
/-! keys -/
theorem toN_ints : ∀ k : List Int, toNs (k.map .int) = some (k.map NestedKey.num)
  | [] => rfl
  | i :: k => by rw [List.map_cons, toNs, toN, toN_ints k]; rfl
theorem depth_nums : ∀ k : List Int, NestedKey.depthAll (k.map NestedKey.num) = 0
  | [] => rfl
  | i :: k => by rw [List.map_cons, NestedKey.depthAll, NestedKey.depth, depth_nums k]; rfl
theorem keyT_tI (f : Fc) : keyT (tI f) = true := by
  unfold tI keyT
  simp [toN, toN_ints, NestedKey.depth, depth_nums]
theorem keyOk_tI {es : List (PV × PV)} (h : ∀ e ∈ es, ∃ f, e.1 = tI f) (f : Fc) : keyOk es (tI f) = true := by
  unfold keyOk
  rw [Bool.or_eq_true]
  right
  rw [keyT_tI, Bool.true_and, List.all_eq_true]
  intro e he
  obtain ⟨k, q⟩ := h e he
  rw [q]
  exact keyT_tI k
theorem keyOk_int {es : List (PV × PV)} (h : ∀ e ∈ es, ∃ f, e.1 = .int f) (f : Int) : keyOk es (.int f) = true := by
  unfold keyOk
  rw [Bool.or_eq_true]
  left
  simp only [keyV, Bool.true_and, List.all_eq_true]
  intro e he
  obtain ⟨k, q⟩ := h e he
  rw [q]
def db (S : List Fc) : List (PV × PV) := S.map fun f => (tI f, .bl true)
theorem db_keys (S : List Fc) : ∀ e ∈ db S, ∃ f, e.1 = tI f := fun e he => by
  obtain ⟨f, _, rfl⟩ := List.mem_map.mp he
  exact ⟨f, rfl⟩
theorem tI_iff {a b : Fc} : tI a = tI b ↔ a = b := ⟨tI_inj, fun e => e ▸ rfl⟩
theorem db_any (S : List Fc) (f : Fc) : (db S).any (fun e => decide (e.1 = tI f)) = S.any (fun g => decide (g = f)) := by
  unfold db
  rw [List.any_map]
  congr 1
  funext g
  simp only [Function.comp, tI_iff]
theorem db_put (S : List Fc) (f : Fc) : dPut (db S) (tI f) (.bl true) = db (ins S f) := by
  unfold dPut ins
  rw [db_any]
  split
  · unfold db
    rw [List.map_map]
    refine List.map_congr_left fun g _ => ?_
    simp only [Function.comp]
    split <;> rfl
  · simp [db]
theorem in_db {g : PHeap} (f : Fc) (S : List Fc) : isIn g (tI f) (.dct (db S)) = some (decide (f ∈ S)) := by
  show (if keyOk (db S) (tI f) then some ((db S).any fun e => decide (e.1 = tI f)) else none) = _
  rw [if_pos (keyOk_tI (db_keys S) f), db_any]
  congr 1
  rw [Bool.eq_iff_iff, List.any_eq_true, decide_eq_true_eq]
  constructor
  · rintro ⟨x, h, e⟩
    exact (of_decide_eq_true e) ▸ h
  · intro h
    exact ⟨f, h, by simp⟩
theorem lt_tI {g : PHeap} (a b : Fc) : pyOrd .lt g (tI a) (tI b) = some (decide (a < b)) := by
  have h1 : SeqAt.shaped (.tuple (a.map .int)) = true := shaped_of (n := 1) (by omega) (tame_tI 0 a) (toD_tI a)
  have h2 : SeqAt.shaped (.tuple (b.map .int)) = true := shaped_of (n := 1) (by omega) (tame_tI 0 b) (toD_tI b)
  show (match toD (tI a), toD (tI b) with
    | some d, some e => if PySem.W.alike d e && !isNone d && SeqAt.shaped d && SeqAt.shaped e then some (ordD .lt d e) else none
    | _, _ => none) = _
  rw [toD_tI, toD_tI]
  have al : ∀ a b : List Int, PySem.W.alikeAll (a.map .int) (b.map .int) = true := by
    intro a
    induction a with
    | nil => intro b; simp [PySem.W.alikeAll]
    | cons x a ih => intro b; cases b <;> simp [PySem.W.alikeAll, PySem.W.alike, ih]
  show (if PySem.W.alike (.tuple (a.map .int)) (.tuple (b.map .int)) && !isNone (.tuple (a.map .int)) && SeqAt.shaped _ && SeqAt.shaped _ then some (PySem.W.dataLt _ _) else none) = _
  rw [h1, h2, dataLt_tup, PySem.W.alike, al]
  rfl
end K13
namespace K13
open PySem HW
/-! the evaluator's steps, as rewriting rules *)-/
def rngV (v : PV) (h : PHeap) : R (List PV) := R.of ((intOf v).bind (rangeOf 0)) h
theorem rangeOf_nat {n : Nat} (hn : n ≤ 16777216) : rangeOf 0 (n : Int) = some ((List.range n).map fun (i : Nat) => PV.int i) := by
  unfold rangeOf wide62
  have h1 : (decide (-(2 ^ 62) ≤ (0 : Int) ∧ (0 : Int) < 2 ^ 62)) = true := by decide
  have h2 : (decide (-(2 ^ 62) ≤ (n : Int) ∧ (n : Int) < 2 ^ 62)) = true := by
    rw [decide_eq_true_eq]
    omega
  rw [h1, h2]
  simp
def rngV2 (v w : PV) (h : PHeap) : R (List PV) := R.of ((intOf v).bind fun i => (intOf w).bind (rangeOf i)) h
theorem rngV_nat {n : Nat} {h : PHeap} (hn : n ≤ 16777216) : rngV (.int n) h = .ok ((List.range n).map fun (i : Nat) => PV.int i) h := by
  unfold rngV
  rw [intOf, Option.bind_some, rangeOf_nat hn, R.of_some]
section
variable {ctx : List Sem} {env : HW.Env} {h : PHeap}
@[simp] theorem x_var {i : Nat} : dE ctx (.var i) env h = match env[i]? with
    | some (some v) => .ok v h
    | _ => .bad := by unfold dE; rfl
@[simp] theorem x_cst {v : PV} : dE ctx (.cst v) env h = .ok v h := by unfold dE; rfl
@[simp] theorem x_glob {x : Str} {v : PV} : dE ctx (.glob x v) env h = .ok v h := by unfold dE; rfl
@[simp] theorem x_tup {es : IEs} : dE ctx (.tup es) env h = (dEs ctx es env h).bind fun vs h => .ok (.tup vs) h := by rw [dE]
@[simp] theorem x_lst {al : Bool} {es : IEs} : dE ctx (.lst al es) env h = (dEs ctx es env h).bind fun vs h => mkList al vs h := by rw [dE]
@[simp] theorem x_dct0 {al : Bool} : dE ctx (.dct al .nil) env h = mkDict al [] h := by rw [dE, dEs]; rfl
@[simp] theorem x_dct1 {al : Bool} {k v : IE} : dE ctx (.dct al (.cons k (.cons v .nil))) env h = (dEs ctx (.cons k (.cons v .nil)) env h).bind fun vs h => (R.of ((pairUp vs).bind dispOf) h).bind fun es h => mkDict al es h := by rw [dE]
@[simp] theorem x_bin {op : BOp} {a b : IE} : dE ctx (.bin op a b) env h = (dE ctx a env h).bind fun x h => (dE ctx b env h).bind fun y h => R.of (binop op x y h) h := by rw [dE]
@[simp] theorem x_neg {a : IE} : dE ctx (.neg a) env h = (dE ctx a env h).bind fun x h => R.of ((intOf x).map fun i => .int (-i)) h := by rw [dE]
@[simp] theorem x_not {a : IE} : dE ctx (.not a) env h = (dE ctx a env h).bind fun x h => R.of ((tru h x).map fun c => .bl (!c)) h := by rw [dE]
@[simp] theorem x_cmp {op : COp} {a b : IE} : dE ctx (.cmp op a b) env h = (dE ctx a env h).bind fun x h => (dE ctx b env h).bind fun y h => R.of ((cmpop op x y h).map .bl) h := by rw [dE]
@[simp] theorem x_cmp2 {op op' : COp} {a b c : IE} : dE ctx (.cmp2 op op' a b c) env h = (dE ctx a env h).bind fun x h => (dE ctx b env h).bind fun y h => (R.of (cmpop op x y h) h).bind fun t h =>
      if t then (dE ctx c env h).bind fun z h => R.of ((cmpop op' y z h).map .bl) h else .ok (.bl false) h := by rw [dE]
@[simp] theorem x_and {a b : IE} : dE ctx (.and a b) env h = (dE ctx a env h).bind fun x h => (R.of (tru h x) h).bind fun t h => if t then dE ctx b env h else .ok x h := by rw [dE]
@[simp] theorem x_or {a b : IE} : dE ctx (.or a b) env h = (dE ctx a env h).bind fun x h => (R.of (tru h x) h).bind fun t h => if t then .ok x h else dE ctx b env h := by rw [dE]
@[simp] theorem x_ife {c a b : IE} : dE ctx (.ife c a b) env h = (dE ctx c env h).bind fun x h => (R.of (tru h x) h).bind fun t h => if t then dE ctx a env h else dE ctx b env h := by rw [dE]
@[simp] theorem x_sub {a i : IE} : dE ctx (.sub a i) env h = (dE ctx a env h).bind fun x h => (dE ctx i env h).bind fun y h => R.of (itemOf h x y) h := by rw [dE]
@[simp] theorem x_slice {a : IE} {lo hi : IO} : dE ctx (.slice a lo hi) env h = (dE ctx a env h).bind fun x h => (dO ctx lo env h).bind fun l h => (dO ctx hi env h).bind fun u h => R.of (sliceOf h x l u) h := by rw [dE]
@[simp] theorem x_rev {a st : IE} : dE ctx (.rev a st) env h = (dE ctx a env h).bind fun x h => (dE ctx st env h).bind fun y h => R.of (if y = .int (-1) then revOf h x else none) h := by rw [dE]
@[simp] theorem x_call {f : Nat} {es : IEs} : dE ctx (.call f es) env h = (dEs ctx es env h).bind fun vs h => (ctx.getD f fun _ _ => .bad) vs h := by rw [dE]
@[simp] theorem x_blt {f : Blt} {es : IEs} : dE ctx (.blt f es) env h = (dEs ctx es env h).bind fun vs h => R.of (bltop f vs h) h := by rw [dE]
@[simp] theorem x_meth {m : Mth} {o : IE} {es : IEs} : dE ctx (.meth m o es) env h = (dE ctx o env h).bind fun x h => if recv m h x then (dEs ctx es env h).bind fun vs h => methop m x vs h else .bad := by rw [dE]
@[simp] theorem x_conv {k : Cnv} {al : Bool} {e : IE} : dE ctx (.conv k al e) env h = (dE ctx e env h).bind fun v h => convop k al v h := by rw [dE]
@[simp] theorem x_convI {k : Cnv} {al : Bool} {it : II} : dE ctx (.convI k al it) env h = withLock (lockI it env h) (fun h => (dI ctx it env h).bind fun p h => convI k al p.1 h) h := by rw [dE]
@[simp] theorem x_comp {al : Bool} {own : List Nat} {tg : Tg} {it : II} {ifs : IEs} {elt : IE} : dE ctx (.comp al own tg it ifs elt) env h = withLock (lockI it env h) (fun h => (dI ctx it env h).bind fun p h =>
      (compGo p.2 (tgSet tg) (dIfs ctx ifs) (dE ctx elt) (wipeE env own) p.1 h []).bind fun acc h => mkList al acc h) h := by rw [dE]
@[simp] theorem x_dcomp {al : Bool} {own : List Nat} {tg : Tg} {it : II} {ifs : IEs} {k v : IE} : dE ctx (.dcomp al own tg it ifs k v) env h = withLock (lockI it env h) (fun h => (dI ctx it env h).bind fun p h =>
      (dcompGo p.2 (tgSet tg) (dIfs ctx ifs) (dE ctx k) (dE ctx v) (wipeE env own) p.1 h []).bind fun acc h => mkDict al acc h) h := by rw [dE]
@[simp] theorem x_nil : dEs ctx .nil env h = .ok [] h := by rw [dEs]
@[simp] theorem x_cons {e : IE} {es : IEs} : dEs ctx (.cons e es) env h = (dE ctx e env h).bind fun v h => (dEs ctx es env h).bind fun vs h => .ok (v :: vs) h := by rw [dEs]
@[simp] theorem x_inil : dIfs ctx .nil env h = .ok true h := by rw [dIfs]
@[simp] theorem x_icons {e : IE} {es : IEs} : dIfs ctx (.cons e es) env h = (dE ctx e env h).bind fun v h => (R.of (tru h v) h).bind fun t h => if t then dIfs ctx es env h else .ok false h := by rw [dIfs]
@[simp] theorem x_onone : dO ctx .none env h = .ok none h := by rw [dO]
@[simp] theorem x_osome {e : IE} : dO ctx (.some e) env h = (dE ctx e env h).bind fun v h => (R.of (intOf v) h).bind fun i h => .ok (some i) h := by rw [dO]
@[simp] theorem x_ex {e : IE} : dI ctx (.ex e) env h = (dE ctx e env h).bind fun v h => R.of (walkSrc h v) h := by rw [dI]
@[simp] theorem x_rng1 {e : IE} : dI ctx (.rng1 e) env h = (dE ctx e env h).bind fun v h => (rngV v h).bind fun xs h => .ok (xs, fun _ => true) h := by rw [dI] <;> rfl
@[simp] theorem x_rng2 {e e' : IE} : dI ctx (.rng2 e e') env h = (dE ctx e env h).bind fun v h => (dE ctx e' env h).bind fun w h => (rngV2 v w h).bind fun xs h => .ok (xs, fun _ => true) h := by rw [dI]; rfl
@[simp] theorem x_enum {e : IE} : dI ctx (.enum e) env h = (dE ctx e env h).bind fun v h => (R.of (listSrc h v) h).bind fun p h => .ok (enumOf p.1, p.2) h := by rw [dI]
@[simp] theorem x_comp2 {al : Bool} {own own1 : List Nat} {tg tg1 : Tg} {it it1 : II} {ifs ifs1 : IEs} {elt : IE} : dE ctx (.comp2 al own tg it ifs own1 tg1 it1 ifs1 elt) env h = withLock (lockI it env h) (fun h => (dI ctx it env h).bind fun p h =>
      (comp2Go p.2 (tgSet tg) (dIfs ctx ifs) (dI ctx it1) (tgSet tg1) (dIfs ctx ifs1) (dE ctx elt) own1 (wipeE env own) p.1 h []).bind fun acc h => mkList al acc h) h := by rw [dE]
@[simp] theorem x_aug {i : Nat} {op : BOp} {e : IE} : dS ctx (.aug i op e) env h = match env[i]? with
    | some (some x) => (dE ctx e env h).bind fun y h => (R.of (match x, y with
        | .int _, .int _ => binop op x y h
        | _, _ => none) h).bind fun z h => .ok (.nx (env.set i (some z))) h
    | _ => .bad := by rw [dS] <;> rfl
@[simp] theorem x_while {n : Nat} {c : IE} {b : ISs} : dS ctx (.while_ n c b) env h = whileGo (dT ctx c) (dSs ctx b) n env h := by rw [dS]
@[simp] theorem x_zip {a b : IE} : dI ctx (.zip a b) env h = (dE ctx a env h).bind fun v h => (dE ctx b env h).bind fun w h => (R.of (zipSrc h v w) h).bind fun p h => .ok (zipOf p.1.1 p.1.2, p.2) h := by rw [dI]
@[simp] theorem x_items {d : IE} : dI ctx (.items d) env h = (dE ctx d env h).bind fun v h => (R.of (dictSrc h v) h).bind fun p h => .ok (p.1.map fun e => .tup [e.1, e.2], p.2) h := by rw [dI]
@[simp] theorem x_tg {t : Tg} {v : PV} : dTg ctx (.tg t) v env h = R.of (tgSet t v env) h := by rw [dTg]
@[simp] theorem x_tsub {o i : IE} {v : PV} : dTg ctx (.sub o i) v env h = (dE ctx o env h).bind fun x h => (dE ctx i env h).bind fun y h => match putItem h x y v with
    | some h' => .ok env h'
    | none => .bad := by rw [dTg] <;> rfl
@[simp] theorem x_tgs0 : dTgs ctx [] [] env h = .ok env h := by rw [dTgs]
@[simp] theorem x_tgs {t : ITgt} {ts : List ITgt} {v : PV} {vs : List PV} : dTgs ctx (t :: ts) (v :: vs) env h = (dTg ctx t v env h).bind fun env h => dTgs ctx ts vs env h := by rw [dTgs]
@[simp] theorem x_expr {e : IE} : dS ctx (.expr e) env h = (dE ctx e env h).bind fun _ h => .ok (.nx env) h := by rw [dS]
@[simp] theorem x_asg {t : ITgt} {e : IE} : dS ctx (.asg t e) env h = (dE ctx e env h).bind fun v h => (dTg ctx t v env h).bind fun env h => .ok (.nx env) h := by rw [dS]
@[simp] theorem x_par {ts : List ITgt} {es : IEs} : dS ctx (.par ts es) env h = (dEs ctx es env h).bind fun vs h => (dTgs ctx ts vs env h).bind fun env h => .ok (.nx env) h := by rw [dS]
@[simp] theorem x_ret {e : IE} : dS ctx (.ret e) env h = (dE ctx e env h).bind fun v h => .ok (.rt v) h := by rw [dS]
@[simp] theorem x_ifs {c : IE} {a b : ISs} : dS ctx (.ifs c a b) env h = (dT ctx c env h).bind fun t h => if t then dSs ctx a env h else dSs ctx b env h := by rw [dS]
@[simp] theorem x_for {tg : Tg} {it : II} {b : ISs} : dS ctx (.for_ tg it b) env h = withLock (lockI it env h) (fun h => (dI ctx it env h).bind fun p h => forGo p.2 (tgSet tg) (dSs ctx b) p.1 env h) h := by rw [dS]
@[simp] theorem x_snil : dSs ctx .nil env h = .ok (.nx env) h := by rw [dSs]
@[simp] theorem x_scons {s : IS} {ss : ISs} : dSs ctx (.cons s ss) env h = (dS ctx s env h).bind fun o h => match o with
    | .nx env => dSs ctx ss env h
    | o => .ok o h := by rw [dSs] <;> rfl
@[simp] theorem x_T {e : IE} : dT ctx e env h = (dE ctx e env h).bind fun v h => R.of (tru h v) h := rfl
@[simp] theorem x_tnm {i : Nat} {v : PV} : tgSet (.nm i) v env = if i < env.length then some (env.set i (some v)) else none := by rw [tgSet]
@[simp] theorem x_ttp {ts : List Tg} {xs : List PV} : tgSet (.tp ts) (.tup xs) env = if xs.length = ts.length then tgSets ts xs env else none := by rw [tgSet]
@[simp] theorem x_tns0 {xs : List PV} : tgSets [] xs env = some env := by rw [tgSets]
@[simp] theorem x_tns {t : Tg} {ts : List Tg} {x : PV} {xs : List PV} : tgSets (t :: ts) (x :: xs) env = match tgSet t x env with
    | some env1 => tgSets ts xs env1
    | none => none := by rw [tgSets] <;> rfl
@[simp] theorem x_w0 : wipeE env [] = env := rfl
@[simp] theorem x_w {v : Nat} {vs : List Nat} : wipeE env (v :: vs) = (wipeE env vs).set v none := rfl
@[simp] theorem x_lk {α : Type} {f : PHeap → R α} : withLock none f h = f h := rfl
@[simp] theorem x_lkv {i : Nat} : lockI (.ex (.var i)) env h = lockV i env h := rfl
@[simp] theorem x_lkr {e : IE} : lockI (.rng1 e) env h = none := rfl
@[simp] theorem x_lkz {a b : IE} : lockI (.zip a b) env h = none := rfl
@[simp] theorem x_lkc {f : Nat} {es : IEs} : lockI (.ex (.call f es)) env h = none := rfl
@[simp] theorem x_lki {i : Nat} : lockI (.items (.var i)) env h = lockV i env h := rfl
@[simp] theorem x_mkf {vs : List PV} : mkList false vs h = .ok (.lst vs) h := rfl
@[simp] theorem x_mkt {vs : List PV} : mkList true vs h = .ok (.ref h.length) (h ++ [.lst vs]) := rfl
@[simp] theorem x_mdf {vs : List (PV × PV)} : mkDict false vs h = .ok (.dct vs) h := rfl
@[simp] theorem x_mdt {vs : List (PV × PV)} : mkDict true vs h = .ok (.ref h.length) (h ++ [.dct vs]) := rfl
@[simp] theorem x_wt {xs : List PV} : walkSrc h (.tup xs) = some (xs, fun _ => true) := rfl
@[simp] theorem x_wl {xs : List PV} : walkSrc h (.lst xs) = some (xs, fun _ => true) := rfl
@[simp] theorem x_wd {es : List (PV × PV)} : walkSrc h (.dct es) = some (es.map (·.1), fun _ => true) := rfl
@[simp] theorem x_wI {f : Fc} : walkSrc h (tI f) = some (f.map .int, fun _ => true) := rfl
@[simp] theorem x_intOf {i : Int} : intOf (.int i) = some i := rfl
@[simp] theorem x_trb {c : Bool} : tru h (.bl c) = some c := rfl
@[simp] theorem x_tri {i : Int} : tru h (.int i) = some (i != 0) := rfl
@[simp] theorem x_trl {xs : List PV} : tru h (.lst xs) = some (!xs.isEmpty) := rfl
@[simp] theorem x_trt {xs : List PV} : tru h (.tup xs) = some (!xs.isEmpty) := rfl
@[simp] theorem x_trI {f : Fc} : tru h (tI f) = some (!f.isEmpty) := by
  show some (!(f.map PV.int).isEmpty) = _
  simp
@[simp] theorem x_eq {a b : PV} : cmpop .eq a b h = pyEq h a b := rfl
@[simp] theorem x_ne {a b : PV} : cmpop .ne a b h = (pyEq h a b).map (!·) := rfl
@[simp] theorem x_lt {a b : PV} : cmpop .lt a b h = pyOrd .lt h a b := rfl
@[simp] theorem x_lti {a b : Int} : pyOrd .lt h (.int a) (.int b) = some (decide (a < b)) := rfl
@[simp] theorem x_lei {a b : Int} : cmpop .le (.int a) (.int b) h = some (decide (a ≤ b)) := rfl
@[simp] theorem x_gti {a b : Int} : cmpop .gt (.int a) (.int b) h = some (decide (b < a)) := rfl
@[simp] theorem x_gei {a b : Int} : cmpop .ge (.int a) (.int b) h = some (decide (b ≤ a)) := rfl
@[simp] theorem x_isin {a b : PV} : cmpop .isin a b h = isIn h a b := rfl
@[simp] theorem x_lenl {xs : List PV} : bltop .len [.lst xs] h = some (.int xs.length) := rfl
@[simp] theorem x_lent {xs : List PV} : bltop .len [.tup xs] h = some (.int xs.length) := rfl
@[simp] theorem x_lenI {f : Fc} : bltop .len [tI f] h = some (.int f.length) := by
  show some (PV.int (f.map PV.int).length) = _
  simp
@[simp] theorem x_add {a b : Int} : binop .add (.int a) (.int b) h = some (.int (a + b)) := rfl
@[simp] theorem x_subi {a b : Int} : binop .sub (.int a) (.int b) h = some (.int (a - b)) := rfl
@[simp] theorem x_in1 {a : Int} : bltop .int [.int a] h = some (.int a) := rfl
@[simp] theorem x_in2 {a : Bool} : bltop .int [.bl a] h = some (.int (if a then 1 else 0)) := rfl
theorem x_isi {T : String} {v : PV} : bltop (.isi T) [v] h = if tyNames.contains T then (tyOf h v).map fun t => .bl (isTy t T) else none := rfl
section
variable {xs : List PV} {i : Int} {c : Bool} {f : Fc}
@[simp] theorem y1 : bltop (.isi "tuple") [.tup xs] h = some (.bl true) := rfl
@[simp] theorem y2 : bltop (.isi "tuple") [.lst xs] h = some (.bl false) := rfl
@[simp] theorem y3 : bltop (.isi "tuple") [.int i] h = some (.bl false) := rfl
@[simp] theorem y4 : bltop (.isi "tuple") [.bl c] h = some (.bl false) := rfl
@[simp] theorem y5 : bltop (.isi "tuple") [.non] h = some (.bl false) := rfl
@[simp] theorem y6 : bltop (.isi "tuple") [tI f] h = some (.bl true) := rfl
@[simp] theorem y7 {s : Str} : bltop (.isi "tuple") [.str s] h = some (.bl false) := rfl
@[simp] theorem z10 {s : Str} : bltop (.isi "str") [.str s] h = some (.bl true) := rfl
@[simp] theorem z11 : bltop (.isi "str") [tI f] h = some (.bl false) := rfl
@[simp] theorem z12 {s : Str} : bltop (.isi "bool") [.str s] h = some (.bl false) := rfl
@[simp] theorem z13 {s : Str} : bltop (.isiT ["int", "str"]) [.str s] h = some (.bl true) := rfl
@[simp] theorem z14 {s : Str} : cmpop .is (.str s) .non h = some false := by simp [cmpop]
@[simp] theorem z1 : bltop (.isi "str") [.tup xs] h = some (.bl false) := rfl
@[simp] theorem z2 : bltop (.isi "str") [.lst xs] h = some (.bl false) := rfl
@[simp] theorem z3 : bltop (.isi "str") [.int i] h = some (.bl false) := rfl
@[simp] theorem z4 : bltop (.isi "str") [.bl c] h = some (.bl false) := rfl
@[simp] theorem z5 : bltop (.isi "str") [.non] h = some (.bl false) := rfl
@[simp] theorem z6 : bltop (.isi "bool") [.int i] h = some (.bl false) := rfl
@[simp] theorem z7 : bltop (.isi "bool") [.bl c] h = some (.bl true) := rfl
@[simp] theorem z8 : bltop (.isiT ["int", "str"]) [.int i] h = some (.bl true) := rfl
@[simp] theorem z9 : cmpop .is (.int i) .non h = some false := by simp [cmpop]
end
theorem x_ibool {c : Bool} : bltop (.isi "bool") [.bl c] h = some (.bl true) := rfl
end
/-! walks *)-/
theorem comp_enc {τ : Type} {enc : τ → PV} {h : PHeap} {chk : Chk} {tg : PV → HW.Env → Option HW.Env} {ok : HW.Env → PHeap → R Bool} {elt : HW.Env → PHeap → R PV} {env : HW.Env} (p : τ → Bool) (f : τ → PV) (hc : chk h = true) :
    ∀ (ts : List τ) (acc : List PV), (∀ t ∈ ts, ∃ e1, tg (enc t) env = some e1 ∧ ok e1 h = .ok (p t) h ∧ (p t = true → elt e1 h = .ok (f t) h)) → acc.length + ts.length ≤ LIM →
      compGo chk tg ok elt env (ts.map enc) h acc = .ok (acc ++ (ts.filter p).map f) h
  | [], acc, _, _ => by simp [compGo, hc]
  | t :: ts, acc, hx, hl => by
    obtain ⟨e1, q1, q2, q3⟩ := hx t (List.mem_cons_self ..)
    simp only [List.length_cons] at hl
    have r : ∀ y ∈ ts, _ := fun y hy => hx y (List.mem_cons_of_mem _ hy)
    rw [List.map_cons]
    cases hp : p t with
    | true =>
      have ih := comp_enc p f hc ts (acc ++ [f t]) r (by simp; omega)
      simp only [compGo, hc, if_true, q1, q2, hp, R.bind_ok, q3 hp]
      rw [if_pos (by omega), ih]
      simp [hp]
    | false =>
      have ih := comp_enc p f hc ts acc r (by omega)
      simp [compGo, hc, q1, q2, hp, ih]
/-- without a test *)-/
theorem comp_map {τ : Type} {enc : τ → PV} {ctx : List Sem} {h : PHeap} {chk : Chk} {tg : PV → HW.Env → Option HW.Env} {elt : HW.Env → PHeap → R PV} {env : HW.Env} (f : τ → PV) (hc : chk h = true) (ts : List τ)
    (hx : ∀ t ∈ ts, ∃ e1, tg (enc t) env = some e1 ∧ elt e1 h = .ok (f t) h) (hl : ts.length ≤ LIM) :
      compGo chk tg (dIfs ctx .nil) elt env (ts.map enc) h [] = .ok (ts.map f) h := by
  rw [comp_enc (fun _ => true) f hc ts [] (fun t ht => let ⟨e1, q1, q2⟩ := hx t ht; ⟨e1, q1, by simp, fun _ => q2⟩) (by simpa using hl), List.filter_eq_self.mpr fun _ _ => rfl]
  rfl
theorem asBools_enc {τ : Type} (f : τ → Bool) : ∀ xs : List τ, asBools (xs.map fun x => .bl (f x)) = some (xs.map f)
  | [] => rfl
  | x :: xs => by simp [asBools, asBools_enc f xs]
theorem all_enc {τ : Type} {h : PHeap} {al : Bool} (f : τ → Bool) (xs : List τ) : convop .all al (.lst (xs.map fun x => .bl (f x))) h = .ok (.bl (xs.all f)) h := by
  simp [convop, asList, asBools_enc, List.all_map]
theorem any_enc {τ : Type} {h : PHeap} {al : Bool} (f : τ → Bool) (xs : List τ) : convop .any al (.lst (xs.map fun x => .bl (f x))) h = .ok (.bl (xs.any f)) h := by
  simp [convop, asList, asBools_enc, List.any_map]
theorem for_inv {τ α : Type} {enc : τ → PV} {chk : Chk} {tg : PV → HW.Env → Option HW.Env} {body : HW.Env → PHeap → R Out} (step : α → τ → α) (I : List τ → α → HW.Env → PHeap → Prop)
    (hc : ∀ ts a env h, I ts a env h → chk h = true)
    (hs : ∀ t ts a env h, I (t :: ts) a env h → ∃ e1, tg (enc t) env = some e1 ∧ ∃ e2 h2, body e1 h = .ok (.nx e2) h2 ∧ I ts (step a t) e2 h2) :
    ∀ ts a env h, I ts a env h → ∃ env' h', forGo chk tg body (ts.map enc) env h = .ok (.nx env') h' ∧ I [] (ts.foldl step a) env' h'
  | [], a, env, h, i => ⟨env, h, by simp [forGo, hc _ _ _ _ i], i⟩
  | t :: ts, a, env, h, i => by
    obtain ⟨e1, q1, e2, h2, q2, i2⟩ := hs t ts a env h i
    obtain ⟨env', h', q3, i3⟩ := for_inv step I hc hs ts (step a t) e2 h2 i2
    exact ⟨env', h', by simp [forGo, hc _ _ _ _ i, q1, q2, q3], i3⟩
/-- a walk that may return: the first one that is bad *)-/
theorem for_all {τ : Type} {enc : τ → PV} {chk : Chk} {tg : PV → HW.Env → Option HW.Env} {body : HW.Env → PHeap → R Out} {h : PHeap} {v : PV} (p : τ → Bool) (I : HW.Env → Prop) (hc : chk h = true)
    (hs : ∀ t env, I env → ∃ e1, tg (enc t) env = some e1 ∧ (p t = false → body e1 h = .ok (.rt v) h) ∧ (p t = true → ∃ e2, body e1 h = .ok (.nx e2) h ∧ I e2)) :
    ∀ (ts : List τ) (env : HW.Env), I env → (ts.all p = false → forGo chk tg body (ts.map enc) env h = .ok (.rt v) h) ∧ (ts.all p = true → ∃ env', forGo chk tg body (ts.map enc) env h = .ok (.nx env') h ∧ I env')
  | [], env, i => ⟨by simp, fun _ => ⟨env, by simp [forGo, hc], i⟩⟩
  | t :: ts, env, i => by
    obtain ⟨e1, q1, q2, q3⟩ := hs t env i
    cases hp : p t with
    | false => exact ⟨fun _ => by simp [forGo, hc, q1, q2 hp], by simp [hp]⟩
    | true =>
      obtain ⟨e2, q4, i2⟩ := q3 hp
      obtain ⟨r1, r2⟩ := for_all p I hc hs ts e2 i2
      refine ⟨fun a => ?_, fun a => ?_⟩
      · simp only [List.all_cons, hp, Bool.true_and] at a
        simp [forGo, hc, q1, q4, r1 a]
      · simp only [List.all_cons, hp, Bool.true_and] at a
        obtain ⟨env', r3, r4⟩ := r2 a
        exact ⟨env', by simp [forGo, hc, q1, q4, r3], r4⟩
/-- a function that has left new cells behind *)-/
theorem finish_ext {h t : PHeap} {v : PV} (hv : below h.length v = true) : HW.finish false h v (h ++ t) = .ok v h := by
  have h1 : okOuter h (h ++ t) = true := by
    unfold okOuter
    rw [List.all_eq_true]
    intro m hm
    rw [List.mem_range] at hm
    rw [List.getElem?_append_left hm]
    simp
  have h2 : frz (h ++ t) h.length 12 v = some v := by
    unfold frz
    rw [if_pos hv]
  unfold HW.finish
  rw [h1, h2]
  simp
end K13
namespace K13
open PySem HW
section
variable {h : PHeap}
theorem x_addl {x y : List PV} (q : x.length + y.length ≤ LIM) : binop .add (.lst x) (.lst y) h = some (.lst (x ++ y)) := by
  show (if x.length + y.length ≤ LIM then some (PV.lst (x ++ y)) else none) = _
  rw [if_pos q]
theorem x_addt {x y : List PV} (q : x.length + y.length ≤ LIM) : binop .add (.tup x) (.tup y) h = some (.tup (x ++ y)) := by
  show (if x.length + y.length ≤ LIM then some (PV.tup (x ++ y)) else none) = _
  rw [if_pos q]
theorem x_addI {f : Fc} {c : Int} (q : f.length < LIM) : binop .add (tI f) (.tup [.int c]) h = some (tI (f ++ [c])) := by
  unfold tI
  rw [x_addt (by simp; exact q)]
  simp
@[simp] theorem x_sl1 {xs : List PV} : sliceOf h (.lst xs) (some 1) none = some (.lst (xs.drop 1)) := by
  show some (PV.lst (cut xs (some 1) none)) = _
  rw [cut_tail]
@[simp] theorem x_st1 {xs : List PV} : sliceOf h (.tup xs) (some 1) none = some (.tup (xs.drop 1)) := by
  show some (PV.tup (cut xs (some 1) none)) = _
  rw [cut_tail]
theorem below_lst_tI (n : Nat) (ks : List Fc) : below n (.lst (ks.map tI)) = true := below_tame n 2 _ (by rw [tame]; exact tame_tIs 0 ks)
theorem below_tup_tI (n : Nat) (ks : List Fc) : below n (.tup (ks.map tI)) = true := below_tame n 2 _ (by rw [tame]; exact tame_tIs 0 ks)
theorem parts_loop {ctx : List Sem} {v : PV} {f : Fc} (hl : f.length ≤ 12) :
    ∃ c, forGo (fun _ => true) (tgSet (.nm 2)) (dSs ctx (.cons (.asg (.tg (.nm 1)) (.bin .add (.var 1) (.comp false [3] (.nm 3) (.ex (.var 1)) .nil (.bin .add (.var 3) (.tup (.cons (.var 2) .nil)))))) .nil)) (f.map .int) [some v, some (.lst [.tup []]), none, none] h =
      .ok (.nx [some v, some (.lst ((subs f).map tI)), c, none]) h := by
  have := for_inv (enc := PV.int) (chk := fun _ => true) (tg := tgSet (.nm 2)) (body := dSs ctx (.cons (.asg (.tg (.nm 1)) (.bin .add (.var 1) (.comp false [3] (.nm 3) (.ex (.var 1)) .nil (.bin .add (.var 3) (.tup (.cons (.var 2) .nil)))))) .nil))
    (step := fun (acc : List Fc) c => acc ++ acc.map (· ++ [c]))
    (I := fun ts acc env g => g = h ∧ (∃ c, env = [some v, some (.lst (acc.map tI)), c, none]) ∧ acc.length * 2 ^ ts.length ≤ 4096 ∧ ∀ a ∈ acc, a.length + ts.length ≤ 12)
    (fun _ _ _ _ _ => rfl) (by
      rintro t ts a env g ⟨rfl, ⟨c, rfl⟩, h1, h2⟩
      have l : a.length * 2 ≤ 4096 := by
        rw [List.length_cons, Nat.pow_succ] at h1
        have : 1 ≤ 2 ^ ts.length := Nat.one_le_two_pow
        have : a.length * 2 ≤ a.length * (2 ^ ts.length * 2) := Nat.mul_le_mul_left _ (by omega)
        omega
      refine ⟨[some v, some (.lst (a.map tI)), some (.int t), none], by simp, [some v, some (.lst ((a ++ a.map (· ++ [t])).map tI)), some (.int t), none], g, ?_, rfl, ⟨_, rfl⟩, ?_, ?_⟩
      · simp [lockV]
        rw [comp_map (fun a => tI (a ++ [t])) rfl _ (fun b hb => ⟨_, by simp; rfl, by
          have := h2 b hb
          simp
          rw [x_addI (by simp [LIM]; omega)]
          rfl⟩) (by simp [LIM]; omega)]
        simp
        rw [x_addl (by simp [LIM]; omega)]
        simp
      · simp only [List.length_append, List.length_map]
        rw [List.length_cons, Nat.pow_succ] at h1
        rw [← Nat.mul_two, Nat.mul_assoc, Nat.mul_comm 2]
        exact h1
      · intro b hb
        rcases List.mem_append.mp hb with q | q
        · have := h2 b q
          simp only [List.length_cons] at this
          omega
        · obtain ⟨d, hd, rfl⟩ := List.mem_map.mp q
          have := h2 d hd
          simp only [List.length_cons] at this
          simp
          omega) f [[]] [some v, some (.lst [.tup []]), none, none] h ⟨rfl, ⟨none, rfl⟩, by
        have : 2 ^ f.length ≤ 2 ^ 12 := Nat.pow_le_pow_right (by decide) hl
        simpa using this, by simpa using hl⟩
  obtain ⟨env', h', q, rfl, ⟨c, rfl⟩, _⟩ := this
  exact ⟨c, q⟩
theorem length_subs (f : Fc) : (subs f).length = 2 ^ f.length := by
  unfold subs
  rw [length_subsG]
  simp
theorem parts_ev {f : Fc} (hl : f.length ≤ 12) : s_parts_of_face [tI f] h = .ok (.lst ((parts f).map tI)) h := by
  obtain ⟨c, q⟩ := parts_loop (ctx := []) (v := tI f) (h := h) hl
  rw [show tI f = .tup (f.map .int) from rfl] at q ⊢
  simp [s_parts_of_face, runFn, if_parts_of_face, lockV]
  rw [q]
  simp
  rw [show ((subs f).map tI).tail = (parts f).map tI from by simp [parts]]
  exact finish_same (below_lst_tI _ _)
theorem law_parts_ev {f : Fc} (hl : f.length ≤ 12) : s__law_parts_of [tI f] h = .ok (.lst ((parts f).map tI)) h := by
  obtain ⟨c, q⟩ := parts_loop (ctx := []) (v := tI f) (h := h) hl
  have l : (subs f).length ≤ 4096 := by
    rw [length_subs]
    exact Nat.pow_le_pow_right (n := 2) (by decide) hl
  rw [show tI f = .tup (f.map .int) from rfl] at q ⊢
  simp [s__law_parts_of, runFn, if__law_parts_of, lockV]
  rw [q]
  simp [lockV]
  rw [comp_enc (fun a : Fc => !a.isEmpty) tI rfl _ _ (fun b hb => ⟨_, by simp; rfl, by simp; cases b <;> simp, fun _ => by simp⟩) (by simp [LIM]; omega)]
  simp [parts_eq]
  exact finish_same (below_lst_tI _ _)
end
end K13
namespace K13
open PySem HW
section
variable {h : PHeap}
@[simp] theorem ite_ok {p : Prop} [Decidable p] : (if p then R.ok true h else R.ok false h) = R.ok (decide p) h := by
  split <;> simp [*]
theorem mapM_frz {g : PHeap} {n k : Nat} : ∀ {xs : List PV}, (∀ x ∈ xs, below n x = true) → xs.mapM (frz g n (k + 1)) = some xs
  | [], _ => rfl
  | x :: xs, hx => by
    rw [List.mapM_cons, mapM_frz (xs := xs) fun y hy => hx y (List.mem_cons_of_mem _ hy)]
    have : frz g n (k + 1) x = some x := by
      unfold frz
      rw [if_pos (hx x (List.mem_cons_self ..))]
    rw [this]
    rfl
theorem belows_all {n : Nat} : ∀ {xs : List PV}, (∀ x ∈ xs, below n x = true) → belows n xs = true
  | [], _ => rfl
  | x :: xs, hx => by
    rw [belows, hx x (List.mem_cons_self ..), belows_all fun y hy => hx y (List.mem_cons_of_mem _ hy)]
    rfl
theorem zip_fst_snd {α β : Type} : ∀ es : List (α × β), (es.map (·.1)).zip (es.map (·.2)) = es
  | [] => rfl
  | e :: es => by simp [zip_fst_snd es]
theorem at_last {c : Cell} : (h ++ [c])[h.length]? = some c := by simp
theorem set_last {c d : Cell} : (h ++ [c]).set h.length d = h ++ [d] := by
  rw [List.set_append_right _ _ (Nat.le_refl _)]
  simp
theorem finish_dct {es : List (PV × PV)} (hk : ∀ e ∈ es, below h.length e.1 = true ∧ below h.length e.2 = true) : HW.finish false h (.ref h.length) (h ++ [.dct es]) = .ok (.dct es) h := by
  have h1 : okOuter h (h ++ [.dct es]) = true := by
    unfold okOuter
    rw [List.all_eq_true]
    intro m hm
    rw [List.mem_range] at hm
    rw [List.getElem?_append_left hm]
    simp
  have h2 : frz (h ++ [.dct es]) h.length 12 (.ref h.length) = some (.dct es) := by
    unfold frz
    have n : below h.length (.ref h.length) = false := by simp [below]
    rw [n]
    simp only [Bool.false_eq_true, if_false, at_last]
    rw [if_pos (belows_all fun x hx => by
      obtain ⟨e, he, rfl⟩ := List.mem_map.mp hx
      exact (hk e he).1)]
    unfold frzs
    rw [mapM_frz (k := 9) fun x hx => by
      obtain ⟨e, he, rfl⟩ := List.mem_map.mp hx
      exact (hk e he).2]
    simp [zip_fst_snd]
  unfold HW.finish
  rw [h1, h2]
  simp
theorem put_dct {es : List (PV × PV)} {k v : PV} (hk : keyOk es k = true) (hl : es.length < LIM) : putItem (h ++ [.dct es]) (.ref h.length) k v = some (h ++ [.dct (dPut es k v)]) := by
  unfold putItem
  simp only [at_last]
  rw [hk]
  simp [hl, set_last]
theorem put_db {S : List Fc} {f : Fc} (hl : S.length < LIM) : putItem (h ++ [.dct (db S)]) (.ref h.length) (tI f) (.bl true) = some (h ++ [.dct (db (ins S f))]) := by
  rw [put_dct (keyOk_tI (db_keys S) f) (by simpa [db] using hl), db_put]
structure Sm (s : List Fc) : Prop where
  n : s.length ≤ 64
  l : ∀ f ∈ s, f.length ≤ 12
theorem ins_inner {ctx : List Sem} {v : PV} {f : Fc} {S fs : List Fc} {d : Option PV} (hl : S.length + fs.length ≤ 1000000) :
    ∃ d', forGo (fun _ => true) (tgSet (.nm 3)) (dSs ctx (.cons (.asg (.sub (.var 1) (.var 3)) (.cst (.bl true))) .nil)) (fs.map tI) [some v, some (.ref h.length), some (tI f), d] (h ++ [.dct (db S)]) =
      .ok (.nx [some v, some (.ref h.length), some (tI f), d']) (h ++ [.dct (db (insA S fs))]) := by
  obtain ⟨e, g, q, rfl, ⟨d', rfl⟩, _⟩ := for_inv (enc := tI) (chk := fun _ => true) (tg := tgSet (.nm 3)) (body := dSs ctx (.cons (.asg (.sub (.var 1) (.var 3)) (.cst (.bl true))) .nil))
    (step := ins) (I := fun ts S env g => g = h ++ [.dct (db S)] ∧ (∃ d, env = [some v, some (.ref h.length), some (tI f), d]) ∧ S.length + ts.length ≤ 1000000)
    (fun _ _ _ _ _ => rfl) (by
      rintro t ts a env g ⟨rfl, ⟨c, rfl⟩, h1⟩
      refine ⟨[some v, some (.ref h.length), some (tI f), some (tI t)], by simp, [some v, some (.ref h.length), some (tI f), some (tI t)], h ++ [.dct (db (ins a t))], ?_, rfl, ⟨_, rfl⟩, ?_⟩
      · simp only [List.length_cons] at h1
        simp [put_db (show a.length < LIM by simp [LIM]; omega)]
      · have := length_ins (S := a) (f := t)
        simp only [List.length_cons] at h1
        omega) fs S [some v, some (.ref h.length), some (tI f), d] _ ⟨rfl, ⟨d, rfl⟩, hl⟩
  exact ⟨d', q⟩
theorem faces_loop {sem : Sem} (hsem : ∀ (f : Fc) (g : PHeap), f.length ≤ 12 → sem [tI f] g = .ok (.lst ((parts f).map tI)) g) {v : PV} {s : List Fc} (hs : Sm s) :
    ∃ c d, forGo (fun _ => true) (tgSet (.nm 2)) (dSs [sem] (.cons (.for_ (.nm 3) (.ex (.call 0 (.cons (.var 2) .nil))) (.cons (.asg (.sub (.var 1) (.var 3)) (.cst (.bl true))) .nil)) .nil)) (s.map tI) [some v, some (.ref h.length), none, none] (h ++ [.dct []]) =
      .ok (.nx [some v, some (.ref h.length), c, d]) (h ++ [.dct (db (allF s))]) := by
  obtain ⟨e, g, q, rfl, ⟨c, d, rfl⟩, _⟩ := for_inv (enc := tI) (chk := fun _ => true) (tg := tgSet (.nm 2)) (body := dSs [sem] (.cons (.for_ (.nm 3) (.ex (.call 0 (.cons (.var 2) .nil))) (.cons (.asg (.sub (.var 1) (.var 3)) (.cst (.bl true))) .nil)) .nil))
    (step := fun S f => insA S (parts f)) (I := fun ts S env g => g = h ++ [.dct (db S)] ∧ (∃ c d, env = [some v, some (.ref h.length), c, d]) ∧ S.length + ts.length * 4096 ≤ 300000 ∧ ∀ f ∈ ts, f.length ≤ 12)
    (fun _ _ _ _ _ => rfl) (by
      rintro t ts a env g ⟨rfl, ⟨c, d, rfl⟩, h1, h2⟩
      have l1 := h2 t (List.mem_cons_self ..)
      have l2 := length_parts t
      have l3 : 2 ^ t.length ≤ 2 ^ 12 := Nat.pow_le_pow_right (by decide) l1
      simp only [List.length_cons, Nat.add_mul] at h1
      obtain ⟨d', q⟩ := ins_inner (h := h) (ctx := [sem]) (v := v) (f := t) (S := a) (fs := parts t) (d := d) (by omega)
      refine ⟨[some v, some (.ref h.length), some (tI t), d], by simp, [some v, some (.ref h.length), some (tI t), d'], h ++ [.dct (db (insA a (parts t)))], ?_, rfl, ⟨_, _, rfl⟩, ?_, fun f hf => h2 f (List.mem_cons_of_mem _ hf)⟩
      · simp [hsem t _ l1, q]
      · have := length_insA (fs := parts t) (S := a)
        omega) s [] [some v, some (.ref h.length), none, none] (h ++ [.dct []]) ⟨rfl, ⟨_, _, rfl⟩, by have := hs.n; simp; omega, hs.l⟩
  exact ⟨c, d, q⟩
theorem below_tI (n : Nat) (f : Fc) : below n (tI f) = true := below_tame n 1 _ (tame_tI 0 f)
theorem all_faces_ev {s : List Fc} (hs : Sm s) : s_all_faces [.tup (s.map tI)] h = .ok (.dct (db (allF s))) h := by
  obtain ⟨c, d, q⟩ := faces_loop (h := h) (sem := s_parts_of_face) (fun f g hl => parts_ev hl) (v := .tup (s.map tI)) hs
  simp [s_all_faces, runFn, if_all_faces, lockV]
  rw [q]
  simp
  exact finish_dct fun e he => by
    obtain ⟨f, _, rfl⟩ := List.mem_map.mp he
    exact ⟨below_tI _ f, rfl⟩
def sortF (l : List Fc) : List Fc := l.mergeSort leR
theorem sortOk_tI {ks : List Fc} (hne : ∀ k ∈ ks, k ≠ []) : sortOk (ks.map tI) = true := by
  have al : ∀ a b : List Int, PySem.W.alikeAll (a.map .int) (b.map .int) = true := by
    intro a
    induction a with
    | nil => intro b; simp [PySem.W.alikeAll]
    | cons x a ih => intro b; cases b <;> simp [PySem.W.alikeAll, PySem.W.alike, ih]
  have dp : ∀ a : List Int, PyData.depthAll (a.map .int) = 0 := by
    intro a
    induction a with
    | nil => simp [PyData.depthAll]
    | cons x a ih => simp [PyData.depthAll, PyData.depth, ih]
  unfold sortOk
  rw [toD_tIs]
  simp only [Bool.and_eq_true, Bool.or_eq_true]
  refine ⟨⟨?_, ?_⟩, .inl ?_⟩
  · simp [List.all_eq_true, PySem.W.alike, al]
  · simp [List.all_eq_true, PyData.depth, dp]
  · simp only [List.all_map, List.all_eq_true]
    intro k hk
    have := hne k hk
    cases k with
    | nil => exact absurd rfl this
    | cons x k => rfl
theorem db_fst (S : List Fc) : (db S).map (·.1) = S.map tI := by simp [db]
theorem allF_ne {s : List Fc} : ∀ k ∈ allF s, k ≠ [] := fun k hk => by
  obtain ⟨_, _, h, _⟩ := mem_allF.mp hk
  exact h
theorem law_faces_ev {s : List Fc} (hs : Sm s) : s__law_faces [.tup (s.map tI)] h = .ok (.lst ((sortF (allF s)).map tI)) h := by
  obtain ⟨c, d, q⟩ := faces_loop (h := h) (sem := s__law_parts_of) (fun f g hl => law_parts_ev hl) (v := .tup (s.map tI)) hs
  simp [s__law_faces, runFn, if__law_faces, lockV]
  rw [q]
  have e : anySrc (h ++ [.dct (db (allF s))]) (.ref h.length) = some ((allF s).map tI) := by
    simp [anySrc, srcOf, db]
  simp [convop, e, sortOk_tI allF_ne, sortV_tups]
  exact finish_ext (below_lst_tI _ _)
theorem mem_sortF {l : List Fc} {f : Fc} : f ∈ sortF l ↔ f ∈ l := List.mem_mergeSort
theorem sortF_perm (l : List Fc) : (sortF l).Perm l := List.mergeSort_perm l leR
def lvl (s : List Fc) (d : Int) : List Fc := (sortF (allF s)).filter fun f => decide ((f.length : Int) = d + 1)
theorem allF_small {s : List Fc} (hs : Sm s) : (allF s).length ≤ 262144 := by
  have := length_allG (m := 12) (s := s) (S := []) hs.l
  have h2 := hs.n
  unfold allF
  simp at this
  omega
theorem eq_int' {g : PHeap} (a b : Int) : pyEq g (.int a) (.int b) = some (decide (a = b)) := eq_int a b
theorem level_ev {s : List Fc} (hs : Sm s) (d : Int) : s__law_level [.tup (s.map tI), .int d] h = .ok (.lst ((lvl s d).map tI)) h := by
  have l := allF_small hs
  simp [s__law_level, runFn, if__law_level, lockV, law_faces_ev hs]
  rw [comp_enc (fun f : Fc => decide ((f.length : Int) = d + 1)) tI rfl _ _ (fun b hb => ⟨_, by simp; rfl, by simp [eq_int], fun _ => by simp⟩) (by
    rw [(sortF_perm _).length_eq]
    simp [LIM]
    omega)]
  simp
  exact finish_same (below_lst_tI _ _)
theorem sortF_filter (p : Fc → Bool) (l : List Fc) : (sortF l).filter p = sortF (l.filter p) := by
  refine sortR_eq ((sortF_perm l).filter p) ?_
  have : (sortF l).Pairwise (· ≤ ·) := (List.pairwise_mergeSort leR_trans leR_total l).imp fun h => of_decide_eq_true h
  exact this.filter p
theorem faces_of_ev {s : List Fc} (hs : Sm s) (d : Int) : s_faces_of [.tup (s.map tI), .int d] h = .ok (.tup ((lvl s d).map tI)) h := by
  have l := allF_small hs
  simp [s_faces_of, runFn, if_faces_of, lockV, all_faces_ev hs]
  rw [show (db (allF s)).map (fun x => x.1) = (allF s).map tI from db_fst _]
  rw [comp_enc (fun f : Fc => decide ((f.length : Int) = d + 1)) tI rfl _ _ (fun b hb => ⟨_, by simp; rfl, by simp [eq_int], fun _ => by simp⟩) (by
    simp [LIM]
    omega)]
  have e : ∀ {x : List PV}, anySrc h (.lst x) = some x := rfl
  have e2 : ∀ {x : List PV}, asSeq h (.lst x) = some x := rfl
  simp [convop, e]
  rw [sortOk_tI (fun k hk => allF_ne k (List.mem_filter.mp hk |>.1)), sortV_tups]
  simp [e2]
  rw [show ((allF s).filter fun f => decide ((f.length : Int) = d + 1)).mergeSort leR = lvl s d from (sortF_filter _ _).symm]
  exact finish_same (below_tup_tI _ _)
end
end K13
namespace K13
open PySem HW
def cp (p : Fc × Int) : PV := .tup [tI p.1, .int p.2]
def ch (T : Tb) : PV := .tup (T.map cp)
def dc (T : Tb) : List (PV × PV) := T.map fun p => (tI p.1, .int p.2)
theorem put_length (T : Tb) (f : Fc) (n : Int) : (put T f n).length ≤ T.length + 1 := by
  unfold put
  split <;> simp
theorem updA_length : ∀ (L T : Tb), (updA T L).length ≤ T.length + L.length
  | [], T => by simp [updA]
  | p :: L, T => by
    have h1 := updA_length L (upd T p)
    have h2 := put_length T p.1 (get T p.1 + p.2)
    have h3 : (upd T p).length ≤ T.length + 1 := h2
    show (updA (upd T p) L).length ≤ _
    simp only [List.length_cons]
    omega
theorem sd_length (f : Fc) : (sd f).length ≤ f.length := by
  unfold sd sdA
  split <;> simp
theorem sd_sign {f : Fc} {p : Fc × Int} (h : p ∈ sd f) : p.2 = 1 ∨ p.2 = -1 := by
  unfold sd at h
  split at h
  · cases h
  · obtain ⟨k, _, rfl⟩ := List.mem_map.mp h
    simp only
    omega
theorem updA_append (T A B : Tb) : updA T (A ++ B) = updA (updA T A) B := List.foldl_append
theorem tame_cp (p : Fc × Int) : tame 2 (cp p) = true := by
  unfold cp
  rw [tame, tames, tames, tames, tame_tI]
  rfl
theorem tame_ch (T : Tb) : tame 3 (ch T) = true := by
  unfold ch
  rw [tame]
  exact tames_iff.mpr fun x hx => by
    obtain ⟨p, _, rfl⟩ := List.mem_map.mp hx
    exact tame_cp p
theorem below_ch (n : Nat) (T : Tb) : below n (ch T) = true := below_tame n 3 _ (tame_ch T)
theorem below_cps (n : Nat) (T : Tb) : below n (.lst (T.map cp)) = true := below_tame n 3 _ (by
  rw [tame]
  exact tames_iff.mpr fun x hx => by
    obtain ⟨p, _, rfl⟩ := List.mem_map.mp hx
    exact tame_cp p)
theorem dc_keys (S : Tb) : ∀ e ∈ dc S, ∃ f, e.1 = tI f := fun e he => by
  obtain ⟨f, _, rfl⟩ := List.mem_map.mp he
  exact ⟨f.1, rfl⟩
theorem dc_any (S : Tb) (f : Fc) : (dc S).any (fun e => decide (e.1 = tI f)) = S.any (fun g => decide (g.1 = f)) := by
  unfold dc
  rw [List.any_map]
  congr 1
  funext g
  simp only [Function.comp, tI_iff]
theorem dc_put (S : Tb) (f : Fc) (n : Int) : dPut (dc S) (tI f) (.int n) = dc (put S f n) := by
  unfold dPut put
  rw [dc_any]
  split
  · unfold dc
    rw [List.map_map, List.map_map]
    refine List.map_congr_left fun g _ => ?_
    simp only [Function.comp, tI_iff]
    split <;> rfl
  · simp [dc]
theorem dc_find (f : Fc) : ∀ S : Tb, (dFind (dc S) (tI f)).getD (.int 0) = .int (get S f)
  | [] => rfl
  | p :: S => by
    have ih := dc_find f S
    unfold dFind dc at ih ⊢
    rw [List.map_cons, List.find?_cons]
    by_cases e : p.1 = f
    · subst e
      simp [get]
    · have e2 : ¬ tI p.1 = tI f := fun q => e (tI_inj q)
      simp only [e2, decide_false, get, if_neg e]
      exact ih
theorem dc_find' {S : Tb} (hn : nod S) {p : Fc × Int} (hp : p ∈ S) : dFind (dc S) (tI p.1) = some (.int p.2) := by
  have h1 := dc_find p.1 S
  rw [get_mem hn hp] at h1
  cases q : dFind (dc S) (tI p.1) with
  | none =>
    exfalso
    unfold dFind at q
    rw [Option.map_eq_none_iff, List.find?_eq_none] at q
    exact q (tI p.1, .int p.2) (List.mem_map.mpr ⟨p, hp, rfl⟩) (by simp)
  | some v =>
    rw [q] at h1
    simp at h1
    rw [h1]
section
variable {h : PHeap}
theorem cut_take (xs : List PV) (k : Nat) : cut xs none (some (k : Int)) = xs.take k := by
  unfold cut
  have e : HT.sIx xs.length xs.length (some (k : Int)) = min k xs.length := HT.sIx_nat _ _ k
  rw [e, HT.sIx_none]
  simp
theorem cut_drop (xs : List PV) (k : Nat) : cut xs (some (k : Int)) none = xs.drop k := by
  unfold cut
  have e : HT.sIx xs.length 0 (some (k : Int)) = min k xs.length := HT.sIx_nat _ _ k
  rw [e, HT.sIx_none]
  by_cases q : k ≤ xs.length
  · rw [Nat.min_eq_left q]
    rw [List.take_of_length_le (by simp)]
  · rw [Nat.min_eq_right (by omega), List.drop_of_length_le (Nat.le_refl _), List.drop_of_length_le (by omega)]
    simp
theorem x_slt {f : Fc} {k : Nat} : sliceOf h (tI f) none (some (k : Int)) = some (tI (f.take k)) := by
  show some (PV.tup (cut _ _ _)) = _
  rw [cut_take, ← List.map_take, tI]
theorem x_sld {f : Fc} {k : Nat} : sliceOf h (tI f) (some ((k : Int) + 1)) none = some (tI (f.drop (k + 1))) := by
  show some (PV.tup (cut _ _ _)) = _
  rw [show (k : Int) + 1 = ((k + 1 : Nat) : Int) by simp, cut_drop, ← List.map_drop, tI]
theorem x_addII {a b : Fc} (q : a.length + b.length ≤ LIM) : binop .add (tI a) (tI b) h = some (tI (a ++ b)) := by
  unfold tI
  rw [x_addt (by simpa using q)]
  simp
theorem sm_2 : small 2 = true := by decide
theorem sides_key {f : Fc} (hl : f.length ≤ 12) (ctx : List Sem) : compGo (fun _ => true) (tgSet (.nm 1)) (dIfs ctx .nil) (dE ctx (.tup (.cons (.bin .add (.slice (.var 0) .none (.some (.var 1))) (.slice (.var 0) (.some (.bin .add (.var 1) (.cst (.int 1)))) .none)) (.cons (.bin .sub (.cst (.int 1)) (.bin .mul (.cst (.int 2)) (.bin .mod (.var 1) (.cst (.int 2))))) .nil)))) [some (tI f), none] ((List.range f.length).map fun (i : Nat) => PV.int i) h [] = .ok ((sdA f).map cp) h := by
  have l1 : (List.range f.length).length ≤ LIM := by
    rw [List.length_range]
    exact Nat.le_trans hl (by decide)
  have l2 : ∀ k, (f.take k).length + (f.drop (k + 1)).length ≤ LIM := fun k => by
    have : (f.take k).length + (f.drop (k + 1)).length ≤ 12 := by
      simp -implicitDefEqProofs
      omega
    exact Nat.le_trans this (by decide)
  rw [comp_map (fun k : Nat => cp (f.take k ++ f.drop (k + 1), 1 - 2 * ((k : Int) % 2))) rfl _ (fun k hk => ⟨_, by simp; rfl, by
      simp -implicitDefEqProofs [x_slt, x_sld]
      rw [x_addII (l2 k)]
      simp -implicitDefEqProofs
      rw [ev_mod (by decide)]
      simp -implicitDefEqProofs
      rw [ev_mul (by simp -implicitDefEqProofs [sm_2])]
      simp -implicitDefEqProofs [cp, Int.fmod_eq_emod_of_nonneg]⟩) l1]
  simp -implicitDefEqProofs [sdA, Function.comp_def]
theorem sides_one {f : Fc} (hl : f.length ≤ 12) : s_sides_of [tI f] h = .ok (.lst ((sd f).map cp)) h := by
  have l : f.length ≤ 16777216 := Nat.le_trans hl (by decide)
  simp -implicitDefEqProofs [s_sides_of, runFn, if_sides_of, eq_int]
  by_cases q : f.length = 1
  · simp -implicitDefEqProofs [q, sd]
    exact finish_same rfl
  · have q' : ¬ (f.length : Int) = 1 := by omega
    simp -implicitDefEqProofs [q']
    rw [rngV_nat l]
    simp -implicitDefEqProofs
    rw [sides_key hl]
    simp -implicitDefEqProofs
    have : sd f = sdA f := if_neg q
    rw [← this]
    exact finish_same (below_cps _ _)
theorem sides_two {f : Fc} (hl : f.length ≤ 12) : s__law_sides [tI f] h = .ok (.lst ((sd f).map cp)) h := by
  have l : f.length ≤ 16777216 := Nat.le_trans hl (by decide)
  simp -implicitDefEqProofs [s__law_sides, runFn, if__law_sides, eq_int]
  by_cases q : f.length = 1
  · simp -implicitDefEqProofs [q, sd]
    exact finish_same rfl
  · have q' : ¬ (f.length : Int) = 1 := by omega
    simp -implicitDefEqProofs [q']
    rw [rngV_nat l]
    simp -implicitDefEqProofs
    rw [sides_key hl]
    simp -implicitDefEqProofs
    have : sd f = sdA f := if_neg q
    rw [← this]
    exact finish_same (below_cps _ _)
/-! tables made to chains *)-/
def leC (p q : Fc × Int) : Bool := PySem.W.dataLe false dOf (cp p) (cp q)
def tld (T : Tb) : Tb := (T.filter nz).mergeSort leC
theorem tld_perm (T : Tb) : (tld T).Perm (T.filter nz) := List.mergeSort_perm _ _
theorem sortV_cp (T : Tb) : sortV (T.map cp) = (T.mergeSort leC).map cp := by
  unfold sortV
  rw [List.map_mergeSort]
  intro a _ b _
  rfl
theorem toD_cps : ∀ T : Tb, toDs (T.map cp) = some (T.map fun p => .tuple [.tuple (p.1.map .int), .int p.2])
  | [] => rfl
  | p :: T => by
    rw [List.map_cons, toDs, toD_cps T]
    unfold cp
    rw [toD, toDs, toDs, toDs, toD_tI]
    rfl
theorem sortOk_cp (T : Tb) : sortOk (T.map cp) = true := by
  have al : ∀ a b : List Int, PySem.W.alikeAll (a.map .int) (b.map .int) = true := by
    intro a
    induction a with
    | nil => intro b; simp [PySem.W.alikeAll]
    | cons x a ih => intro b; cases b <;> simp [PySem.W.alikeAll, PySem.W.alike, ih]
  have dp : ∀ a : List Int, PyData.depthAll (a.map .int) = 0 := by
    intro a
    induction a with
    | nil => simp [PyData.depthAll]
    | cons x a ih => simp [PyData.depthAll, PyData.depth, ih]
  unfold sortOk
  rw [toD_cps]
  simp only [Bool.and_eq_true, Bool.or_eq_true]
  refine ⟨⟨?_, ?_⟩, .inl ?_⟩
  · simp [List.all_eq_true, PySem.W.alike, PySem.W.alikeAll, al]
  · simp [List.all_eq_true, PyData.depth, PyData.depthAll, dp]
  · simp [List.all_map, List.all_eq_true]
@[simp] theorem x_ttcp {i j : Nat} {p : Fc × Int} {env : HW.Env} : tgSet (.tp [.nm i, .nm j]) (cp p) env = if i < env.length then (if j < env.length then some ((env.set i (some (tI p.1))).set j (some (.int p.2))) else none) else none := by
  unfold cp
  simp
  by_cases q : i < env.length <;> simp [q]
  by_cases q2 : j < env.length <;> simp [q2]
theorem nz_ok {n : Int} : ((pyEq h (.int n) (.int 0)).map (!·)) = some (decide (n ≠ 0)) := by
  rw [eq_int]
  simp
theorem told_ev {T : Tb} (hl : T.length ≤ LIM) : s_told [.dct (dc T)] h = .ok (ch (tld T)) h := by
  have e1 : ∀ {x : List PV}, anySrc h (.lst x) = some x := rfl
  have e2 : ∀ {x : List PV}, asSeq h (.lst x) = some x := rfl
  simp [s_told, runFn, if_told, lockV, dictSrc]
  rw [show (dc T).map (fun e => PV.tup [e.1, e.2]) = T.map cp from by simp [dc, cp, Function.comp_def]]
  rw [comp_enc nz cp rfl _ _ (fun b hb => ⟨_, by simp; rfl, by simp [eq_int, nz], fun _ => by simp [cp]⟩) (by simpa using hl)]
  simp [convop, e1, e2, sortOk_cp, sortV_cp]
  exact finish_same (below_ch _ _)
theorem lock_last {α : Type} {f : PHeap → R α} {es : List (PV × PV)} : withLock (some h.length) f (h ++ [.dct es]) = (f (h ++ [.dctL es])).bind fun r g => if g[h.length]? = some (.dctL es) then .ok r (g.set h.length (.dct es)) else .bad := by
  unfold withLock
  simp [at_last, set_last]
theorem told_live {T : Tb} (hl : T.length ≤ LIM) : s_told [.ref h.length] (h ++ [.dct (dc T)]) = .ok (ch (tld T)) (h ++ [.dct (dc T)]) := by
  have e1 : ∀ {x : List PV} {g : PHeap}, anySrc g (.lst x) = some x := rfl
  have e2 : ∀ {x : List PV} {g : PHeap}, asSeq g (.lst x) = some x := rfl
  simp [s_told, runFn, if_told, lockV, dictSrc, lock_last]
  rw [show (dc T).map (fun e => PV.tup [e.1, e.2]) = T.map cp from by simp [dc, cp, Function.comp_def]]
  rw [comp_enc nz cp (by simp) _ _ (fun b hb => ⟨_, by simp; rfl, by simp [eq_int, nz], fun _ => by simp [cp]⟩) (by simpa using hl)]
  simp [convop, e1, e2, sortOk_cp, sortV_cp, set_last]
  exact finish_same (below_ch _ _)
theorem chain_ev {T : Tb} (hn : nod T) (hl : T.length ≤ LIM) : s__law_chain [.dct (dc T)] h = .ok (ch (tld T)) h := by
  have e1 : ∀ {x : List PV}, anySrc h (.lst x) = some x := rfl
  have e2 : ∀ {x : List PV}, asSeq h (.lst x) = some x := rfl
  have e3 : ∀ p ∈ T, itemOf h (.dct (dc T)) (tI p.1) = some (.int p.2) := fun p hp => by
    show (if keyOk (dc T) (tI p.1) then dFind (dc T) (tI p.1) else none) = _
    rw [if_pos (keyOk_tI (dc_keys T) _), dc_find' hn hp]
  simp [s__law_chain, runFn, if__law_chain, lockV]
  rw [show (dc T).map (fun x => x.1) = T.map (fun p => tI p.1) from by simp [dc, Function.comp_def]]
  rw [comp_enc nz cp rfl _ _ (fun b hb => ⟨_, by simp; rfl, by simp [eq_int, nz, e3 b hb], fun _ => by simp [cp, e3 b hb]⟩) (by simpa using hl)]
  simp [convop, e1, e2, sortOk_cp, sortV_cp]
  exact finish_same (below_ch _ _)
theorem chain_live {T : Tb} (hn : nod T) (hl : T.length ≤ LIM) : s__law_chain [.ref h.length] (h ++ [.dct (dc T)]) = .ok (ch (tld T)) (h ++ [.dct (dc T)]) := by
  have e1 : ∀ {x : List PV} {g : PHeap}, anySrc g (.lst x) = some x := rfl
  have e2 : ∀ {x : List PV} {g : PHeap}, asSeq g (.lst x) = some x := rfl
  have e3 : ∀ p ∈ T, itemOf (h ++ [.dctL (dc T)]) (.ref h.length) (tI p.1) = some (.int p.2) := fun p hp => by
    unfold itemOf asDict
    simp only [at_last]
    rw [if_pos (keyOk_tI (dc_keys T) _), dc_find' hn hp]
  simp [s__law_chain, runFn, if__law_chain, lockV, lock_last, walkSrc]
  rw [show (dc T).map (fun x => x.1) = T.map (fun p => tI p.1) from by simp [dc, Function.comp_def]]
  rw [comp_enc nz cp (by simp) _ _ (fun b hb => ⟨_, by simp; rfl, by simp [eq_int, nz, e3 b hb], fun _ => by simp [cp, e3 b hb]⟩) (by simpa using hl)]
  simp [convop, e1, e2, sortOk_cp, sortV_cp, set_last]
  exact finish_same (below_ch _ _)
end
end K13
namespace K13
open PySem HW
theorem lin_one1_abs (g : Fc) : ∀ L : Tb, (∀ q ∈ L, q.2 = 1 ∨ q.2 = -1) → (lin (one1 g) L).natAbs ≤ L.length
  | [], _ => by simp [lin]
  | p :: L, h => by
    have ih := lin_one1_abs g L fun q hq => h q (List.mem_cons_of_mem _ hq)
    have h1 := h p (List.mem_cons_self ..)
    rw [lin, List.length_cons]
    unfold one1
    unfold one1 at ih
    split
    · rcases h1 with e | e <;> rw [e] <;> omega
    · simp
      omega
theorem bnd_small {f : Fc} (hl : f.length ≤ 12) {p : Fc × Int} (hp : p ∈ bnd [(f, 1)]) : small p.2 = true := by
  have h1 : p.2 = lin (one1 p.1) (sd f) := by
    rw [← get_mem (nod_bnd _) hp, get_lin _ (nod_bnd _), lin_bnd]
    simp [lin, del]
  have h2 := lin_one1_abs p.1 (sd f) fun q hq => sd_sign hq
  have h3 := sd_length f
  rw [← h1] at h2
  unfold small
  rw [decide_eq_true_eq]
  omega
theorem tld_small {T : Tb} (h : ∀ p ∈ T, small p.2 = true) : ∀ p ∈ tld T, small p.2 = true := fun p hp =>
  h p (List.mem_filter.mp ((tld_perm T).mem_iff.mp hp)).1
theorem tld_length (T : Tb) : (tld T).length ≤ T.length := by
  rw [(tld_perm T).length_eq]
  exact List.length_filter_le _ _
theorem nod_tld {T : Tb} (h : nod T) : nod (tld T) := by
  unfold nod at h ⊢
  exact (((tld_perm T).map _).nodup_iff).mpr ((List.filter_sublist.map _).nodup h)
theorem tld_keys {T : Tb} {p : Fc × Int} (h : p ∈ tld T) : p ∈ T := (List.mem_filter.mp ((tld_perm T).mem_iff.mp h)).1
theorem mem_put {T : Tb} {f : Fc} {n : Int} {p : Fc × Int} (h : p ∈ put T f n) : p ∈ T ∨ p.1 = f := by
  unfold put at h
  split at h
  · obtain ⟨q, h1, h2⟩ := List.mem_map.mp h
    split at h2
    · rename_i e
      subst h2
      exact .inr e
    · exact .inl (h2 ▸ h1)
  · rcases List.mem_append.mp h with q | q
    · exact .inl q
    · simp at q
      exact .inr (by rw [q])
theorem mem_updA {p : Fc × Int} : ∀ {L T : Tb}, p ∈ updA T L → (∃ q ∈ T, q.1 = p.1) ∨ ∃ q ∈ L, q.1 = p.1
  | [], T, h => .inl ⟨p, h, rfl⟩
  | q :: L, T, h => by
    rcases mem_updA (L := L) (T := upd T q) h with ⟨r, h1, h2⟩ | ⟨r, h1, h2⟩
    · rcases mem_put h1 with x | x
      · exact .inl ⟨r, x, h2⟩
      · exact .inr ⟨q, List.mem_cons_self .., by rw [← h2, x]⟩
    · exact .inr ⟨r, List.mem_cons_of_mem _ h1, h2⟩
theorem mem_bl {T : Tb} {q : Fc × Int} (h : q ∈ bl T) : ∃ p ∈ T, ∃ r ∈ sd p.1, q.1 = r.1 := by
  unfold bl at h
  obtain ⟨p, h1, h2⟩ := List.mem_flatMap.mp h
  obtain ⟨r, h3, rfl⟩ := List.mem_map.mp h2
  exact ⟨p, h1, r, h3, rfl⟩
theorem mem_bnd {T : Tb} {p : Fc × Int} (h : p ∈ bnd T) : ∃ q ∈ T, ∃ r ∈ sd q.1, p.1 = r.1 := by
  rcases mem_updA h with ⟨q, h1, _⟩ | ⟨q, h1, h2⟩
  · cases h1
  · obtain ⟨a, h3, r, h4, h5⟩ := mem_bl h1
    exact ⟨a, h3, r, h4, h2.symm.trans h5⟩
theorem bl_length {T : Tb} (hf : ∀ p ∈ T, p.1.length ≤ 12) : (bl T).length ≤ T.length * 12 := by
  induction T with
  | nil => simp [bl]
  | cons p T ih =>
    have h1 := ih fun q hq => hf q (List.mem_cons_of_mem _ hq)
    have h2 := sd_length p.1
    have h3 := hf p (List.mem_cons_self ..)
    have e : bl (p :: T) = ((sd p.1).map fun q => (q.1, q.2 * p.2)) ++ bl T := by simp [bl]
    rw [e]
    simp only [List.length_append, List.length_map, List.length_cons]
    omega
theorem bnd_length {T : Tb} (hf : ∀ p ∈ T, p.1.length ≤ 12) : (bnd T).length ≤ T.length * 12 := by
  have h1 := updA_length (bl T) []
  have h2 := bl_length hf
  unfold bnd
  simp at h1
  omega
section
variable {h : PHeap}
@[simp] theorem x_rcl {es : List (PV × PV)} : recv .dget (h ++ [.dct es]) (.ref h.length) = true := by
  simp [recv, asDict]
@[simp] theorem x_rcf {es : List (PV × PV)} : recv .dget h (.dct es) = true := rfl
@[simp] theorem x_dgl {D : Tb} {s : Fc} : methop .dget (.ref h.length) [tI s, .int 0] (h ++ [.dct (dc D)]) = .ok (.int (get D s)) (h ++ [.dct (dc D)]) := by
  simp [methop, mGet, asDict, keyOk_tI (dc_keys D), dc_find]
@[simp] theorem x_dgf {D : Tb} {s : Fc} : methop .dget (.dct (dc D)) [tI s, .int 0] h = .ok (.int (get D s)) h := by
  simp [methop, mGet, asDict, keyOk_tI (dc_keys D), dc_find]
theorem put_dcl {D : Tb} {s : Fc} {n : Int} (hl : D.length < LIM) : putItem (h ++ [.dct (dc D)]) (.ref h.length) (tI s) (.int n) = some (h ++ [.dct (dc (put D s n))]) := by
  rw [put_dct (keyOk_tI (dc_keys D) s) (by simpa [dc] using hl), dc_put]
theorem bnd_inner {ctx : List Sem} {v : PV} {f : Fc} {n : Int} {D L : Tb} {d4 d5 : Option PV} (hl : D.length + L.length ≤ 16000000) (hs : ∀ q ∈ L, q.2 = 1 ∨ q.2 = -1) :
    ∃ e4 e5, forGo (fun _ => true) (tgSet (.tp [.nm 4, .nm 5])) (dSs ctx (.cons (.asg (.sub (.var 1) (.var 4)) (.bin .add (.meth .dget (.var 1) (.cons (.var 4) (.cons (.cst (.int 0)) .nil))) (.bin .mul (.var 5) (.var 3)))) .nil)) (L.map cp) [some v, some (.ref h.length), some (tI f), some (.int n), d4, d5] (h ++ [.dct (dc D)]) =
      .ok (.nx [some v, some (.ref h.length), some (tI f), some (.int n), e4, e5]) (h ++ [.dct (dc (updA D (L.map fun q => (q.1, q.2 * n))))]) := by
  obtain ⟨e, g, q, rfl, ⟨e4, e5, rfl⟩, _⟩ := for_inv (enc := cp) (chk := fun _ => true) (tg := tgSet (.tp [.nm 4, .nm 5])) (body := dSs ctx (.cons (.asg (.sub (.var 1) (.var 4)) (.bin .add (.meth .dget (.var 1) (.cons (.var 4) (.cons (.cst (.int 0)) .nil))) (.bin .mul (.var 5) (.var 3)))) .nil))
    (step := fun D q => upd D (q.1, q.2 * n)) (I := fun ts D env g => g = h ++ [.dct (dc D)] ∧ (∃ d4 d5, env = [some v, some (.ref h.length), some (tI f), some (.int n), d4, d5]) ∧ D.length + ts.length ≤ 16000000 ∧ ∀ q ∈ ts, q.2 = 1 ∨ q.2 = -1)
    (fun _ _ _ _ _ => rfl) (by
      rintro t ts a env g ⟨rfl, ⟨d4, d5, rfl⟩, h1, h2⟩
      refine ⟨[some v, some (.ref h.length), some (tI f), some (.int n), some (tI t.1), some (.int t.2)], by simp, _, h ++ [.dct (dc (upd a (t.1, t.2 * n)))], ?_, rfl, ⟨some (tI t.1), some (.int t.2), rfl⟩, ?_, fun q hq => h2 q (List.mem_cons_of_mem _ hq)⟩
      · simp only [List.length_cons] at h1
        have sm : small t.2 = true := by
          rcases h2 t (List.mem_cons_self ..) with q | q <;> rw [q] <;> decide
        simp
        rw [ev_mul (by simp [sm])]
        simp
        rw [put_dcl (by simp [LIM]; omega)]
        simp [upd]
      · have := put_length a t.1 (get a t.1 + t.2 * n)
        simp only [List.length_cons] at h1
        show (put a t.1 (get a t.1 + t.2 * n)).length + ts.length ≤ _
        omega) L D [some v, some (.ref h.length), some (tI f), some (.int n), d4, d5] _ ⟨rfl, ⟨_, _, rfl⟩, hl, hs⟩
  refine ⟨e4, e5, ?_⟩
  rw [q]
  unfold updA
  rw [List.foldl_map]
theorem bnd_fold : ∀ (T D : Tb), T.foldl (fun D p => updA D ((sd p.1).map fun q => (q.1, q.2 * p.2))) D = updA D (bl T)
  | [], D => rfl
  | p :: T, D => by
    have e : bl (p :: T) = ((sd p.1).map fun q => (q.1, q.2 * p.2)) ++ bl T := by simp [bl]
    rw [List.foldl_cons, bnd_fold T, e, updA_append]
theorem bnd_loop {sem sem2 : Sem} (hsem : ∀ (f : Fc) (g : PHeap), f.length ≤ 12 → sem [tI f] g = .ok (.lst ((sd f).map cp)) g) {v : PV} {T : Tb} (hl : T.length ≤ 1000000) (hf : ∀ p ∈ T, p.1.length ≤ 12) :
    ∃ a b c d, forGo (fun _ => true) (tgSet (.tp [.nm 2, .nm 3])) (dSs [sem, sem2] (.cons (.for_ (.tp [(.nm 4), (.nm 5)]) (.ex (.call 0 (.cons (.var 2) .nil))) (.cons (.asg (.sub (.var 1) (.var 4)) (.bin .add (.meth .dget (.var 1) (.cons (.var 4) (.cons (.cst (.int 0)) .nil))) (.bin .mul (.var 5) (.var 3)))) .nil)) .nil)) (T.map cp) [some v, some (.ref h.length), none, none, none, none] (h ++ [.dct (dc [])]) =
      .ok (.nx [some v, some (.ref h.length), a, b, c, d]) (h ++ [.dct (dc (bnd T))]) := by
  obtain ⟨e, g, q, rfl, ⟨a, b, c, d, rfl⟩, _⟩ := for_inv (enc := cp) (chk := fun _ => true) (tg := tgSet (.tp [.nm 2, .nm 3])) (body := dSs [sem, sem2] (.cons (.for_ (.tp [(.nm 4), (.nm 5)]) (.ex (.call 0 (.cons (.var 2) .nil))) (.cons (.asg (.sub (.var 1) (.var 4)) (.bin .add (.meth .dget (.var 1) (.cons (.var 4) (.cons (.cst (.int 0)) .nil))) (.bin .mul (.var 5) (.var 3)))) .nil)) .nil))
    (step := fun D p => updA D ((sd p.1).map fun q => (q.1, q.2 * p.2))) (I := fun ts D env g => g = h ++ [.dct (dc D)] ∧ (∃ a b c d, env = [some v, some (.ref h.length), a, b, c, d]) ∧ D.length + ts.length * 12 ≤ 12000000 ∧ ∀ p ∈ ts, p.1.length ≤ 12)
    (fun _ _ _ _ _ => rfl) (by
      rintro t ts a env g ⟨rfl, ⟨d2, d3, d4, d5, rfl⟩, h1, h2⟩
      have l1 := h2 t (List.mem_cons_self ..)
      have l2 := sd_length t.1
      simp only [List.length_cons] at h1
      obtain ⟨e4, e5, q⟩ := bnd_inner (h := h) (ctx := [sem, sem2]) (v := v) (f := t.1) (n := t.2) (D := a) (L := sd t.1) (d4 := d4) (d5 := d5) (by omega) fun q hq => sd_sign hq
      refine ⟨[some v, some (.ref h.length), some (tI t.1), some (.int t.2), d4, d5], by simp, _, h ++ [.dct (dc (updA a ((sd t.1).map fun q => (q.1, q.2 * t.2))))], ?_, rfl, ⟨some (tI t.1), some (.int t.2), e4, e5, rfl⟩, ?_, fun q hq => h2 q (List.mem_cons_of_mem _ hq)⟩
      · simp [hsem t.1 _ l1, q]
      · have := updA_length ((sd t.1).map fun q => (q.1, q.2 * t.2)) a
        simp only [List.length_map] at this
        omega) T [] [some v, some (.ref h.length), none, none, none, none] (h ++ [.dct (dc [])]) ⟨rfl, ⟨_, _, _, _, rfl⟩, by simp; omega, hf⟩
  refine ⟨a, b, c, d, ?_⟩
  rw [q, bnd_fold]
  rfl
theorem boundary_ev {T : Tb} (hl : T.length ≤ 1000000) (hf : ∀ p ∈ T, p.1.length ≤ 12) : s_boundary [ch T] h = .ok (ch (tld (bnd T))) h := by
  obtain ⟨a, b, c, d, q⟩ := bnd_loop (h := h) (sem := s_sides_of) (sem2 := s_told) (fun f g hl => sides_one hl) (v := ch T) hl hf
  have l := bnd_length hf
  unfold ch at q ⊢
  simp [s_boundary, runFn, if_boundary, lockV, pairUp, putAll]
  rw [show ([] : List (PV × PV)) = dc [] from rfl, q]
  simp
  rw [told_live (by simp [LIM]; omega)]
  simp
  exact finish_ext (below_ch _ _)
theorem law_boundary_ev {T : Tb} (hl : T.length ≤ 1000000) (hf : ∀ p ∈ T, p.1.length ≤ 12) : s__law_boundary [ch T] h = .ok (ch (tld (bnd T))) h := by
  obtain ⟨a, b, c, d, q⟩ := bnd_loop (h := h) (sem := s__law_sides) (sem2 := s__law_chain) (fun f g hl => sides_two hl) (v := ch T) hl hf
  have l := bnd_length hf
  unfold ch at q ⊢
  simp [s__law_boundary, runFn, if__law_boundary, lockV, pairUp, putAll]
  rw [show ([] : List (PV × PV)) = dc [] from rfl, q]
  simp
  rw [chain_live (nod_bnd T) (by simp [LIM]; omega)]
  simp
  exact finish_ext (below_ch _ _)
/-! the value *)-/
theorem put_new {T : Tb} {p : Fc × Int} (h : ∀ q ∈ T, q.1 ≠ p.1) : put T p.1 p.2 = T ++ [p] := by
  unfold put
  rw [if_neg]
  intro x
  obtain ⟨q, h1, h2⟩ := List.any_eq_true.mp x
  exact h q h1 (of_decide_eq_true h2)
theorem putAll_dc : ∀ (A acc : Tb), nod (acc ++ A) → acc.length + A.length ≤ LIM → putAll (dc acc) (dc A) = some (dc (acc ++ A))
  | [], acc, _, _ => by simp [dc, putAll]
  | p :: A, acc, hn, hl => by
    simp only [List.length_cons] at hl
    have e : acc ++ p :: A = (acc ++ [p]) ++ A := by simp
    have no : ∀ q ∈ acc, q.1 ≠ p.1 := fun q hq x => by
      unfold nod at hn
      rw [List.map_append, List.nodup_append] at hn
      exact hn.2.2 q.1 (List.mem_map.mpr ⟨q, hq, rfl⟩) p.1 (by simp) x
    have ih := putAll_dc A (acc ++ [p]) (e ▸ hn) (by simp; omega)
    show putAll (dc acc) ((tI p.1, .int p.2) :: dc A) = _
    rw [putAll, keyOk_tI (dc_keys acc), dc_put, put_new no]
    have l : (dc acc).length < LIM := by
      simp [dc]
      omega
    simp [l, ih]
theorem mapM_pairOf : ∀ A : Tb, (A.map cp).mapM pairOf = some (dc A)
  | [] => rfl
  | p :: A => by
    rw [List.map_cons, List.mapM_cons, mapM_pairOf A]
    rfl
theorem dict_src {A : Tb} (hn : nod A) (hl : A.length ≤ LIM) : ((A.map cp).mapM pairOf).bind (putAll []) = some (dc A) := by
  rw [mapM_pairOf]
  have := putAll_dc A [] (by simpa using hn) (by simpa using hl)
  simpa [dc] using this
theorem dict_t {al : Bool} {A : Tb} (hn : nod A) (hl : A.length ≤ LIM) : convop .dict al (.tup (A.map cp)) h = mkDict al (dc A) h := by
  show (R.of ((asSeq h (.tup (A.map cp))).bind fun xs => (xs.mapM pairOf).bind (putAll [])) h).bind (fun es h => mkDict al es h) = _
  show (R.of (((A.map cp).mapM pairOf).bind (putAll [])) h).bind (fun es h => mkDict al es h) = _
  rw [dict_src hn hl]
  rfl
theorem dict_l {al : Bool} {A : Tb} (hn : nod A) (hl : A.length ≤ LIM) : convop .dict al (.lst (A.map cp)) h = mkDict al (dc A) h := by
  show (R.of (((A.map cp).mapM pairOf).bind (putAll [])) h).bind (fun es h => mkDict al es h) = _
  rw [dict_src hn hl]
  rfl
end
end K13
namespace K13
open PySem HW
/-! what is in order *)-/
theorem incr_iff {α : Type} (r : α → α → Prop) [DecidableRel r] (tr : ∀ a b c, r a b → r b c → r a c) : ∀ l : List α, (l.zip (l.drop 1)).all (fun p => decide (r p.1 p.2)) = true ↔ l.Pairwise r
  | [] => by simp
  | [a] => by simp
  | a :: b :: l => by
    have ih := incr_iff r tr (b :: l)
    simp only [List.drop_succ_cons, List.drop_zero] at ih ⊢
    rw [List.zip_cons_cons, List.all_cons, Bool.and_eq_true, ih, decide_eq_true_eq, List.pairwise_cons (a := a) (l := b :: l)]
    constructor
    · rintro ⟨h1, h2⟩
      refine ⟨fun x hx => ?_, h2⟩
      rcases List.mem_cons.mp hx with e | e
      · exact e ▸ h1
      · exact tr _ _ _ h1 ((List.pairwise_cons.mp h2).1 x e)
    · rintro ⟨h1, h2⟩
      exact ⟨h1 b (List.mem_cons_self ..), h2⟩
def incI (f : Fc) : Bool := (f.zip (f.drop 1)).all fun p => decide (p.1 < p.2)
def incF (ks : List Fc) : Bool := (ks.zip (ks.drop 1)).all fun p => decide (p.1 < p.2)
theorem incI_iff (f : Fc) : incI f = true ↔ f.Pairwise (· < ·) := incr_iff (· < ·) (fun _ _ _ => Int.lt_trans) f
theorem incF_iff (ks : List Fc) : incF ks = true ↔ ks.Pairwise (· < ·) := incr_iff (· < ·) (fun _ _ _ => List.lt_trans) ks
theorem flt_irrefl (a : Fc) : ¬ a < a := List.lt_irrefl a
theorem flt_of {a b : Fc} (h : a ≤ b) (hn : a ≠ b) : a < b := by
  by_cases q : a < b
  · exact q
  · exact absurd (List.le_antisymm h (List.not_lt.mp q)) hn
/-- two rows in order with the same ones are the same *)-/
theorem uniqF {a b : List Fc} (ha : a.Pairwise (· < ·)) (hb : b.Pairwise (· < ·)) (hm : ∀ k, k ∈ a ↔ k ∈ b) : a = b := by
  have ne : ∀ {x y : Fc}, x < y → x ≠ y := fun h e => by
    subst e
    exact flt_irrefl _ h
  have na : a.Nodup := ha.imp ne
  have nb : b.Nodup := hb.imp ne
  refine List.Perm.eq_of_pairwise (le := (· < ·)) (fun x y _ _ h1 h2 => absurd (List.lt_trans h1 h2) (flt_irrefl _)) ha hb ((List.perm_ext_iff_of_nodup na nb).mpr hm)
theorem uniqI {a b : List Int} (ha : a.Pairwise (· < ·)) (hb : b.Pairwise (· < ·)) (hm : ∀ k, k ∈ a ↔ k ∈ b) : a = b := by
  have na : a.Nodup := ha.imp fun h e => by omega
  have nb : b.Nodup := hb.imp fun h e => by omega
  refine List.Perm.eq_of_pairwise (le := (· < ·)) (fun x y _ _ h1 h2 => by omega) ha hb ((List.perm_ext_iff_of_nodup na nb).mpr hm)
theorem sortF_lt {l : List Fc} (hn : l.Nodup) : (sortF l).Pairwise (· < ·) := by
  have h1 : (sortF l).Pairwise (· ≤ ·) := (List.pairwise_mergeSort leR_trans leR_total l).imp fun h => of_decide_eq_true h
  have h2 : (sortF l).Nodup := (sortF_perm l).nodup_iff.mpr hn
  exact (List.Pairwise.and h1 h2).imp fun h => flt_of h.1 h.2
theorem sortI_lt {l : List Int} (hn : l.Nodup) : (l.mergeSort leI).Pairwise (· < ·) := by
  have h1 : (l.mergeSort leI).Pairwise (· ≤ ·) := (List.pairwise_mergeSort leI_trans leI_total l).imp fun h => of_decide_eq_true h
  have h2 : (l.mergeSort leI).Nodup := (List.mergeSort_perm l leI).nodup_iff.mpr hn
  exact (List.Pairwise.and h1 h2).imp fun h => by
    have := h.1
    have := h.2
    omega
/-- sorted(set(..)) *)-/
theorem rows_F (ks : List Fc) : ∃ rows : List Fc, sortV (dedup (ks.map tI)) = rows.map tI ∧ rows.Pairwise (· < ·) ∧ ∀ k, k ∈ rows ↔ k ∈ ks := by
  obtain ⟨ms, h1, h2, h3⟩ := dedup_tups ks
  refine ⟨sortF ms, ?_, sortF_lt h3, fun k => mem_sortF.trans (h2 k)⟩
  rw [h1, sortV_tups]
  rfl
theorem rows_I (ks : List Int) : ∃ rows : List Int, sortV (dedup (ks.map .int)) = rows.map .int ∧ rows.Pairwise (· < ·) ∧ ∀ k, k ∈ rows ↔ k ∈ ks := by
  obtain ⟨ms, h1, h2, h3⟩ := dedup_ints ks
  refine ⟨ms.mergeSort leI, ?_, sortI_lt h3, fun k => List.mem_mergeSort.trans (h2 k)⟩
  rw [h1, sortV_ints]
/-! the greatest ones *)-/
def wit (a b : Fc) : Bool := a.all fun c => decide (c ∈ b)
def top1 (rows : List Fc) (a : Fc) : Bool := !rows.any fun b => decide (a ≠ b) && wit a b
def AGB (ks : List Fc) : Bool := incF ks && ks.all (top1 ks)
theorem AGB_iff {ks rows : List Fc} (hr : rows.Pairwise (· < ·)) (hm : ∀ k, k ∈ rows ↔ k ∈ ks) : AGB ks = decide (ks = rows.filter (top1 rows)) := by
  rw [Bool.eq_iff_iff, decide_eq_true_eq]
  unfold AGB
  rw [Bool.and_eq_true, incF_iff]
  constructor
  · rintro ⟨h1, h2⟩
    have e : ks = rows := uniqF h1 hr fun k => (hm k).symm
    subst e
    rw [List.filter_eq_self.mpr fun a ha => List.all_eq_true.mp h2 a ha]
  · intro e
    have h1 : ks.Pairwise (· < ·) := e ▸ hr.filter _
    refine ⟨h1, List.all_eq_true.mpr fun a ha => ?_⟩
    have e2 : ks = rows := uniqF h1 hr fun k => (hm k).symm
    rw [e] at ha
    have := (List.mem_filter.mp ha).2
    rw [← e2] at this
    exact this
end K13
namespace K13
open PySem HW
def good (m : Nat) : Nat → PV → Bool
  | _, .non => true
  | _, .bl _ => true
  | _, .int _ => true
  | _, .str s => PyData.strOk s
  | n + 1, .tup xs => decide (xs.length ≤ m) && xs.all (good m n)
  | n + 1, .lst xs => decide (xs.length ≤ m) && xs.all (good m n)
  | _, _ => false
theorem good_tame {m : Nat} : ∀ {n : Nat} {v : PV}, good m n v = true → tame n v = true := by
  intro n
  induction n with
  | zero => intro v h; cases v <;> simp [good] at h <;> first | rfl | (rw [tame]; exact h)
  | succ n ih =>
    intro v h
    cases v with
    | tup xs =>
      simp only [good, Bool.and_eq_true, List.all_eq_true] at h
      rw [tame]
      exact tames_iff.mpr fun x hx => ih (h.2 x hx)
    | lst xs =>
      simp only [good, Bool.and_eq_true, List.all_eq_true] at h
      rw [tame]
      exact tames_iff.mpr fun x hx => ih (h.2 x hx)
    | _ => simp [good] at h <;> first | rfl | (rw [tame]; exact h)
theorem good_plain {m n : Nat} {v : PV} (h : good m n v = true) : plainV v = true := tame_plain (good_tame h)
theorem asInts_eq : ∀ {xs : List PV} {f : List Int}, asInts xs = some f → xs = f.map .int
  | [], f, h => by simp [asInts] at h; subst h; rfl
  | x :: xs, f, h => by
    cases x with
    | int i =>
      rw [asInts, Option.map_eq_some_iff] at h
      obtain ⟨g, h1, rfl⟩ := h
      rw [asInts_eq h1]
      rfl
    | _ => simp [asInts] at h
def natI (f : Fc) : Bool := f.all fun x => decide (0 ≤ x)
theorem natA : ∀ {xs : List PV}, xs.all isNatV = true → ∃ f, asInts xs = some f ∧ natI f = true
  | [], _ => ⟨[], rfl, rfl⟩
  | x :: xs, h => by
    rw [List.all_cons, Bool.and_eq_true] at h
    obtain ⟨f, h1, h2⟩ := natA h.2
    cases x with
    | int i => exact ⟨i :: f, by rw [asInts, h1]; rfl, by
        unfold natI at h2 ⊢
        rw [List.all_cons, h2, Bool.and_true]
        exact h.1⟩
    | _ => exact absurd h.1 (by simp [isNatV])
theorem natB {f : Fc} (h : natI f = true) : (f.map PV.int).all isNatV = true := by
  unfold natI at h
  rw [List.all_map, List.all_eq_true]
  exact fun x hx => List.all_eq_true.mp h x hx
def asFace : PV → Option Fc
  | .tup xs => match asInts xs with
    | some f => if !f.isEmpty && natI f && incI f then some f else none
    | none => none
  | _ => none
structure FaceOk (f : Fc) : Prop where
  n : f ≠ []
  p : ∀ x ∈ f, 0 ≤ x
  i : f.Pairwise (· < ·)
theorem asFace_eq {v : PV} {f : Fc} (h : asFace v = some f) : v = tI f ∧ FaceOk f := by
  cases v with
  | tup xs =>
    unfold asFace at h
    cases q : asInts xs with
    | none => simp [q] at h
    | some g =>
      simp only [q] at h
      split at h
      · rename_i c
        cases h
        rw [Bool.and_eq_true, Bool.and_eq_true] at c
        refine ⟨by rw [asInts_eq q, tI], ⟨?_, ?_, (incI_iff f).mp c.2⟩⟩
        · rintro rfl
          simp at c
        · intro x hx
          exact of_decide_eq_true (List.all_eq_true.mp c.1.2 x hx)
      · cases h
  | _ => simp [asFace] at h
theorem for_all2 {τ : Type} {enc : τ → PV} {chk : Chk} {tg : PV → HW.Env → Option HW.Env} {body : HW.Env → PHeap → R Out} {h : PHeap} {v : PV} (p : τ → Bool) (I : HW.Env → Prop) (hc : chk h = true) :
    ∀ (ts : List τ) (env : HW.Env), (∀ t ∈ ts, ∀ env, I env → ∃ e1, tg (enc t) env = some e1 ∧ (p t = false → body e1 h = .ok (.rt v) h) ∧ (p t = true → ∃ e2, body e1 h = .ok (.nx e2) h ∧ I e2)) →
      I env → (ts.all p = false → forGo chk tg body (ts.map enc) env h = .ok (.rt v) h) ∧ (ts.all p = true → ∃ env', forGo chk tg body (ts.map enc) env h = .ok (.nx env') h ∧ I env')
  | [], env, _, i => ⟨by simp, fun _ => ⟨env, by simp [forGo, hc], i⟩⟩
  | t :: ts, env, hs, i => by
    obtain ⟨e1, q1, q2, q3⟩ := hs t (List.mem_cons_self ..) env i
    cases hp : p t with
    | false => exact ⟨fun _ => by simp [forGo, hc, q1, q2 hp], by simp [hp]⟩
    | true =>
      obtain ⟨e2, q4, i2⟩ := q3 hp
      obtain ⟨r1, r2⟩ := for_all2 p I hc ts e2 (fun t ht => hs t (List.mem_cons_of_mem _ ht)) i2
      refine ⟨fun a => ?_, fun a => ?_⟩
      · simp only [List.all_cons, hp, Bool.true_and] at a
        simp [forGo, hc, q1, q4, r1 a]
      · simp only [List.all_cons, hp, Bool.true_and] at a
        obtain ⟨env', r3, r4⟩ := r2 a
        exact ⟨env', by simp [forGo, hc, q1, q4, r3], r4⟩
theorem zip_ints (f : Fc) : zipOf (f.map .int) ((f.map PV.int).drop 1) = (f.zip (f.drop 1)).map fun p => .tup [.int p.1, .int p.2] := by
  unfold zipOf
  rw [← List.map_drop, List.zipWith_map, ← List.map_uncurry_zip_eq_zipWith]
  rfl
theorem zip_faces (f : List Fc) : zipOf (f.map tI) ((f.map tI).drop 1) = (f.zip (f.drop 1)).map fun p => .tup [tI p.1, tI p.2] := by
  unfold zipOf
  rw [← List.map_drop, List.zipWith_map, ← List.map_uncurry_zip_eq_zipWith]
  rfl
section
variable {h : PHeap}
@[simp] theorem x_zt {xs ys : List PV} : zipSrc h (.tup xs) (.tup ys) = some ((xs, ys), fun _ => true) := rfl
theorem nats_comp {sem : Sem} {env : HW.Env} {i : Nat} {xs : List PV} (hi : i < env.length) (hs : ∀ (v : PV), plainV v = true → sem [v] h = .ok (.bl (isI v)) h) (hx : ∀ x ∈ xs, plainV x = true) (hl : xs.length ≤ LIM) :
    compGo (fun _ => true) (tgSet (.nm i)) (dIfs [sem] .nil) (dE [sem] (.and (.call 0 (.cons (.var i) .nil)) (.cmp .ge (.var i) (.cst (.int 0))))) env xs h [] = .ok (xs.map fun x => .bl (isNatV x)) h := by
  rw [comp_gen (fun _ => true) (fun x => .bl (isNatV x)) rfl xs [] (fun x q => ⟨env.set i (some x), by simp [hi], by simp, fun _ => by
    have q := hx x q
    simp [hi, hs x q]
    cases x <;> simp [plainV] at q <;> simp [isI, isNatV]⟩) (by simpa using hl), List.filter_eq_self.mpr (fun _ _ => rfl)]
  rfl
theorem nats_comp2 {sem s2 : Sem} {env : HW.Env} {i : Nat} {xs : List PV} (hi : i < env.length) (hs : ∀ (v : PV), plainV v = true → sem [v] h = .ok (.bl (isI v)) h) (hx : ∀ x ∈ xs, plainV x = true) (hl : xs.length ≤ LIM) :
    compGo (fun _ => true) (tgSet (.nm i)) (dIfs [sem, s2] .nil) (dE [sem, s2] (.and (.call 0 (.cons (.var i) .nil)) (.cmp .ge (.var i) (.cst (.int 0))))) env xs h [] = .ok (xs.map fun x => .bl (isNatV x)) h := by
  rw [comp_gen (fun _ => true) (fun x => .bl (isNatV x)) rfl xs [] (fun x q => ⟨env.set i (some x), by simp [hi], by simp, fun _ => by
    have q := hx x q
    simp [hi, hs x q]
    cases x <;> simp [plainV] at q <;> simp [isI, isNatV]⟩) (by simpa using hl), List.filter_eq_self.mpr (fun _ _ => rfl)]
  rfl
theorem good_items {m n : Nat} {xs : List PV} (hv : good m (n + 1) (.tup xs) = true) : xs.length ≤ m ∧ ∀ x ∈ xs, good m n x = true := by
  simp only [good, Bool.and_eq_true, List.all_eq_true, decide_eq_true_eq] at hv
  exact hv
theorem is_face_ev {m n : Nat} (hm : m ≤ 60) {v : PV} (hv : good m n v = true) : s_is_face [v] h = .ok (.bl (asFace v).isSome) h := by
  cases v with
  | tup xs =>
    cases n with
    | zero => simp [good] at hv
    | succ n =>
      have hx := good_items hv
      have hl : xs.length ≤ LIM := by simp [LIM]; omega
      cases xs with
      | nil =>
        simp [s_is_face, runFn, if_is_face, eq_int]
        exact finish_same (v := .bl false) rfl
      | cons x xs =>
        have nz : ¬ ((xs.length : Int) + 1 = 0) := by omega
        simp [s_is_face, runFn, if_is_face, eq_int, lockV, nz]
        rw [nats_comp (by simp) (fun v => is_integer_ev) (fun y hy => good_plain (hx.2 y hy)) hl]
        simp
        rw [show PV.bl (isNatV x) :: List.map (fun x => PV.bl (isNatV x)) xs = (x :: xs).map fun x => .bl (isNatV x) from rfl, all_enc]
        cases q : (x :: xs).all isNatV with
        | false =>
          have : asFace (.tup (x :: xs)) = none := by
            cases r : asFace (.tup (x :: xs)) with
            | none => rfl
            | some f =>
              obtain ⟨e, ok⟩ := asFace_eq r
              unfold tI at e
              injection e with e
              rw [e, natB (List.all_eq_true.mpr fun y hy => decide_eq_true (ok.p y hy))] at q
              cases q
          simp [this]
          exact finish_same (v := .bl false) rfl
        | true =>
          obtain ⟨f, f1, f2⟩ := natA q
          have e := asInts_eq f1
          have ne : f.isEmpty = false := by
            cases f with
            | nil => cases e
            | cons a f => rfl
          have af : (asFace (.tup (x :: xs))).isSome = incI f := by
            unfold asFace
            simp only [f1, f2, ne]
            cases incI f <;> rfl
          rw [af]
          have e2 : zipOf (x :: xs) xs = (f.zip (f.drop 1)).map fun p => .tup [.int p.1, .int p.2] := by
            rw [← zip_ints, ← e]
            rfl
          have fl : f.length ≤ LIM := by
            have := congrArg List.length e
            simp at this
            simp at hl
            omega
          simp [lockV, e2]
          rw [comp_map (fun p : Int × Int => .bl (decide (p.1 < p.2))) rfl _ (fun p hp => ⟨_, by simp; rfl, by simp⟩) (by simp; omega)]
          simp
          rw [all_enc, ← List.drop_one]
          exact finish_same (v := .bl _) rfl
  | _ =>
    cases n <;> simp [good] at hv <;> simp [s_is_face, runFn, if_is_face] <;> exact finish_same (v := .bl false) rfl
theorem within_ev {a b : Fc} (hl : a.length ≤ LIM) : s__law_inside [tI a, tI b] h = .ok (.bl (wit a b)) h := by
  rw [show tI a = .tup (a.map .int) from rfl]
  simp [s__law_inside, runFn, if__law_inside, lockV]
  rw [comp_map (fun c : Int => .bl (decide (c ∈ b))) rfl _ (fun p hp => ⟨_, by simp; rfl, by simp [in_tI]⟩) hl]
  simp
  rw [all_enc]
  exact finish_same (v := .bl _) rfl
theorem top_comp {s0 : List Sem} {n : Nat} {env : HW.Env} {i j : Nat} {rows : List Fc} {a : Fc} (hsem : s0.getD n (fun _ _ => .bad) = s__law_inside) (hij : j ≠ i) (hi : env[i]? = some (some (tI a))) (hj : j < env.length) (hl : rows.length ≤ LIM) (ha : a.length ≤ LIM) :
    compGo (fun _ => true) (tgSet (.nm j)) (dIfs s0 .nil) (dE s0 (.and (.cmp .ne (.var i) (.var j)) (.call n (.cons (.var i) (.cons (.var j) .nil))))) env (rows.map tI) h [] = .ok (rows.map fun b => .bl (decide (a ≠ b) && wit a b)) h := by
  have g1 : ∀ x, (env.set j x)[i]? = some (some (tI a)) := fun x => by rw [List.getElem?_set_ne hij, hi]
  have g2 : ∀ x, (env.set j x)[j]? = some x := fun x => by rw [List.getElem?_set_self hj]
  rw [comp_map (fun b => .bl (decide (a ≠ b) && wit a b)) rfl _ (fun b hb => ⟨_, by simp [hj]; rfl, by
    simp only [x_and, x_cmp, x_var, g1, g2, R.bind_ok, x_ne, eq_tI, Option.map_some, R.of_some, x_trb, x_call, x_cons, x_nil, hsem, within_ev ha]
    by_cases q : a = b <;> simp [q]⟩) hl]
theorem all_asFace : ∀ {xs : List PV}, (xs.all fun x => (asFace x).isSome) = true → ∃ ks, xs.mapM asFace = some ks ∧ xs = ks.map tI ∧ ∀ f ∈ ks, FaceOk f
  | [], _ => ⟨[], rfl, rfl, by simp⟩
  | x :: xs, h => by
    rw [List.all_cons, Bool.and_eq_true] at h
    obtain ⟨ks, h1, h2, h3⟩ := all_asFace h.2
    obtain ⟨f, hf⟩ := Option.isSome_iff_exists.mp h.1
    obtain ⟨e, ok⟩ := asFace_eq hf
    refine ⟨f :: ks, by rw [List.mapM_cons, hf, h1]; rfl, by rw [List.map_cons, ← e, ← h2], ?_⟩
    intro g hg
    rcases List.mem_cons.mp hg with q | q
    · exact q ▸ ok
    · exact h3 g q
theorem no_asFace : ∀ {xs : List PV}, (xs.all fun x => (asFace x).isSome) = false → xs.mapM asFace = none
  | [], h => by simp at h
  | x :: xs, h => by
    rw [List.mapM_cons]
    cases q : asFace x with
    | none => rfl
    | some f =>
      rw [List.all_cons, q] at h
      rw [no_asFace (by simpa using h)]
      rfl
end
end K13
namespace K13
open PySem HW
theorem plainSet_tI (ks : List Fc) : plainSet (ks.map tI) = true := by
  unfold plainSet
  rw [Bool.or_eq_true]
  right
  rw [List.all_map, List.all_eq_true]
  intro k _
  show (asInts (k.map .int)).isSome = true
  rw [asInts_map]
  rfl
theorem plainSet_ints (ks : List Int) : plainSet (ks.map .int) = true := by
  unfold plainSet
  rw [Bool.or_eq_true]
  left
  rw [List.all_map, List.all_eq_true]
  intro k _
  rfl
theorem sortOk_ints (ks : List Int) : sortOk (ks.map .int) = true := by
  unfold sortOk
  rw [toD_ints]
  simp only [Bool.and_eq_true, Bool.or_eq_true]
  refine ⟨⟨?_, ?_⟩, .inr ?_⟩
  · simp [List.all_eq_true, PySem.W.alike]
  · simp [List.all_eq_true, PyData.depth]
  · simp [List.all_map, List.all_eq_true]
theorem asFace_no {ys : List PV} (q : ys.all isNatV = false) : asFace (.tup ys) = none := by
  cases r : asFace (.tup ys) with
  | none => rfl
  | some f =>
    obtain ⟨e, ok⟩ := asFace_eq r
    unfold tI at e
    injection e with e
    rw [e, natB (List.all_eq_true.mpr fun y hy => decide_eq_true (ok.p y hy))] at q
    cases q
theorem asFace_yes {ys : List PV} (q : ys.all isNatV = true) : ∃ f : Fc, ys = f.map .int ∧ (asFace (.tup ys)).isSome = (!f.isEmpty && incI f) := by
  obtain ⟨f, f1, f2⟩ := natA q
  refine ⟨f, asInts_eq f1, ?_⟩
  unfold asFace
  simp only [f1, f2]
  cases f.isEmpty <;> cases incI f <;> rfl
section
variable {h : PHeap}
theorem law_greatest_ev {v : PV} {ks : List Fc} (hv : asSeq h v = some (ks.map tI)) (hl : ks.length < 64) (hne : ∀ k ∈ ks, k ≠ []) (hf : ∀ k ∈ ks, k.length ≤ LIM) :
    ∃ rows : List Fc, rows.Pairwise (· < ·) ∧ (∀ k, k ∈ rows ↔ k ∈ ks) ∧ rows.length ≤ ks.length ∧ s__law_greatest [v] h = .ok (.tup ((rows.filter (top1 rows)).map tI)) h := by
  obtain ⟨rows, h1, h2, h3⟩ := rows_F ks
  have rl0 : rows.length ≤ ks.length := by
    have nd : rows.Nodup := h2.imp fun {x y} q e => by
      subst e
      exact flt_irrefl _ q
    obtain ⟨ms, m1, m2, m3⟩ := dedup_tups ks
    have e : (sortV (dedup (ks.map tI))).length = rows.length := by rw [h1, List.length_map]
    have e2 : (sortV (dedup (ks.map tI))).length = (dedup (ks.map tI)).length := List.length_mergeSort _
    have e3 : ∀ xs : List PV, (dedup xs).length ≤ xs.length := by
      intro xs
      induction xs with
      | nil => simp [dedup]
      | cons x xs ih =>
        rw [dedup, List.length_cons, List.length_cons]
        have := List.length_filter_le (fun y => !decide (y = x)) (dedup xs)
        omega
    have e4 := e3 (ks.map tI)
    rw [List.length_map] at e4
    omega
  refine ⟨rows, h2, h3, rl0, ?_⟩
  have rl : rows.length ≤ LIM := by
    simp [LIM]
    omega
  have cs : convop .sortedSet false v h = .ok (.lst (rows.map tI)) h := by
    simp only [convop, hv, R.of_some, R.bind_ok]
    rw [plainSet_tI, sortOk_tI hne]
    simp [hl, h1]
  simp [s__law_greatest, runFn, if__law_greatest, cs, lockV]
  rw [comp_enc (top1 rows) tI rfl _ _ (fun a ha => ⟨[some v, some (.lst (rows.map tI)), some (tI a), none], by simp, by
    have al : a.length ≤ LIM := hf a ((h3 a).mp ha)
    simp [lockV]
    rw [top_comp (a := a) (i := 2) (j := 3) (n := 0) rfl (by decide) rfl (by simp) rl al]
    simp only [R.bind_ok, x_mkf]
    rw [any_enc]
    simp
    unfold top1
    simp, fun _ => by simp⟩) (by simpa using rl)]
  have e2 : ∀ {x : List PV}, asSeq h (.lst x) = some x := rfl
  simp [convop, e2]
  exact finish_same (below_tup_tI _ _)
theorem good_fl {m n : Nat} (hm : m ≤ 60) {ks : List Fc} (hx : ∀ x ∈ ks.map tI, good m n x = true) : ∀ f ∈ ks, f.length ≤ 60 := fun f hf => by
  have := hx (tI f) (List.mem_map.mpr ⟨f, hf, rfl⟩)
  cases n with
  | zero => simp [tI, good] at this
  | succ n =>
    have := (good_items this).1
    simp at this ⊢
    omega
end
end K13
namespace K13
open PySem HW
def insZ (S : List Int) (c : Int) : List Int := if S.any (fun g => decide (g = c)) then S else S ++ [c]
theorem mem_insZ {S : List Int} {f g : Int} : g ∈ insZ S f ↔ g ∈ S ∨ g = f := by
  unfold insZ
  split
  · rename_i h
    obtain ⟨x, h1, h2⟩ := List.any_eq_true.mp h
    have := of_decide_eq_true h2
    subst this
    exact ⟨.inl, fun h => h.elim id (fun e => e ▸ h1)⟩
  · simp
theorem nodup_insZ {S : List Int} {f : Int} (h : S.Nodup) : (insZ S f).Nodup := by
  unfold insZ
  split
  · exact h
  · rename_i q
    refine List.nodup_append.mpr ⟨h, by simp, ?_⟩
    rintro a ha b hb rfl
    refine q (List.any_eq_true.mpr ⟨a, ha, ?_⟩)
    simpa using hb
theorem length_insZ {S : List Int} {f : Int} : (insZ S f).length ≤ S.length + 1 := by
  unfold insZ
  split <;> simp
def insAZ (S fs : List Int) : List Int := fs.foldl insZ S
theorem mem_insAZ {g : Int} : ∀ {fs S : List Int}, g ∈ insAZ S fs ↔ g ∈ S ∨ g ∈ fs
  | [], S => by simp [insAZ]
  | f :: fs, S => by
    show g ∈ insAZ (insZ S f) fs ↔ _
    rw [mem_insAZ, mem_insZ, List.mem_cons, or_assoc]
theorem nodup_insAZ : ∀ {fs S : List Int}, S.Nodup → (insAZ S fs).Nodup
  | [], S, h => h
  | f :: fs, S, h => nodup_insAZ (fs := fs) (S := insZ S f) (nodup_insZ h)
theorem length_insAZ : ∀ {fs S : List Int}, (insAZ S fs).length ≤ S.length + fs.length
  | [], S => by simp [insAZ]
  | f :: fs, S => by
    show (insAZ (insZ S f) fs).length ≤ _
    have := length_insAZ (fs := fs) (S := insZ S f)
    have := length_insZ (S := S) (f := f)
    simp only [List.length_cons]
    omega
def crnG (S : List Int) (s : List Fc) : List Int := s.foldl insAZ S
theorem mem_crnG {g : Int} : ∀ {s : List Fc} {S : List Int}, g ∈ crnG S s ↔ g ∈ S ∨ ∃ f ∈ s, g ∈ f
  | [], S => by simp [crnG]
  | f :: s, S => by
    show g ∈ crnG (insAZ S f) s ↔ _
    rw [mem_crnG, mem_insAZ]
    simp [or_assoc]
theorem nodup_crnG : ∀ {s : List Fc} {S : List Int}, S.Nodup → (crnG S s).Nodup
  | [], S, h => h
  | f :: s, S, h => nodup_crnG (s := s) (S := insAZ S f) (nodup_insAZ h)
def cs (ks : List Fc) : List Int := (crnG [] ks).mergeSort leI
theorem cs_lt (ks : List Fc) : (cs ks).Pairwise (· < ·) := sortI_lt (nodup_crnG List.nodup_nil)
theorem mem_cs {ks : List Fc} {c : Int} : c ∈ cs ks ↔ ∃ f ∈ ks, c ∈ f := by
  unfold cs
  rw [List.mem_mergeSort, mem_crnG]
  simp
def di (S : List Int) : List (PV × PV) := S.map fun f => (.int f, .bl true)
theorem di_keys (S : List Int) : ∀ e ∈ di S, ∃ f, e.1 = .int f := fun e he => by
  obtain ⟨f, _, rfl⟩ := List.mem_map.mp he
  exact ⟨f, rfl⟩
theorem di_put (S : List Int) (f : Int) : dPut (di S) (.int f) (.bl true) = di (insZ S f) := by
  have a : (di S).any (fun e => decide (e.1 = .int f)) = S.any (fun g => decide (g = f)) := by
    unfold di
    rw [List.any_map]
    congr 1
    funext g
    simp only [Function.comp, PV.int.injEq]
  unfold dPut insZ
  rw [a]
  split
  · unfold di
    rw [List.map_map]
    refine List.map_congr_left fun g _ => ?_
    simp only [Function.comp]
    split <;> rfl
  · simp [di]
/-- the law's corners *)-/
def rng (n : Nat) : List Int := (List.range n).map fun (i : Nat) => (i : Int)
section
variable {h : PHeap}
theorem crn_inner {ctx : List Sem} {v : PV} {f : Fc} {S fs : List Int} {d : Option PV} (hl : S.length + fs.length ≤ 1000000) :
    ∃ d', forGo (fun _ => true) (tgSet (.nm 3)) (dSs ctx (.cons (.asg (.sub (.var 1) (.var 3)) (.cst (.bl true))) .nil)) (fs.map .int) [some v, some (.ref h.length), some (tI f), d] (h ++ [.dct (di S)]) =
      .ok (.nx [some v, some (.ref h.length), some (tI f), d']) (h ++ [.dct (di (insAZ S fs))]) := by
  obtain ⟨e, g, q, rfl, ⟨d', rfl⟩, _⟩ := for_inv (enc := PV.int) (chk := fun _ => true) (tg := tgSet (.nm 3)) (body := dSs ctx (.cons (.asg (.sub (.var 1) (.var 3)) (.cst (.bl true))) .nil))
    (step := insZ) (I := fun ts S env g => g = h ++ [.dct (di S)] ∧ (∃ d, env = [some v, some (.ref h.length), some (tI f), d]) ∧ S.length + ts.length ≤ 1000000)
    (fun _ _ _ _ _ => rfl) (by
      rintro t ts a env g ⟨rfl, ⟨c, rfl⟩, h1⟩
      refine ⟨[some v, some (.ref h.length), some (tI f), some (.int t)], by simp, _, h ++ [.dct (di (insZ a t))], ?_, rfl, ⟨some (.int t), rfl⟩, ?_⟩
      · simp only [List.length_cons] at h1
        simp
        rw [put_dct (keyOk_int (di_keys a) t) (by simp [di, LIM]; omega), di_put]
        rfl
      · have := length_insZ (S := a) (f := t)
        simp only [List.length_cons] at h1
        omega) fs S [some v, some (.ref h.length), some (tI f), d] _ ⟨rfl, ⟨d, rfl⟩, hl⟩
  exact ⟨d', q⟩
theorem rng_map (n : Nat) : (List.range n).map (fun (i : Nat) => PV.int i) = (rng n).map .int := by
  unfold rng
  rw [List.map_map]
  rfl
end
end K13
namespace K13
open PySem HW
section
variable {h : PHeap}
theorem cs_length {ks : List Fc} (h5 : ks.length ≤ 60) (h4 : ∀ f ∈ ks, f.length ≤ 60) : (cs ks).length ≤ 3600 := by
  unfold cs
  rw [(List.mergeSort_perm _ _).length_eq]
  have G : ∀ (s : List Fc) (S : List Int), (∀ f ∈ s, f.length ≤ 60) → (crnG S s).length ≤ S.length + s.length * 60 := by
    intro s
    induction s with
    | nil => intro S _; simp [crnG]
    | cons f s ih =>
      intro S hs
      have i1 := ih (insAZ S f) fun g hg => hs g (List.mem_cons_of_mem _ hg)
      have i2 := length_insAZ (fs := f) (S := S)
      have i3 := hs f (List.mem_cons_self ..)
      show (crnG (insAZ S f) s).length ≤ _
      simp only [List.length_cons, Nat.add_mul]
      omega
  have := G ks [] h4
  simp at this
  omega
/-! parts *)-/
/-! the number box *)-/
def Bx (ns : List Int) (t g : PHeap) : Prop := ∃ i left k : Int, 0 ≤ i ∧ i ≤ ns.length ∧ 0 ≤ left ∧ 0 ≤ k ∧ g = box ns i left k :: t
theorem take_bx {ns : List Int} {t g : PHeap} (b : Bx ns t g) {many : Int} (h1 : 1 ≤ many) (h2 : many < 1073741824) : ∃ d g', 0 ≤ d ∧ d < many ∧ Bx ns t g' ∧ s__law_take [.ref 0, .int many] g = .ok (.int d) g' := by
  obtain ⟨i, left, k, b1, b2, b3, b4, rfl⟩ := b
  obtain ⟨d, i', left', k', q1, q2, q3, q4, q5, q6, q7⟩ := take_any (t := t) b1 b2 b4 b3 h1 h2
  exact ⟨d, _, q1, q2, ⟨i', left', k', q3, q4, q5, q6, rfl⟩, q7⟩
theorem finish_bx {ns : List Int} {t g g' e : PHeap} {v : PV} (b : Bx ns t g) (b' : Bx ns t g') (hv : ∀ n, below n v = true) : HW.finish false g v (g' ++ e) = .ok v g' := by
  obtain ⟨i, left, k, _, _, _, _, rfl⟩ := b
  obtain ⟨i', left', k', _, _, _, _, rfl⟩ := b'
  have h1 : okOuter (box ns i left k :: t) ((box ns i' left' k' :: t) ++ e) = true := by
    simp only [okOuter, List.all_eq_true, List.mem_range, Bool.or_eq_true, decide_eq_true_eq]
    intro m hm
    cases m with
    | zero => exact .inr (by simp [box, belowC, belows, below, belows_ints])
    | succ m =>
      refine .inl ?_
      simp only [List.length_cons] at hm
      simp only [List.cons_append, List.getElem?_cons_succ]
      rw [List.getElem?_append_left (by omega)]
  have h2 : frz ((box ns i' left' k' :: t) ++ e) (box ns i left k :: t).length 12 v = some v := by
    unfold frz
    rw [if_pos (hv _)]
  unfold HW.finish
  rw [h1, h2]
  simp
theorem finish_bx0 {ns : List Int} {t g g' : PHeap} {v : PV} (b : Bx ns t g) (b' : Bx ns t g') (hv : ∀ n, below n v = true) : HW.finish false g v g' = .ok v g' := by
  have := finish_bx (e := []) b b' hv
  rwa [List.append_nil] at this
end
end K13
namespace K13
open PySem HW
theorem mem_cut {xs : List PV} {lo hi : Option Int} {x : PV} (h : x ∈ cut xs lo hi) : x ∈ xs := by
  unfold cut at h
  exact List.mem_of_mem_drop (List.mem_of_mem_take h)
theorem length_cut (xs : List PV) (lo hi : Option Int) : (cut xs lo hi).length ≤ xs.length := by
  unfold cut
  simp
  omega
theorem cut_last (xs : List PV) : (cut xs (some (-1)) none).length ≤ 1 := by
  unfold cut
  rw [HT.sIx_none]
  have e : HT.sIx xs.length 0 (some (-1)) = xs.length - 1 := by
    show (if (-1 : Int) < 0 then ((-1 : Int) + (xs.length : Int)).toNat else min (-1 : Int).toNat xs.length) = _
    rw [if_pos (by decide)]
    omega
  rw [e]
  simp
  omega
theorem good_tup {m n : Nat} {xs : List PV} (h1 : xs.length ≤ m) (h2 : ∀ x ∈ xs, good m n x = true) : good m (n + 1) (.tup xs) = true := by
  simp only [good, Bool.and_eq_true, List.all_eq_true, decide_eq_true_eq]
  exact ⟨h1, h2⟩
theorem good_lst {m n : Nat} {xs : List PV} (h1 : xs.length ≤ m) (h2 : ∀ x ∈ xs, good m n x = true) : good m (n + 1) (.lst xs) = true := by
  simp only [good, Bool.and_eq_true, List.all_eq_true, decide_eq_true_eq]
  exact ⟨h1, h2⟩
theorem good_mono {m m' : Nat} (hm : m ≤ m') : ∀ {n : Nat} {v : PV}, good m n v = true → good m' n v = true := by
  intro n
  induction n with
  | zero => intro v h; cases v <;> simp [good] at h <;> first | rfl | (rw [good]; exact h)
  | succ n ih =>
    intro v h
    cases v with
    | tup xs =>
      simp only [good, Bool.and_eq_true, List.all_eq_true, decide_eq_true_eq] at h
      exact good_tup (by omega) fun x hx => ih (h.2 x hx)
    | lst xs =>
      simp only [good, Bool.and_eq_true, List.all_eq_true, decide_eq_true_eq] at h
      exact good_lst (by omega) fun x hx => ih (h.2 x hx)
    | _ => simp [good] at h <;> first | rfl | (rw [good]; exact h)
theorem good_int (m n : Nat) (i : Int) : good m n (.int i) = true := by cases n <;> rfl
theorem good_bl (m n : Nat) (i : Bool) : good m n (.bl i) = true := by cases n <;> rfl
theorem good_non (m n : Nat) : good m n .non = true := by cases n <;> rfl
theorem good_below {m n : Nat} {v : PV} (h : good m n v = true) (k : Nat) : below k v = true := below_tame k n v (good_tame h)
theorem item_mem {g : PHeap} {xs : List PV} {d : Int} (h0 : 0 ≤ d) (h1 : d < xs.length) : ∃ v ∈ xs, itemOf g (.lst xs) (.int d) = some v := by
  obtain ⟨k, rfl⟩ : ∃ k : Nat, d = k := ⟨d.toNat, by omega⟩
  have hk : k < xs.length := by omega
  exact ⟨xs[k], List.getElem_mem hk, L2.atI_nat (by simp [hk])⟩
theorem good_str (m n : Nat) {s : Str} (h : PyData.strOk s = true) : good m n (.str s) = true := by cases n <;> exact h
theorem spoilt_str {ns : List Int} {t g : PHeap} {m n : Nat} {v : Str} (b : Bx ns t g) :
    ∃ v' g', good (m + 1) n v' = true ∧ Bx ns t g' ∧ r__law_spoilt (n + 1) [.ref 0, .str v] g = .ok v' g' := by
  obtain ⟨d, g', d1, d2, b', e⟩ := take_bx b (many := 11) (by omega) (by omega)
  obtain ⟨v', v1, v2⟩ := item_mem (g := g') (xs := [.str (Str.ofString ""), .str (Str.ofString "way"), .str (Str.ofString "apart"), .str (Str.ofString "open"), .str (Str.ofString "turned"), .str (Str.ofString "cycle"), .str (Str.ofString "smith"), .str (Str.ofString "holes"), .str (Str.ofString "fills"), .str (Str.ofString "bars"), .str (Str.ofString "comes")]) d1 (by simpa using d2)
  have hg : good (m + 1) n v' = true := by
    simp only [List.mem_cons, List.not_mem_nil, or_false] at v1
    rcases v1 with r | r | r | r | r | r | r | r | r | r | r <;> rw [r] <;> exact good_str _ _ (by decide +kernel)
  refine ⟨v', g', hg, b', ?_⟩
  rw [r__law_spoilt]
  simp [runFn, if__law_spoilt, e, v2]
  exact finish_bx0 b b' (good_below hg)
theorem spoilt_other {ns : List Int} {t g : PHeap} {m n : Nat} {v : PV} (b : Bx ns t g) (hv : good m n v = true) (ht : ∀ xs, v ≠ .tup xs) (hs : ∀ s, v ≠ .str s) :
    ∃ v' g', good (m + 1) n v' = true ∧ Bx ns t g' ∧ r__law_spoilt (n + 1) [.ref 0, v] g = .ok v' g' := by
  obtain ⟨d, g', d1, d2, b', e⟩ := take_bx b (many := 7) (by omega) (by omega)
  obtain ⟨v', v1, v2⟩ := item_mem (g := g') (xs := [.int 0, .int 1, .int 2, .int (-1), .bl true, .non, .int 3]) d1 (by simpa using d2)
  have hg : good (m + 1) n v' = true := by
    simp at v1
    rcases v1 with r | r | r | r | r | r | r <;> rw [r] <;> first | exact good_int _ _ _ | exact good_bl _ _ _ | exact good_non _ _
  refine ⟨v', g', hg, b', ?_⟩
  have w1 : bltop (.isi "str") [v] g = some (.bl false) := by
    cases v <;> cases n <;> simp [good] at hv <;> first | rfl | exact absurd rfl (hs _)
  have w2 : bltop (.isi "tuple") [v] g = some (.bl false) := by
    cases v <;> cases n <;> simp [good] at hv <;> first | rfl | exact absurd rfl (ht _)
  rw [r__law_spoilt]
  simp [runFn, if__law_spoilt, w1, w2, e, v2]
  exact finish_bx0 b b' (good_below hg)
@[simp] theorem x_rvt {h : PHeap} {xs : List PV} : revOf h (.tup xs) = some (.tup xs.reverse) := rfl
@[simp] theorem x_slm {h : PHeap} {xs : List PV} {lo hi : Option Int} : sliceOf h (.tup xs) lo hi = some (.tup (cut xs lo hi)) := rfl
@[simp] theorem x_cvl {h : PHeap} {xs : List PV} : convop .list false (.tup xs) h = .ok (.lst xs) h := rfl
theorem spoilt_ev {ns : List Int} {t : PHeap} {m : Nat} (hm : 1 ≤ m) (hm2 : m ≤ 60) : ∀ (n : Nat) (v : PV) (g : PHeap), good m n v = true → Bx ns t g →
    ∃ v' g', good (m + 1) n v' = true ∧ Bx ns t g' ∧ r__law_spoilt (n + 1) [.ref 0, v] g = .ok v' g' := by
  intro n
  induction n with
  | zero =>
    intro v g hv b
    by_cases hs : ∃ s, v = .str s
    · obtain ⟨s, rfl⟩ := hs
      exact spoilt_str b
    exact spoilt_other b hv (fun xs e => by
      subst e
      simp [good] at hv) fun s e => hs ⟨s, e⟩
  | succ n ih =>
    intro v g hv b
    by_cases ht : ∃ xs, v = .tup xs
    · obtain ⟨xs, rfl⟩ := ht
      have hx := good_items hv
      have hx' : ∀ x ∈ xs, good (m + 1) n x = true := fun x q => good_mono (by omega) (hx.2 x q)
      -- the eight
      have eight : ∀ g1 : PHeap, Bx ns t g1 → ∃ v' g', good (m + 1) (n + 1) v' = true ∧ Bx ns t g' ∧ ((s__law_take [.ref 0, .int 8] g1).bind fun y h => R.of (itemOf h (.lst [.tup (cut xs (some 1) none), .tup (cut xs none (some (-1))), .tup (xs ++ cut xs (some (-1)) none), .tup xs.reverse, .lst xs, .tup (xs ++ [.int 0]), .tup [], .tup [.int 1, .int 0]]) y) h) = .ok v' g' := by
        intro g1 b1
        obtain ⟨d, g', d1, d2, b', e⟩ := take_bx b1 (many := 8) (by omega) (by omega)
        obtain ⟨v', v1, v2⟩ := item_mem (g := g') (xs := [.tup (cut xs (some 1) none), .tup (cut xs none (some (-1))), .tup (xs ++ cut xs (some (-1)) none), .tup xs.reverse, .lst xs, .tup (xs ++ [.int 0]), .tup [], .tup [.int 1, .int 0]]) d1 (by simpa using d2)
        refine ⟨v', g', ?_, b', by rw [e]; simp only [R.bind_ok, v2, R.of_some]⟩
        have c1 := length_cut xs (some 1) none
        have c2 := length_cut xs none (some (-1))
        have c3 := cut_last xs
        simp only [List.mem_cons, List.not_mem_nil, or_false] at v1
        rcases v1 with r | r | r | r | r | r | r | r <;> rw [r]
        · exact good_tup (by omega) fun x q => hx' x (mem_cut q)
        · exact good_tup (by omega) fun x q => hx' x (mem_cut q)
        · exact good_tup (by rw [List.length_append]; omega) fun x q => (List.mem_append.mp q).elim (hx' x) fun q => hx' x (mem_cut q)
        · exact good_tup (by rw [List.length_reverse]; omega) fun x q => hx' x (List.mem_reverse.mp q)
        · exact good_lst (by omega) hx'
        · exact good_tup (by rw [List.length_append]; simp; omega) fun x q => (List.mem_append.mp q).elim (hx' x) fun q => by
            rw [List.mem_singleton.mp q]
            exact good_int _ _ _
        · exact good_tup (by simp) (by simp)
        · exact good_tup (by simp; omega) fun x q => by
            simp at q
            rcases q with r | r <;> rw [r] <;> exact good_int _ _ _
      have a1 : ∀ h : PHeap, binop .add (.tup xs) (.tup (cut xs (some (-1)) none)) h = some (.tup (xs ++ cut xs (some (-1)) none)) := fun h => x_addt (by
        have := cut_last xs
        simp [LIM]
        omega)
      have a2 : ∀ h : PHeap, binop .add (.tup xs) (.tup [.int 0]) h = some (.tup (xs ++ [.int 0])) := fun h => x_addt (by
        simp [LIM]
        omega)
      by_cases e0 : xs = []
      · obtain ⟨v', g', q1, q2, q3⟩ := eight g b
        refine ⟨v', g', q1, q2, ?_⟩
        subst e0
        rw [r__law_spoilt]
        simp [runFn, if__law_spoilt, a1, a2, -x_st1]
        simp only [List.reverse_nil, List.nil_append] at q3
        rw [q3]
        simp
        exact finish_bx0 b q2 (good_below q1)
      · have ne : xs.isEmpty = false := by
          cases xs with
          | nil => exact absurd rfl e0
          | cons x xs => rfl
        obtain ⟨d5, g5, d51, d52, b5, e5⟩ := take_bx b (many := 5) (by omega) (by omega)
        by_cases z : d5 = 0
        · obtain ⟨v', g', q1, q2, q3⟩ := eight g5 b5
          refine ⟨v', g', q1, q2, ?_⟩
          rw [r__law_spoilt]
          simp [runFn, if__law_spoilt, a1, a2, ne, e5, eq_int, z, -x_st1]
          rw [q3]
          simp
          exact finish_bx0 b q2 (good_below q1)
        · have lp : 0 < xs.length := by
            cases xs with
            | nil => exact absurd rfl e0
            | cons x xs => simp
          obtain ⟨d, g', d1, d2, b', e⟩ := take_bx b5 (many := xs.length) (by omega) (by omega)
          obtain ⟨k, rfl⟩ : ∃ k : Nat, d = k := ⟨d.toNat, by omega⟩
          have hk : k < xs.length := by omega
          obtain ⟨w, g2, w1, b2, w2⟩ := ih xs[k] g' (hx.2 _ (List.getElem_mem hk)) b'
          have it : itemOf g' (.tup xs) (.int (k : Int)) = some xs[k] := L2.atI_nat (by simp [hk])
          have hg : good (m + 1) (n + 1) (.tup (xs.take k ++ [w] ++ xs.drop (k + 1))) = true := good_tup (by simp; omega) fun x q => by
            rcases List.mem_append.mp q with q | q
            · rcases List.mem_append.mp q with q | q
              · exact hx' x (List.mem_of_mem_take q)
              · rw [List.mem_singleton.mp q]
                exact w1
            · exact hx' x (List.mem_of_mem_drop q)
          have s1 : ∀ h : PHeap, binop .add (.tup (xs.take k)) (.tup [w]) h = some (.tup (xs.take k ++ [w])) := fun h => x_addt (by
            simp [LIM]
            omega)
          have s2 : ∀ h : PHeap, binop .add (.tup (xs.take k ++ [w])) (.tup (xs.drop (k + 1))) h = some (.tup (xs.take k ++ [w] ++ xs.drop (k + 1))) := fun h => x_addt (by
            simp [LIM]
            omega)
          have s3 : cut xs (some ((k : Int) + 1)) none = xs.drop (k + 1) := cut_drop xs (k + 1)
          refine ⟨_, g2, hg, b2, ?_⟩
          rw [r__law_spoilt]
          simp only [runFn, if__law_spoilt]
          simp [ne, e5, eq_int, z, e, it, cut_take, s1, s2, s3, w2, -List.append_assoc]
          exact finish_bx0 b b2 (good_below hg)
    · by_cases hs : ∃ s, v = .str s
      · obtain ⟨s, rfl⟩ := hs
        exact spoilt_str b
      · exact spoilt_other b hv (fun xs e => ht ⟨xs, e⟩) fun s e => hs ⟨s, e⟩
theorem bent_ev {ns : List Int} {t g : PHeap} {m : Nat} (hm : 1 ≤ m) (hm2 : m ≤ 50) {v : PV} {turn : Int} (hv : good m 5 v = true) (b : Bx ns t g) :
    ∃ v' g', good (m + 2) 5 v' = true ∧ Bx ns t g' ∧ s__law_bent [.ref 0, v, .int turn] g = .ok v' g' := by
  obtain ⟨d, g1, d1, d2, b1, e⟩ := take_bx b (many := 2) (by omega) (by omega)
  obtain ⟨k, hk, hk2⟩ : ∃ k : Nat, (if 0 < turn then (1 : Int) else 0) * (1 + d) = k ∧ k ≤ 2 := by
    split
    · exact ⟨(1 + d).toNat, by omega, by omega⟩
    · exact ⟨0, by simp, by omega⟩
  have sm : small (if 0 < turn then (1 : Int) else 0) = true := by
    split <;> decide
  obtain ⟨env', g', q, b', v', x, rfl, hv'⟩ := for_inv (enc := fun (i : Nat) => PV.int i) (chk := fun _ => true) (tg := tgSet (.nm 3)) (body := dSs [s__law_take, s__law_spoilt] (.cons (.asg (.tg (.nm 1)) (.call 1 (.cons (.var 0) (.cons (.var 1) .nil)))) .nil))
    (step := fun (_ : Unit) _ => ()) (I := fun ts _ env g => Bx ns t g ∧ ∃ v x, env = [some (.ref 0), some v, some (.int turn), x] ∧ good (m + 2 - ts.length) 5 v = true ∧ ts.length ≤ 2)
    (fun _ _ _ _ _ => rfl) (by
      rintro i ts _ env g ⟨b, v, x, rfl, hv, hl⟩
      simp only [List.length_cons] at hv hl
      obtain ⟨v', g', q1, q2, q3⟩ := spoilt_ev (ns := ns) (t := t) (m := m + 2 - (ts.length + 1)) (by omega) (by omega) 5 v g hv b
      refine ⟨[some (.ref 0), some v, some (.int turn), some (.int i)], by simp, [some (.ref 0), some v', some (.int turn), some (.int i)], g', ?_, q2, v', some (.int i), rfl, ?_, by omega⟩
      · have q3 : s__law_spoilt [.ref 0, v] g = .ok v' g' := q3
        simp [q3]
      · have : m + 2 - (ts.length + 1) + 1 = m + 2 - ts.length := by omega
        rwa [this] at q1) (List.range k) () [some (.ref 0), some v, some (.int turn), none] g1 ⟨b1, v, none, rfl, good_mono (by simp; omega) hv, by simpa using hk2⟩
  refine ⟨v', g', by simpa using hv'.1, b', ?_⟩
  simp -implicitDefEqProofs [s__law_bent, runFn, if__law_bent, e]
  rw [ev_mul (by simp only [sm, Bool.true_or]), R.of_some, R.bind_ok, hk, rngV_nat (by omega), R.bind_ok, R.bind_ok, q]
  simp -implicitDefEqProofs
  exact finish_bx0 b b' (good_below (by simpa using hv'.1))
/-! shapes *)-/
theorem nodup_len : ∀ {a b : List Int}, a.Nodup → (∀ x ∈ a, x ∈ b) → a.length ≤ b.length
  | [], b, _, _ => by simp
  | x :: a, b, hn, hs => by
    rw [List.nodup_cons] at hn
    have hx := hs x (List.mem_cons_self ..)
    have ih := nodup_len (b := b.erase x) hn.2 fun y hy => by
      refine (List.mem_erase_of_ne ?_).mpr (hs y (List.mem_cons_of_mem _ hy))
      rintro rfl
      exact hn.1 hy
    rw [List.length_erase_of_mem hx] at ih
    have := List.length_pos_of_mem hx
    simp only [List.length_cons]
    omega
theorem sub_eq {a b : Fc} (ha : a.Pairwise (· < ·)) (hb : b.Pairwise (· < ·)) (hs : ∀ x ∈ a, x ∈ b) (hl : b.length ≤ a.length) : a = b := by
  refine uniqI ha hb fun k => ⟨hs k, fun hk => ?_⟩
  by_cases q : k ∈ a
  · exact q
  · exfalso
    have := nodup_len (a := a) (b := b.erase k) (ha.imp fun h e => by omega) fun y hy => by
      refine (List.mem_erase_of_ne ?_).mpr (hs y hy)
      rintro rfl
      exact q hy
    rw [List.length_erase_of_mem hk] at this
    have := List.length_pos_of_mem hk
    omega
theorem longest : ∀ {rows : List Fc}, rows ≠ [] → ∃ a ∈ rows, ∀ b ∈ rows, b.length ≤ a.length
  | [], h => absurd rfl h
  | [a], _ => ⟨a, by simp, by simp⟩
  | a :: c :: rows, _ => by
    obtain ⟨b, h1, h2⟩ := longest (rows := c :: rows) (by simp)
    by_cases q : b.length ≤ a.length
    · refine ⟨a, by simp, fun x hx => ?_⟩
      rcases List.mem_cons.mp hx with e | e
      · rw [e]
        exact Nat.le_refl _
      · have := h2 x e
        omega
    · refine ⟨b, List.mem_cons_of_mem _ h1, fun x hx => ?_⟩
      rcases List.mem_cons.mp hx with e | e
      · rw [e]
        omega
      · exact h2 x e
theorem top_ne {rows : List Fc} (hi : ∀ f ∈ rows, f.Pairwise (· < ·)) (hn : rows ≠ []) : rows.filter (top1 rows) ≠ [] := by
  obtain ⟨a, h1, h2⟩ := longest hn
  refine List.ne_nil_of_mem (a := a) (List.mem_filter.mpr ⟨h1, ?_⟩)
  unfold top1
  rw [Bool.not_eq_true', List.any_eq_false]
  intro b hb
  simp only [Bool.and_eq_true, decide_eq_true_eq, not_and]
  intro ne w
  refine ne (sub_eq (hi a h1) (hi b hb) (fun x hx => of_decide_eq_true (List.all_eq_true.mp w x hx)) (h2 b hb))
structure Shp (s : List Fc) : Prop where
  e : s ≠ []
  n : s.length ≤ 40
  f : ∀ f ∈ s, f ≠ [] ∧ f.length ≤ 5
  srt : s.Pairwise (· < ·)
  inc : ∀ f ∈ s, f.Pairwise (· < ·)
  nn : ∀ f ∈ s, ∀ x ∈ f, 0 ≤ x
  few : ∀ k, (s.filter fun f => decide (f.length = k)).length ≤ 10
theorem Shp.sm {s : List Fc} (h : Shp s) : Sm s := ⟨by have := h.n; omega, fun f hf => by have := (h.f f hf).2; omega⟩
theorem Shp.good {s : List Fc} (h : Shp s) : good 40 5 (.tup (s.map tI)) = true := good_tup (by simpa using h.n) fun x hx => by
  obtain ⟨f, hf, rfl⟩ := List.mem_map.mp hx
  refine good_tup (by have := (h.f f hf).2; simp; omega) fun y hy => ?_
  obtain ⟨i, _, rfl⟩ := List.mem_map.mp hy
  exact good_int _ _ _
theorem bx_app {ns : List Int} {t g e : PHeap} (b : Bx ns t g) : Bx ns (t ++ e) (g ++ e) := by
  obtain ⟨i, left, k, b1, b2, b3, b4, rfl⟩ := b
  exact ⟨i, left, k, b1, b2, b3, b4, rfl⟩
theorem bx_split {ns : List Int} {t g e : PHeap} (b : Bx ns (t ++ e) g) : ∃ h, g = h ++ e ∧ Bx ns t h := by
  obtain ⟨i, left, k, b1, b2, b3, b4, rfl⟩ := b
  exact ⟨box ns i left k :: t, rfl, ⟨i, left, k, b1, b2, b3, b4, rfl⟩⟩
theorem bx_len {ns : List Int} {t g : PHeap} (b : Bx ns t g) : g.length = t.length + 1 := by
  obtain ⟨i, left, k, b1, b2, b3, b4, rfl⟩ := b
  simp
theorem nodup_lenF : ∀ {a b : List Fc}, a.Nodup → (∀ x ∈ a, x ∈ b) → a.length ≤ b.length
  | [], _, _, _ => Nat.zero_le _
  | x :: a, b, hn, hs => by
    rw [List.nodup_cons] at hn
    have hx := hs x List.mem_cons_self
    have h1 := nodup_lenF (a := a) (b := b.erase x) hn.2 fun y hy => (List.mem_erase_of_ne (fun z => hn.1 (by rw [← z]; exact hy))).mpr (hs y (List.mem_cons_of_mem _ hy))
    rw [List.length_erase_of_mem hx] at h1
    have h2 := List.length_pos_of_mem hx
    simp only [List.length_cons]
    omega
theorem inc_sub : ∀ {f g : Fc}, f.Pairwise (· < ·) → g.Pairwise (· < ·) → (∀ x ∈ f, x ∈ g) → f.Sublist g
  | [], _, _, _, _ => List.nil_sublist _
  | x :: f, [], _, _, h => by simpa using h x List.mem_cons_self
  | x :: f, y :: g, hf, hg, h => by
    rw [List.pairwise_cons] at hf hg
    by_cases e : x = y
    · subst e
      refine (inc_sub hf.2 hg.2 fun z hz => ?_).cons_cons x
      rcases List.mem_cons.mp (h z (List.mem_cons_of_mem _ hz)) with q | q
      · have := hf.1 z hz
        omega
      · exact q
    · have hy : y < x := by
        rcases List.mem_cons.mp (h x List.mem_cons_self) with q | q
        · exact absurd q e
        · exact hg.1 x q
      refine (inc_sub (f := x :: f) (List.pairwise_cons.mpr hf) hg.2 fun z hz => ?_).cons y
      rcases List.mem_cons.mp (h z hz) with q | q
      · rcases List.mem_cons.mp hz with r | r
        · omega
        · have := hf.1 z r
          omega
      · exact q
theorem few_five {s : List Fc} (hn : s.Nodup) (hi : ∀ f ∈ s, f.Pairwise (· < ·)) (hb : ∀ f ∈ s, ∀ x ∈ f, 0 ≤ x ∧ x < 5) (k : Nat) : (s.filter fun f => decide (f.length = k)).length ≤ 10 := by
  have h1 := nodup_lenF (b := (subs [0, 1, 2, 3, 4]).filter fun f => decide (f.length = k)) (hn.filter _) fun f hf => by
    obtain ⟨h2, h3⟩ := List.mem_filter.mp hf
    refine List.mem_filter.mpr ⟨mem_subs.mpr (inc_sub (hi f h2) (by decide) fun x hx => ?_), h3⟩
    have := hb f h2 x hx
    have : x = 0 ∨ x = 1 ∨ x = 2 ∨ x = 3 ∨ x = 4 := by omega
    simpa using this
  refine Nat.le_trans h1 ?_
  by_cases hk : k ≤ 5
  · have : ∀ k : Fin 6, ((subs [0, 1, 2, 3, 4]).filter fun f => decide (f.length = k.val)).length ≤ 10 := by decide +kernel
    exact this ⟨k, by omega⟩
  · rw [List.filter_eq_nil_iff.mpr]
    · simp
    · intro f hf
      have := (mem_subs.mp hf).length_le
      simp at this ⊢
      omega
def plane : List Fc := [[0, 1, 4], [0, 1, 5], [0, 2, 3], [0, 2, 5], [0, 3, 4], [1, 2, 3], [1, 2, 4], [1, 3, 5], [2, 4, 5], [3, 4, 5]]
def hollow : List Fc := [[0, 1, 2], [0, 1, 3], [0, 2, 3], [1, 2, 3]]
theorem rng_lt (n : Nat) : (rng n).Pairwise (· < ·) := by
  unfold rng
  rw [List.pairwise_map]
  exact List.pairwise_lt_range.imp fun h => by omega
theorem rng_len (n : Nat) : (rng n).length = n := by simp [rng]
def singles (n : Nat) : List Fc := (List.range n).map fun (i : Nat) => [(i : Int)]
theorem shape_ev {ns : List Int} {t g : PHeap} (b : Bx ns t g) : ∃ s g', Shp s ∧ Bx ns t g' ∧ s__law_shape [.ref 0] g = .ok (.tup (s.map tI)) g' := by
  obtain ⟨kind, g1, k1, k2, b1, e1⟩ := take_bx b (many := 8) (by omega) (by omega)
  by_cases z0 : kind = 0
  · refine ⟨plane, g1, ⟨by decide, by decide, by decide, by decide, by decide, by decide, fun k => Nat.le_trans (List.length_filter_le _ _) (by decide)⟩, b1, ?_⟩
    have e2 : ∀ h : PHeap, s__law_plane [] h = .ok (.tup (plane.map tI)) h := fun h => by
      simp [s__law_plane, runFn, if__law_plane]
      exact finish_same (below_tup_tI _ plane)
    simp [s__law_shape, runFn, if__law_shape, e1, eq_int, z0, e2]
    exact finish_bx0 b b1 fun n => below_tup_tI n plane
  · by_cases z1 : kind = 1
    · refine ⟨hollow, g1, ⟨by decide, by decide, by decide, by decide, by decide, by decide, fun k => Nat.le_trans (List.length_filter_le _ _) (by decide)⟩, b1, ?_⟩
      simp [s__law_shape, runFn, if__law_shape, e1, eq_int, z0, z1]
      exact finish_bx0 b b1 fun n => below_tup_tI n hollow
    · obtain ⟨d, g2, d1, d2, b2, e2⟩ := take_bx b1 (many := 5) (by omega) (by omega)
      obtain ⟨n, hn, hn1, hn2⟩ : ∃ n : Nat, 1 + d = n ∧ 1 ≤ n ∧ n ≤ 5 := ⟨(1 + d).toNat, by omega, by omega, by omega⟩
      have gl := bx_len b2
      have c1 : compGo (fun _ => true) (tgSet (.nm 5)) (dIfs [s__law_take, s__law_plane, s__law_parts_of, s__law_greatest] .nil) (dE [s__law_take, s__law_plane, s__law_parts_of, s__law_greatest] (.tup (.cons (.var 5) .nil))) [some (.ref 0), some (.int kind), some (.int n), none, none, none] ((List.range n).map fun (i : Nat) => PV.int i) g2 [] = .ok ((List.range n).map fun (i : Nat) => tI [(i : Int)]) g2 :=
        comp_map (fun i : Nat => tI [(i : Int)]) rfl _ (fun i hi => ⟨_, by simp; rfl, by simp [tI]⟩) (by simp [LIM]; omega)
      have acc0 : (List.range n).map (fun (i : Nat) => tI [(i : Int)]) = (singles n).map tI := by
        rw [singles, List.map_map]
        rfl
      rw [acc0] at c1
      have pl := length_parts (rng n)
      rw [rng_len] at pl
      have p32 : 2 ^ n ≤ 2 ^ 5 := Nat.pow_le_pow_right (by decide) hn2
      obtain ⟨env', g', q, h', acc, b', rfl, ⟨x, y, rfl⟩, al, a0, af, _⟩ := for_inv (enc := tI) (chk := fun _ => true) (tg := tgSet (.nm 4)) (body := dSs [s__law_take, s__law_plane, s__law_parts_of, s__law_greatest] (.cons (.ifs (.and (.cmp2 .lt .lt (.cst (.int 1)) (.blt .len (.cons (.var 4) .nil)) (.cst (.int 5))) (.cmp .eq (.call 0 (.cons (.var 0) (.cons (.sub (.lst false (.cons (.cst (.int 3)) (.cons (.cst (.int 2)) (.cons (.cst (.int 3)) (.cons (.cst (.int 4)) (.cons (.cst (.int 4)) .nil)))))) (.blt .len (.cons (.var 4) .nil))) .nil))) (.cst (.int 0)))) (.cons (.expr (.meth .lapp (.var 3) (.cons (.var 4) .nil))) .nil) .nil) .nil))
        (step := fun (_ : Unit) _ => ()) (I := fun ts _ env g => ∃ h' acc, Bx ns t h' ∧ g = h' ++ [.lst (acc.map tI)] ∧ (∃ x y, env = [some (.ref 0), some (.int kind), some (.int n), some (.ref g2.length), x, y]) ∧ acc.length + ts.length ≤ 40 ∧ acc ≠ [] ∧ (∀ f ∈ acc, f ≠ [] ∧ f.length ≤ 5 ∧ f.Pairwise (· < ·) ∧ ∀ x ∈ f, 0 ≤ x ∧ x < 5) ∧ ∀ f ∈ ts, f ≠ [] ∧ f.length ≤ 5 ∧ f.Pairwise (· < ·) ∧ ∀ x ∈ f, 0 ≤ x ∧ x < 5)
        (fun _ _ _ _ _ => rfl) (by
          rintro f ts _ env g ⟨h', acc, b', rfl, ⟨x, y, rfl⟩, al, a0, af, tf⟩
          have hl : h'.length = g2.length := by rw [bx_len b', gl]
          have tf' : ∀ f ∈ ts, f ≠ [] ∧ f.length ≤ 5 ∧ f.Pairwise (· < ·) ∧ ∀ x ∈ f, 0 ≤ x ∧ x < 5 := fun f hf => tf f (List.mem_cons_of_mem _ hf)
          have ff := tf f (List.mem_cons_self ..)
          simp only [List.length_cons] at al
          refine ⟨[some (.ref 0), some (.int kind), some (.int n), some (.ref g2.length), some (tI f), y], by simp, ?_⟩
          by_cases l1 : (1 : Int) < f.length
          · by_cases l2 : (f.length : Int) < 5
            · obtain ⟨w, w1, w2⟩ := item_mem (g := h' ++ [.lst (acc.map tI)]) (xs := [.int 3, .int 2, .int 3, .int 4, .int 4]) (d := f.length) (by omega) (by simpa using l2)
              obtain ⟨m, rfl, m1, m2⟩ : ∃ m : Int, w = .int m ∧ 1 ≤ m ∧ m ≤ 4 := by
                simp at w1
                rcases w1 with r | r | r | r <;> exact ⟨_, r, by omega, by omega⟩
              obtain ⟨d, gg, d1, d2, bb, e⟩ := take_bx (bx_app (e := [.lst (acc.map tI)]) b') (many := m) (by omega) (by omega)
              obtain ⟨h2, rfl, b2⟩ := bx_split bb
              have hl2 : h2.length = g2.length := by rw [bx_len b2, gl]
              by_cases z : d = 0
              · refine ⟨[some (.ref 0), some (.int kind), some (.int n), some (.ref g2.length), some (tI f), y], h2 ++ [.lst ((acc ++ [f]).map tI)], ?_, h2, acc ++ [f], b2, rfl, ⟨_, _, rfl⟩, by simp; omega, by simp, ?_, tf'⟩
                · have lim : acc.length < LIM := by simp [LIM]; omega
                  simp [l1, l2, w2, e, eq_int, z, recv, methop, mApp, asList, ← hl2, lim, set_last]
                · intro k hk
                  rcases List.mem_append.mp hk with r | r
                  · exact af k r
                  · rw [List.mem_singleton.mp r]
                    exact ff
              · refine ⟨[some (.ref 0), some (.int kind), some (.int n), some (.ref g2.length), some (tI f), y], h2 ++ [.lst (acc.map tI)], ?_, h2, acc, b2, rfl, ⟨_, _, rfl⟩, by omega, a0, af, tf'⟩
                simp [l1, l2, w2, e, eq_int, z]
            · refine ⟨[some (.ref 0), some (.int kind), some (.int n), some (.ref g2.length), some (tI f), y], h' ++ [.lst (acc.map tI)], ?_, h', acc, b', rfl, ⟨_, _, rfl⟩, by omega, a0, af, tf'⟩
              simp [l1, l2]
          · refine ⟨[some (.ref 0), some (.int kind), some (.int n), some (.ref g2.length), some (tI f), y], h' ++ [.lst (acc.map tI)], ?_, h', acc, b', rfl, ⟨_, _, rfl⟩, by omega, a0, af, tf'⟩
            simp [l1]) (parts (rng n)) () [some (.ref 0), some (.int kind), some (.int n), some (.ref g2.length), none, none] (g2 ++ [.lst ((singles n).map tI)])
        ⟨g2, _, b2, rfl, ⟨_, _, rfl⟩, by simp [singles]; omega, by
          intro e
          have := congrArg List.length e
          simp [singles] at this
          omega, fun f hf => by
          obtain ⟨i, hi, rfl⟩ := List.mem_map.mp hf
          have := List.mem_range.mp hi
          simp
          omega, fun f hf => by
          obtain ⟨p1, p2⟩ := mem_parts.mp hf
          have := p2.length_le
          rw [rng_len] at this
          refine ⟨p1, by omega, (rng_lt n).sublist p2, fun x hx => ?_⟩
          obtain ⟨i, hi, rfl⟩ := List.mem_map.mp (p2.subset hx)
          have := List.mem_range.mp hi
          omega⟩
      have hl : h'.length = g2.length := by rw [bx_len b', gl]
      have as : asSeq (h' ++ [.lst (acc.map tI)]) (.ref g2.length) = some (acc.map tI) := by
        simp [asSeq, asList, ← hl]
      have al' : acc.length ≤ 40 := by simpa using al
      obtain ⟨rows, r1, r2, rl0, r3⟩ := law_greatest_ev (h := h' ++ [.lst (acc.map tI)]) (v := .ref g2.length) as (by omega) (fun k hk => (af k hk).1) (fun k hk => by have := (af k hk).2.1; simp [LIM]; omega)
      have rn : rows ≠ [] := by
        obtain ⟨a, ha⟩ := List.exists_mem_of_ne_nil acc a0
        exact List.ne_nil_of_mem ((r2 a).mpr ha)
      have rl : rows.length ≤ 40 := by omega
      refine ⟨rows.filter (top1 rows), h', ⟨top_ne (fun f hf => (af f ((r2 f).mp hf)).2.2.1) rn, Nat.le_trans (List.length_filter_le _ _) rl, fun f hf => ?_, r1.filter _, fun f hf => (af f ((r2 f).mp (List.mem_filter.mp hf).1)).2.2.1, fun f hf x hx => ((af f ((r2 f).mp (List.mem_filter.mp hf).1)).2.2.2 x hx).1, few_five (List.Pairwise.imp (S := (· ≠ ·)) (fun {a b} h e => by subst e; exact flt_irrefl _ h) (r1.filter _)) (fun f hf => (af f ((r2 f).mp (List.mem_filter.mp hf).1)).2.2.1) fun f hf => (af f ((r2 f).mp (List.mem_filter.mp hf).1)).2.2.2⟩, b', ?_⟩
      · have := af f ((r2 f).mp (List.mem_filter.mp hf).1)
        exact ⟨this.1, this.2.1⟩
      · have P : s__law_parts_of [.tup ((List.range n).map fun (i : Nat) => PV.int i)] (g2 ++ [.lst ((singles n).map tI)]) = .ok (.lst ((parts (rng n)).map tI)) (g2 ++ [.lst ((singles n).map tI)]) := by
          rw [rng_map]
          exact law_parts_ev (by rw [rng_len]; omega)
        have lim : n ≤ LIM := by simp [LIM]; omega
        simp -implicitDefEqProofs [s__law_shape, runFn, if__law_shape, e1, eq_int, z0, z1, e2]
        rw [hn]
        simp -implicitDefEqProofs [rngV_nat (show n ≤ 16777216 by omega)]
        rw [c1]
        simp -implicitDefEqProofs [convI, lim, rngV_nat (show n ≤ 16777216 by omega)]
        rw [P]
        simp -implicitDefEqProofs
        rw [q]
        simp -implicitDefEqProofs
        rw [r3]
        simp -implicitDefEqProofs
        exact finish_bx b b' (fun n => below_tup_tI n _)
end K13
namespace K13
open PySem HW
/-! sides of increasing faces, and what two faces have in common *)-/
theorem nodup_lt {l : List Fc} (h : l.Pairwise (· < ·)) : l.Nodup := List.Pairwise.imp (S := (· ≠ ·)) (fun {a b} h e => by subst e; exact flt_irrefl _ h) h
theorem inc_nodup {f : Fc} (h : f.Pairwise (· < ·)) : f.Nodup := h.imp fun h e => by omega
theorem erase_ne {f : Fc} (h : f.Nodup) {i j : Nat} (hi : i < f.length) (hij : i ≠ j) : f.eraseIdx i ≠ f.eraseIdx j := fun e => by
  have h1 : f[i] ∈ f.eraseIdx j := List.mem_eraseIdx_iff_getElem.mpr ⟨i, hi, hij, rfl⟩
  rw [← e] at h1
  obtain ⟨k, hk, hne, q⟩ := List.mem_eraseIdx_iff_getElem.mp h1
  exact hne ((List.getElem_inj h).mp q)
theorem nod_sdA {f : Fc} (h : f.Nodup) : nod (sdA f) := by
  unfold nod sdA
  rw [List.map_map, List.Nodup, List.pairwise_map]
  refine List.pairwise_lt_range.imp_of_mem fun {i j} hi hj hij e => ?_
  simp only [Function.comp, ← List.eraseIdx_eq_take_drop_succ] at e
  exact erase_ne h (List.mem_range.mp hi) (by omega) e
theorem nod_sd {f : Fc} (h : f.Pairwise (· < ·)) : nod (sd f) := by
  unfold sd
  split
  · exact nod_nil
  · exact nod_sdA (inc_nodup h)
theorem sub_erase {x f : Fc} (s : x.Sublist f) : x.length + 1 = f.length → ∃ k, k < f.length ∧ x = f.eraseIdx k := by
  induction s with
  | slnil => intro h; simp at h
  | cons a s _ => intro h; exact ⟨0, by simp, by simpa using s.eq_of_length (by simpa using h)⟩
  | cons_cons a s ih =>
    intro h
    obtain ⟨k, hk, e⟩ := ih (by simpa using h)
    exact ⟨k + 1, by simpa using hk, by rw [List.eraseIdx_cons_succ, e]⟩
/-- the sign of a side *)-/
def sg (f x : Fc) : Int := get (sd f) x
theorem sg_mem {f x : Fc} (hi : f.Pairwise (· < ·)) (h2 : 2 ≤ f.length) (hs : x.Sublist f) (hl : x.length + 1 = f.length) : (x, sg f x) ∈ sd f := by
  obtain ⟨k, hk, rfl⟩ := sub_erase hs hl
  have h1 : (f.eraseIdx k, 1 - 2 * ((k : Int) % 2)) ∈ sd f := by
    unfold sd
    rw [if_neg (by omega)]
    exact List.mem_map.mpr ⟨k, List.mem_range.mpr hk, by rw [List.eraseIdx_eq_take_drop_succ]⟩
  have h2 := get_mem (nod_sd hi) h1
  unfold sg
  dsimp only at h2
  rw [h2]
  exact h1
theorem sd_sg {f : Fc} (hi : f.Pairwise (· < ·)) {p : Fc × Int} (h : p ∈ sd f) : p.2 = sg f p.1 := (get_mem (nod_sd hi) h).symm
def cm (f g : Fc) : Fc := f.filter fun k => decide (k ∈ g)
theorem mem_cm {f g : Fc} {k : Int} : k ∈ cm f g ↔ k ∈ f ∧ k ∈ g := by simp [cm]
theorem cm_inc {f : Fc} (g : Fc) (h : f.Pairwise (· < ·)) : (cm f g).Pairwise (· < ·) := h.filter _
theorem cm_comm {f g : Fc} (hf : f.Pairwise (· < ·)) (hg : g.Pairwise (· < ·)) : cm f g = cm g f := uniqI (cm_inc g hf) (cm_inc f hg) fun k => by rw [mem_cm, mem_cm]; exact And.comm
theorem cm_sub (f g : Fc) : (cm f g).Sublist f := List.filter_sublist
theorem cm_subr {f g : Fc} (hf : f.Pairwise (· < ·)) (hg : g.Pairwise (· < ·)) : (cm f g).Sublist g := inc_sub (cm_inc g hf) hg fun k hk => (mem_cm.mp hk).2
def turns (f g : Fc) : Option Bool := if f = g ∨ (cm f g).length + 1 ≠ f.length then none else some (decide (sg f (cm f g) = sg g (cm f g)))
theorem cm_side {f g x : Fc} (hf : f.Pairwise (· < ·)) (hg : g.Pairwise (· < ·)) (hl : f.length = g.length) (hne : f ≠ g) (hx : x.length + 1 = f.length) (h1 : x.Sublist f) (h2 : x.Sublist g) : cm f g = x := by
  have hs : x.Sublist (cm f g) := inc_sub (hf.sublist h1) (cm_inc g hf) fun k hk => mem_cm.mpr ⟨h1.subset hk, h2.subset hk⟩
  have l1 := hs.length_le
  have l2 := (cm_sub f g).length_le
  by_cases q : (cm f g).length = f.length
  · have e1 := (cm_sub f g).eq_of_length q
    have e2 := (cm_subr hf hg).eq_of_length (by omega)
    exact absurd (e1.symm.trans e2) hne
  · exact (hs.eq_of_length (by omega)).symm
theorem turns_iff {f g : Fc} (hf : f.Pairwise (· < ·)) (hg : g.Pairwise (· < ·)) (hl : f.length = g.length) {t : Bool} :
    turns f g = some t ↔ f ≠ g ∧ ∃ x, x.length + 1 = f.length ∧ x.Sublist f ∧ x.Sublist g ∧ t = decide (sg f x = sg g x) := by
  unfold turns
  constructor
  · intro h
    split at h
    · cases h
    · rename_i q
      cases h
      rw [not_or, Decidable.not_not] at q
      exact ⟨q.1, cm f g, q.2, cm_sub f g, cm_subr hf hg, rfl⟩
  · rintro ⟨hne, x, hx, h1, h2, rfl⟩
    have e := cm_side hf hg hl hne hx h1 h2
    rw [e, if_neg (by rw [not_or, Decidable.not_not]; exact ⟨hne, hx⟩)]
theorem turns_symm {f g : Fc} (hf : f.Pairwise (· < ·)) (hg : g.Pairwise (· < ·)) (hl : f.length = g.length) : turns f g = turns g f := by
  have one : ∀ {f g : Fc}, f.Pairwise (· < ·) → g.Pairwise (· < ·) → f.length = g.length → ∀ t, turns f g = some t → turns g f = some t := by
    intro f g hf hg hl t h
    obtain ⟨hne, x, hx, h1, h2, rfl⟩ := (turns_iff hf hg hl).mp h
    exact (turns_iff hg hf hl.symm).mpr ⟨hne.symm, x, by omega, h2, h1, decide_eq_decide.mpr eq_comm⟩
  cases h : turns f g with
  | some t => rw [one hf hg hl t h]
  | none =>
    cases h' : turns g f with
    | none => rfl
    | some t => rw [one hg hf hl.symm t h'] at h; cases h
/-- a complex of faces of one size *)-/
structure Pur (s : List Fc) (n : Nat) : Prop where
  sh : Shp s
  n2 : 2 ≤ n
  len : ∀ f ∈ s, f.length = n
theorem Pur.few {s : List Fc} {n : Nat} (h : Pur s n) : s.length ≤ 10 := by
  have h1 := h.sh.few n
  rwa [List.filter_eq_self.mpr fun f hf => decide_eq_true (h.len f hf)] at h1
theorem Pur.nd {s : List Fc} {n : Nat} (h : Pur s n) : s.Nodup := nodup_lt h.sh.srt
theorem wit_sub {x f : Fc} (hx : x.Pairwise (· < ·)) (hf : f.Pairwise (· < ·)) : wit x f = true ↔ x.Sublist f := by
  unfold wit
  rw [List.all_eq_true]
  exact ⟨fun h => inc_sub hx hf fun k hk => of_decide_eq_true (h k hk), fun h k hk => decide_eq_true (h.subset hk)⟩
/-- the sides that are gone through *)-/
def Lv (s : List Fc) (n : Nat) : List Fc := lvl s (((n : Int) - 1) - 1)
theorem mem_Lv {s : List Fc} {n : Nat} (hn : 2 ≤ n) {x : Fc} : x ∈ Lv s n ↔ (∃ f ∈ s, x.Sublist f) ∧ x.length + 1 = n := by
  unfold Lv lvl
  rw [List.mem_filter, mem_sortF, mem_allF, decide_eq_true_eq]
  constructor
  · rintro ⟨⟨f, h1, h2, h3⟩, h4⟩
    exact ⟨⟨f, h1, h3⟩, by omega⟩
  · rintro ⟨⟨f, h1, h3⟩, h4⟩
    exact ⟨⟨f, h1, fun e => by rw [e] at h4; simp at h4; omega, h3⟩, by omega⟩
theorem Lv_lt (s : List Fc) (n : Nat) : (Lv s n).Pairwise (· < ·) := (sortF_lt (nodup_allF s)).filter _
theorem Lv_nd (s : List Fc) (n : Nat) : (Lv s n).Nodup := nodup_lt (Lv_lt s n)
def ar (s : List Fc) (x : Fc) : List Fc := s.filter (wit x)
def rows (s : List Fc) (x : Fc) : Tb := (ar s x).map fun f => (f, sg f x)
theorem Pur.inc {s : List Fc} {n : Nat} (h : Pur s n) {x : Fc} (hx : x ∈ Lv s n) : x.Pairwise (· < ·) := by
  obtain ⟨⟨f, h1, h2⟩, _⟩ := (mem_Lv h.n2).mp hx
  exact (h.sh.inc f h1).sublist h2
theorem Pur.mem_ar {s : List Fc} {n : Nat} (h : Pur s n) {x f : Fc} (hx : x ∈ Lv s n) : f ∈ ar s x ↔ f ∈ s ∧ x.Sublist f := by
  unfold ar
  rw [List.mem_filter]
  exact ⟨fun ⟨a, b⟩ => ⟨a, (wit_sub (h.inc hx) (h.sh.inc f a)).mp b⟩, fun ⟨a, b⟩ => ⟨a, (wit_sub (h.inc hx) (h.sh.inc f a)).mpr b⟩⟩
/-- the steps that a side gives to a face *)-/
def pairO (R : Tb) (f : Fc) : List (Fc × Bool) := match R with
  | [p, q] => (if p.1 = f then [(q.1, decide (p.2 = q.2))] else []) ++ (if q.1 = f then [(p.1, decide (p.2 = q.2))] else [])
  | _ => []
def raw (s : List Fc) (n : Nat) (f : Fc) : List (Fc × Bool) := (Lv s n).flatMap fun x => pairO (rows s x) f
def nb (s : List Fc) (f : Fc) : List (Fc × Bool) := s.filterMap fun g => (turns f g).map fun t => (g, t)
theorem mem_nb {s : List Fc} {f : Fc} {p : Fc × Bool} : p ∈ nb s f ↔ p.1 ∈ s ∧ turns f p.1 = some p.2 := by
  unfold nb
  rw [List.mem_filterMap]
  constructor
  · rintro ⟨g, h1, h2⟩
    obtain ⟨t, h3, rfl⟩ := Option.map_eq_some_iff.mp h2
    exact ⟨h1, h3⟩
  · rintro ⟨h1, h2⟩
    exact ⟨p.1, h1, by rw [h2]; rfl⟩
/-- each side lies in two faces *)-/
def Two (s : List Fc) (n : Nat) : Prop := ∀ x ∈ Lv s n, (ar s x).length = 2
theorem Two.rws {s : List Fc} {n : Nat} (h : Two s n) {x : Fc} (hx : x ∈ Lv s n) : ∃ a b, ar s x = [a, b] ∧ rows s x = [(a, sg a x), (b, sg b x)] := by
  have h1 := h x hx
  match e : ar s x, h1 with
  | [a, b], _ => exact ⟨a, b, rfl, by rw [rows, e]; rfl⟩
theorem mem_pairO {s : List Fc} {n : Nat} (P : Pur s n) (T : Two s n) {x f : Fc} (hx : x ∈ Lv s n) {p : Fc × Bool} : p ∈ pairO (rows s x) f ↔ f ∈ s ∧ p.1 ∈ s ∧ p.1 ≠ f ∧ x.Sublist f ∧ x.Sublist p.1 ∧ p.2 = decide (sg f x = sg p.1 x) := by
  obtain ⟨a, b, e1, e2⟩ := T.rws hx
  have hab : a ≠ b := by
    have := P.nd.filter (wit x)
    rw [show s.filter (wit x) = [a, b] from e1] at this
    simpa using this
  have ha := (P.mem_ar hx (f := a)).mp (by rw [e1]; simp)
  have hb := (P.mem_ar hx (f := b)).mp (by rw [e1]; simp)
  rw [e2]
  simp only [pairO, List.mem_append]
  constructor
  · rintro (h | h)
    · split at h
      · rename_i q
        subst q
        rw [List.mem_singleton] at h
        subst h
        exact ⟨ha.1, hb.1, fun e => hab e.symm, ha.2, hb.2, rfl⟩
      · simp at h
    · split at h
      · rename_i q
        subst q
        rw [List.mem_singleton] at h
        subst h
        exact ⟨hb.1, ha.1, hab, hb.2, ha.2, decide_eq_decide.mpr eq_comm⟩
      · simp at h
  · rintro ⟨h1, h2, h3, h4, h5, h6⟩
    have m1 := (P.mem_ar hx (f := f)).mpr ⟨h1, h4⟩
    have m2 := (P.mem_ar hx (f := p.1)).mpr ⟨h2, h5⟩
    rw [e1] at m1 m2
    obtain ⟨p1, p2⟩ := p
    dsimp only at *
    simp only [List.mem_cons, List.not_mem_nil, or_false] at m1 m2
    rcases m1 with rfl | rfl
    · rcases m2 with rfl | rfl
      · exact absurd rfl h3
      · left
        rw [if_pos rfl, h6]
        exact List.mem_singleton.mpr rfl
    · rcases m2 with rfl | rfl
      · right
        rw [if_pos rfl, h6]
        refine List.mem_singleton.mpr ?_
        exact congrArg _ (decide_eq_decide.mpr eq_comm)
      · exact absurd rfl h3
theorem mem_raw {s : List Fc} {n : Nat} (P : Pur s n) (T : Two s n) {f : Fc} (hf : f ∈ s) {p : Fc × Bool} : p ∈ raw s n f ↔ p ∈ nb s f := by
  unfold raw
  rw [List.mem_flatMap, mem_nb]
  constructor
  · rintro ⟨x, hx, h⟩
    obtain ⟨_, h2, h3, h4, h5, h6⟩ := (mem_pairO P T hx).mp h
    refine ⟨h2, (turns_iff (P.sh.inc f hf) (P.sh.inc _ h2) (by rw [P.len f hf, P.len _ h2])).mpr ⟨fun e => h3 e.symm, x, ?_, h4, h5, h6⟩⟩
    rw [P.len f hf]
    exact ((mem_Lv P.n2).mp hx).2
  · rintro ⟨h1, h2⟩
    obtain ⟨hne, x, hx, h3, h4, h5⟩ := (turns_iff (P.sh.inc f hf) (P.sh.inc _ h1) (by rw [P.len f hf, P.len _ h1])).mp h2
    have hxL : x ∈ Lv s n := (mem_Lv P.n2).mpr ⟨⟨f, hf, h3⟩, by rw [← P.len f hf]; exact hx⟩
    exact ⟨x, hxL, (mem_pairO P T hxL).mpr ⟨hf, h1, fun e => hne e.symm, h3, h4, h5⟩⟩
theorem nodup_raw {s : List Fc} {n : Nat} (P : Pur s n) (T : Two s n) {f : Fc} (hf : f ∈ s) : (raw s n f).Nodup := by
  unfold raw List.Nodup
  rw [List.pairwise_flatMap]
  refine ⟨fun x hx => ?_, (Lv_nd s n).imp_of_mem fun {x y} hx hy hne p hp q hq e => ?_⟩
  · obtain ⟨a, b, e1, e2⟩ := T.rws hx
    have hab : a ≠ b := by
      have := P.nd.filter (wit x)
      rw [show s.filter (wit x) = [a, b] from e1] at this
      simpa using this
    rw [e2]
    simp only [pairO]
    by_cases q1 : a = f
    · rw [if_pos q1, if_neg (by rw [← q1]; exact fun e => hab e.symm)]
      simp
    · rw [if_neg q1]
      by_cases q2 : b = f
      · rw [if_pos q2]; simp
      · rw [if_neg q2]; simp
  · subst e
    obtain ⟨_, h2, h3, h4, h5, _⟩ := (mem_pairO P T hx).mp hp
    obtain ⟨_, _, _, k4, k5, _⟩ := (mem_pairO P T hy).mp hq
    have i1 := P.sh.inc f hf
    have i2 := P.sh.inc _ h2
    have l : f.length = p.1.length := by rw [P.len f hf, P.len _ h2]
    have lx := ((mem_Lv P.n2).mp hx).2
    have ly := ((mem_Lv P.n2).mp hy).2
    exact hne ((cm_side i1 i2 l (fun e => h3 e.symm) (by rw [P.len f hf]; exact lx) h4 h5).symm.trans (cm_side i1 i2 l (fun e => h3 e.symm) (by rw [P.len f hf]; exact ly) k4 k5))
theorem nb_lt {s : List Fc} (h : s.Pairwise (· < ·)) (f : Fc) : (nb s f).Pairwise (fun p q => p.1 < q.1) := by
  unfold nb
  rw [List.pairwise_filterMap]
  refine h.imp fun {a b} hab p hp q hq => ?_
  obtain ⟨_, _, rfl⟩ := Option.map_eq_some_iff.mp hp
  obtain ⟨_, _, rfl⟩ := Option.map_eq_some_iff.mp hq
  exact hab
theorem raw_perm {s : List Fc} {n : Nat} (P : Pur s n) (T : Two s n) {f : Fc} (hf : f ∈ s) : (raw s n f).Perm (nb s f) :=
  (List.perm_ext_iff_of_nodup (nodup_raw P T hf) (List.Pairwise.imp (S := (· ≠ ·)) (fun {a b} h e => by subst e; exact flt_irrefl _ h) (nb_lt P.sh.srt f))).mpr fun p => mem_raw P T hf
end K13
namespace K13
open PySem HW
/-! going through the faces one by one, with signs and ways *)-/
abbrev Node := Fc × Int × List Fc
def kys (S : List Node) : List Fc := S.map (·.1)
def fnd (S : List Node) (x : Fc) : Option Node := S.find? fun n => decide (n.1 = x)
theorem fnd_some {S : List Node} {x : Fc} {n : Node} (h : fnd S x = some n) : n ∈ S ∧ n.1 = x := ⟨List.mem_of_find?_eq_some h, by simpa using List.find?_some h⟩
theorem fnd_none {S : List Node} {x : Fc} : fnd S x = none ↔ x ∉ kys S := by
  unfold fnd kys
  rw [List.find?_eq_none, List.mem_map]
  constructor
  · rintro h ⟨n, h1, h2⟩
    exact h n h1 (decide_eq_true h2)
  · intro h n h1 h2
    exact h ⟨n, h1, of_decide_eq_true h2⟩
/-- the sign behind a step *)-/
def sgt (σ : Int) (t : Bool) : Int := if t then -σ else σ
def vis (σ : Int) (w : List Fc) : List (Fc × Bool) → List Node → Except (List Fc) (List Node)
  | [], S => .ok S
  | p :: r, S => match fnd S p.1 with
    | none => vis σ w r (S ++ [(p.1, sgt σ p.2, w ++ [p.1])])
    | some n => if n.2.1 = sgt σ p.2 then vis σ w r S else .error (w ++ n.2.2.reverse)
section
variable (nbs : Fc → List (Fc × Bool))
def bfs : Nat → List Node → Nat → Except (List Fc) (List Node)
  | 0, S, _ => .ok S
  | m + 1, S, q => match S[q]? with
    | none => .ok S
    | some n => match vis n.2.1 n.2.2 (nbs n.1) S with
      | .ok S' => bfs m S' (q + 1)
      | .error r => .error r
def outer (m : Nat) : List Fc → List Node → Except (List Fc) (List Node)
  | [], S => .ok S
  | f :: fs, S => if (fnd S f).isSome then outer m fs S else match bfs nbs m (S ++ [(f, 1, [f])]) S.length with
    | .ok S' => outer m fs S'
    | .error r => .error r
end
/-! ways *)-/
def stp : List Fc → List (Option Bool)
  | a :: b :: r => turns a b :: stp (b :: r)
  | _ => []
theorem stp_app : ∀ {a b : List Fc} {x y : Fc}, a.getLast? = some x → b.head? = some y → stp (a ++ b) = stp a ++ turns x y :: stp b
  | [], _, _, _, h, _ => by simp at h
  | [a], [], _, _, _, h => by simp at h
  | [a], b :: bs, x, y, h, h' => by
    simp at h h'
    subst h h'
    rfl
  | a :: a' :: as, b, x, y, h, h' => by
    have := stp_app (a := a' :: as) (b := b) (x := x) (y := y) (by simpa [List.getLast?_cons_cons] using h) h'
    simp only [List.cons_append] at this ⊢
    rw [stp, this]
    rfl
structure Wy (nbs : Fc → List (Fc × Bool)) (r : Fc) (n : Node) : Prop where
  hd : n.2.2.head? = some r
  lt : n.2.2.getLast? = some n.1
  st : none ∉ stp n.2.2
  sg : n.2.1 = if (stp n.2.2).count (some true) % 2 = 0 then 1 else -1
theorem Wy.pm {nbs : Fc → List (Fc × Bool)} {r : Fc} {n : Node} (h : Wy nbs r n) : n.2.1 = 1 ∨ n.2.1 = -1 := by
  rw [h.sg]
  split <;> simp
/-- what is asked of the faces next to each other *)-/
structure Nbs (s : List Fc) (nbs : Fc → List (Fc × Bool)) : Prop where
  mem : ∀ f ∈ s, ∀ p ∈ nbs f, p.1 ∈ s ∧ turns f p.1 = some p.2
  sym : ∀ f ∈ s, ∀ p ∈ nbs f, (f, p.2) ∈ nbs p.1
  ts : ∀ f ∈ s, ∀ g ∈ s, turns f g = turns g f
structure BI (s : List Fc) (nbs : Fc → List (Fc × Bool)) (S : List Node) (p q : Nat) : Prop where
  nd : (kys S).Nodup
  mem : ∀ n ∈ S, n.1 ∈ s ∧ ∀ x ∈ n.2.2, x ∈ s
  len : ∀ n ∈ S, n.2.2.length ≤ S.length
  way : ∀ n ∈ S, ∃ r, Wy nbs r n
  root : ∃ r, ∀ i n, p ≤ i → S[i]? = some n → Wy nbs r n
  done : ∀ i n, i < q → S[i]? = some n → ∀ o ∈ nbs n.1, ∃ n' ∈ S, n'.1 = o.1 ∧ n'.2.1 = sgt n.2.1 o.2
  old : ∀ i n, i < p → S[i]? = some n → ∀ o ∈ nbs n.1, ∃ j n', j < p ∧ S[j]? = some n' ∧ n'.1 = o.1
/-- a row that comes back turned *)-/
structure GoodRow (s : List Fc) (r : List Fc) : Prop where
  two : 2 ≤ r.length
  mem : ∀ x ∈ r, x ∈ s
  ends : r.head? = r.getLast?
  st : none ∉ stp r
  odd : (stp r).count (some true) % 2 = 1
theorem key_ix {S : List Node} (h : (kys S).Nodup) {i j : Nat} {n m : Node} (hi : S[i]? = some n) (hj : S[j]? = some m) (e : n.1 = m.1) : i = j := by
  have h1 : (kys S)[i]? = some n.1 := by unfold kys; rw [List.getElem?_map, hi]; rfl
  have h2 : (kys S)[j]? = some m.1 := by unfold kys; rw [List.getElem?_map, hj]; rfl
  rw [← e] at h2
  exact (List.getElem?_inj (List.getElem?_eq_some_iff.mp h1).1 h).mp (h1.trans h2.symm)
theorem stp_rev {s : List Fc} (ts : ∀ f ∈ s, ∀ g ∈ s, turns f g = turns g f) : ∀ {w : List Fc}, (∀ x ∈ w, x ∈ s) → stp w.reverse = (stp w).reverse
  | [], _ => rfl
  | [a], _ => rfl
  | a :: b :: r, h => by
    have ih := stp_rev ts (w := b :: r) fun x hx => h x (List.mem_cons_of_mem _ hx)
    rw [List.reverse_cons, stp_app (x := b) (y := a) (by simp) (by simp), ih, stp, List.reverse_cons, ts b (h b (by simp)) a (h a (by simp))]
    rfl
theorem sgt_pm {σ : Int} (h : σ = 1 ∨ σ = -1) (t : Bool) : sgt σ t = 1 ∨ sgt σ t = -1 := by
  unfold sgt
  split <;> omega
section
variable {s : List Fc} {nbs : Fc → List (Fc × Bool)}
theorem Wy.snoc {r : Fc} {n : Node} (h : Wy nbs r n) {o : Fc} {t : Bool} (ht : turns n.1 o = some t) : Wy nbs r (o, sgt n.2.1 t, n.2.2 ++ [o]) := by
  have e : stp (n.2.2 ++ [o]) = stp n.2.2 ++ [some t] := by rw [stp_app h.lt (show [o].head? = some o from rfl), ht]; rfl
  have ne : n.2.2 ≠ [] := fun e => by have := h.hd; rw [e] at this; simp at this
  refine ⟨?_, by simp, ?_, ?_⟩
  · show (n.2.2 ++ [o]).head? = some r
    rw [List.head?_append, h.hd]
    rfl
  · show none ∉ stp (n.2.2 ++ [o])
    rw [e]
    simpa using h.st
  · show sgt n.2.1 t = if (stp (n.2.2 ++ [o])).count (some true) % 2 = 0 then 1 else -1
    rw [e, List.count_append, h.sg]
    cases t
    · simp [sgt]
    · have : ([some true] : List (Option Bool)).count (some true) = 1 := by simp
      rw [this]
      unfold sgt
      by_cases q : (stp n.2.2).count (some true) % 2 = 0
      · rw [if_pos q, if_neg (show ¬ (((stp n.2.2).count (some true) + 1) % 2 = 0) by omega)]; rfl
      · rw [if_neg q, if_pos (show ((stp n.2.2).count (some true) + 1) % 2 = 0 by omega)]; rfl
theorem Wy.meet {r : Fc} {n m : Node} (N : Nbs s nbs) (h : Wy nbs r n) (k : Wy nbs r m) (hn : ∀ x ∈ n.2.2, x ∈ s) (hm : ∀ x ∈ m.2.2, x ∈ s) {t : Bool} (ht : turns n.1 m.1 = some t) (ne : m.2.1 ≠ sgt n.2.1 t) : GoodRow s (n.2.2 ++ m.2.2.reverse) := by
  have e : stp (n.2.2 ++ m.2.2.reverse) = stp n.2.2 ++ some t :: (stp m.2.2).reverse := by
    rw [stp_app h.lt (y := m.1) (by rw [List.head?_reverse]; exact k.lt), ht, stp_rev N.ts hm]
  have n1 : n.2.2 ≠ [] := fun e => by have := h.hd; rw [e] at this; simp at this
  have n2 : m.2.2 ≠ [] := fun e => by have := k.hd; rw [e] at this; simp at this
  refine ⟨?_, ?_, ?_, ?_, ?_⟩
  · have h1 := List.length_pos_iff.mpr n1
    have h2 := List.length_pos_iff.mpr n2
    simp
    omega
  · intro x hx
    rcases List.mem_append.mp hx with q | q
    · exact hn x q
    · exact hm x (List.mem_reverse.mp q)
  · rw [List.head?_append, h.hd, List.getLast?_append, List.getLast?_reverse, k.hd]
    rfl
  · rw [e]
    simp only [List.mem_append, List.mem_cons, List.mem_reverse, not_or]
    exact ⟨h.st, by simp, k.st⟩
  · rw [e, List.count_append, List.count_cons, List.count_reverse]
    have h1 := h.sg
    have h2 := k.sg
    rw [h1, h2] at ne
    unfold sgt at ne
    cases t
    · simp only [Bool.false_eq_true, if_false] at ne
      simp
      split at ne <;> split at ne <;> simp at ne <;> omega
    · simp only [if_true] at ne
      simp
      split at ne <;> split at ne <;> simp at ne <;> omega
theorem vis_ok (N : Nbs s nbs) {p q : Nat} (hpq : p ≤ q) {n : Node} : ∀ (L : List (Fc × Bool)) (S : List Node), BI s nbs S p q → S[q]? = some n → (∀ o ∈ L, o ∈ nbs n.1) → (∀ o ∈ nbs n.1, o ∈ L ∨ ∃ n' ∈ S, n'.1 = o.1 ∧ n'.2.1 = sgt n.2.1 o.2) →
    match vis n.2.1 n.2.2 L S with
    | .ok S' => BI s nbs S' p (q + 1) ∧ (∃ E, S' = S ++ E)
    | .error r => GoodRow s r ∧ r.length ≤ 2 * s.length
  | [], S, B, hq, _, hd => by
    simp only [vis]
    refine ⟨⟨B.nd, B.mem, B.len, B.way, B.root, fun i m hi hm o ho => ?_, B.old⟩, [], by simp⟩
    by_cases e : i < q
    · exact B.done i m e hm o ho
    · have : i = q := by omega
      subst this
      rw [hq] at hm
      cases hm
      rcases hd o ho with h | h
      · simp at h
      · exact h
  | o :: L, S, B, hq, hL, hd => by
    have hn := List.mem_of_getElem? hq
    have hns := (B.mem n hn).1
    have ho := hL o List.mem_cons_self
    have hos := N.mem n.1 hns o ho
    obtain ⟨r0, R0⟩ := B.root
    have wn := R0 q n hpq hq
    have few : S.length ≤ s.length := by
      have := nodup_lenF B.nd fun x hx => by
        obtain ⟨m, hm, rfl⟩ := List.mem_map.mp hx
        exact (B.mem m hm).1
      simpa [kys] using this
    rw [vis]
    cases hf : fnd S o.1 with
    | none =>
      dsimp only
      have hnk := fnd_none.mp hf
      have wo := wn.snoc hos.2
      have hql : q < S.length := (List.getElem?_eq_some_iff.mp hq).1
      have B' : BI s nbs (S ++ [(o.1, sgt n.2.1 o.2, n.2.2 ++ [o.1])]) p q := by
        refine ⟨?_, ?_, ?_, ?_, ⟨r0, ?_⟩, ?_, ?_⟩
        · unfold kys
          rw [List.map_append, List.nodup_append]
          refine ⟨B.nd, by simp, fun a ha b hb e => ?_⟩
          simp at hb
          subst hb e
          exact hnk ha
        · intro m hm
          rcases List.mem_append.mp hm with h | h
          · exact B.mem m h
          · rw [List.mem_singleton.mp h]
            refine ⟨hos.1, fun x hx => ?_⟩
            rcases List.mem_append.mp hx with h | h
            · exact (B.mem n hn).2 x h
            · rw [List.mem_singleton.mp h]; exact hos.1
        · intro m hm
          rcases List.mem_append.mp hm with h | h
          · have := B.len m h
            simp
            omega
          · rw [List.mem_singleton.mp h]
            have := B.len n hn
            simp
            omega
        · intro m hm
          rcases List.mem_append.mp hm with h | h
          · exact B.way m h
          · rw [List.mem_singleton.mp h]; exact ⟨r0, wo⟩
        · intro i m hi hm
          rw [List.getElem?_append] at hm
          split at hm
          · exact R0 i m hi hm
          · have := List.mem_of_getElem? hm
            rw [List.mem_singleton.mp this]
            exact wo
        · intro i m hi hm o' ho'
          rw [List.getElem?_append_left (by omega)] at hm
          obtain ⟨m', h1, h2⟩ := B.done i m hi hm o' ho'
          exact ⟨m', List.mem_append_left _ h1, h2⟩
        · intro i m hi hm o' ho'
          rw [List.getElem?_append_left (by omega)] at hm
          obtain ⟨j, m', h1, h2, h3⟩ := B.old i m hi hm o' ho'
          exact ⟨j, m', h1, by rw [List.getElem?_append_left (by omega)]; exact h2, h3⟩
      have := vis_ok N hpq L _ B' (by rw [List.getElem?_append_left hql]; exact hq) (fun o' h => hL o' (List.mem_cons_of_mem _ h)) fun o' h => by
        rcases hd o' h with h' | ⟨m, h1, h2⟩
        · rcases List.mem_cons.mp h' with rfl | h'
          · exact .inr ⟨_, List.mem_append_right _ (List.mem_singleton.mpr rfl), rfl, rfl⟩
          · exact .inl h'
        · exact .inr ⟨m, List.mem_append_left _ h1, h2⟩
      revert this
      cases vis n.2.1 n.2.2 L (S ++ [(o.1, sgt n.2.1 o.2, n.2.2 ++ [o.1])]) with
      | ok S' =>
        rintro ⟨h1, E, h2⟩
        exact ⟨h1, _, by rw [h2, List.append_assoc]⟩
      | error r => exact id
    | some m =>
      dsimp only
      obtain ⟨hm, em⟩ := fnd_some hf
      by_cases e : m.2.1 = sgt n.2.1 o.2
      · rw [if_pos e]
        exact vis_ok N hpq L S B hq (fun o' h => hL o' (List.mem_cons_of_mem _ h)) fun o' h => by
          rcases hd o' h with h' | h'
          · rcases List.mem_cons.mp h' with rfl | h'
            · exact .inr ⟨m, hm, em, e⟩
            · exact .inl h'
          · exact .inr h'
      · rw [if_neg e]
        obtain ⟨j, hj⟩ := List.mem_iff_getElem?.mp hm
        have hjp : p ≤ j := by
          by_cases c : j < p
          · obtain ⟨i, n', h1, h2, h3⟩ := B.old j m c hj (n.1, o.2) (by rw [em]; exact N.sym n.1 hns o ho)
            have := key_ix B.nd h2 hq h3
            omega
          · omega
        refine ⟨Wy.meet N wn (R0 j m hjp hj) (B.mem n hn).2 (B.mem m hm).2 (by rw [em]; exact hos.2) e, ?_⟩
        have h1 := B.len n hn
        have h2 := B.len m hm
        simp
        omega
theorem bfs_ok (N : Nbs s nbs) {p : Nat} : ∀ (m q : Nat) (S : List Node), p ≤ q → q ≤ S.length → BI s nbs S p q → s.length ≤ m + q →
    match bfs nbs m S q with
    | .ok S' => BI s nbs S' p S'.length ∧ (∃ E, S' = S ++ E)
    | .error r => GoodRow s r ∧ r.length ≤ 2 * s.length
  | 0, q, S, hpq, hq, B, hm => by
    rw [bfs]
    have few : S.length ≤ s.length := by
      have := nodup_lenF B.nd fun x hx => by
        obtain ⟨m, hm, rfl⟩ := List.mem_map.mp hx
        exact (B.mem m hm).1
      simpa [kys] using this
    have : q = S.length := by omega
    subst this
    exact ⟨B, [], by simp⟩
  | m + 1, q, S, hpq, hq, B, hm => by
    rw [bfs]
    cases h : S[q]? with
    | none =>
      have := List.getElem?_eq_none_iff.mp h
      have : q = S.length := by omega
      subst this
      exact ⟨B, [], by simp⟩
    | some n =>
      dsimp only
      have := vis_ok N hpq (nbs n.1) S B h (fun o ho => ho) fun o ho => .inl ho
      revert this
      cases vis n.2.1 n.2.2 (nbs n.1) S with
      | error r => exact id
      | ok S' =>
        rintro ⟨B', E, e⟩
        have hql := (List.getElem?_eq_some_iff.mp h).1
        have := bfs_ok N m (q + 1) S' (by omega) (by rw [e]; simp; omega) B' (by omega)
        revert this
        dsimp only
        cases bfs nbs m S' (q + 1) with
        | error r => exact id
        | ok S2 =>
          rintro ⟨B2, E2, e2⟩
          exact ⟨B2, _, by rw [e2, e, List.append_assoc]⟩
/-- all is gone through *)-/
structure Full (s : List Fc) (nbs : Fc → List (Fc × Bool)) (S : List Node) : Prop where
  nd : (kys S).Nodup
  mem : ∀ x, x ∈ kys S ↔ x ∈ s
  pm : ∀ n ∈ S, n.2.1 = 1 ∨ n.2.1 = -1
  fit : ∀ n ∈ S, ∀ o ∈ nbs n.1, ∃ n' ∈ S, n'.1 = o.1 ∧ n'.2.1 = sgt n.2.1 o.2
theorem outer_ok (N : Nbs s nbs) {m : Nat} (hm : s.length ≤ m) : ∀ (L : List Fc) (S : List Node), (∀ f ∈ L, f ∈ s) → (∀ f ∈ s, f ∈ L ∨ f ∈ kys S) → BI s nbs S S.length S.length →
    match outer nbs m L S with
    | .ok S' => Full s nbs S'
    | .error r => GoodRow s r ∧ r.length ≤ 2 * s.length
  | [], S, _, hs, B => by
    rw [outer]
    refine ⟨B.nd, fun x => ⟨fun hx => ?_, fun hx => (hs x hx).resolve_left (by simp)⟩, fun n hn => ?_, fun n hn o ho => ?_⟩
    · obtain ⟨n, hn, rfl⟩ := List.mem_map.mp hx
      exact (B.mem n hn).1
    · obtain ⟨r, h⟩ := B.way n hn
      exact h.pm
    · obtain ⟨i, hi⟩ := List.mem_iff_getElem?.mp hn
      exact B.done i n (List.getElem?_eq_some_iff.mp hi).1 hi o ho
  | f :: L, S, hL, hs, B => by
    rw [outer]
    by_cases h : (fnd S f).isSome = true
    · rw [if_pos h]
      refine outer_ok N hm L S (fun g hg => hL g (List.mem_cons_of_mem _ hg)) (fun g hg => ?_) B
      rcases hs g hg with q | q
      · rcases List.mem_cons.mp q with rfl | q
        · right
          obtain ⟨n, e⟩ := Option.isSome_iff_exists.mp h
          obtain ⟨h1, h2⟩ := fnd_some e
          exact List.mem_map.mpr ⟨n, h1, h2⟩
        · exact .inl q
      · exact .inr q
    · rw [if_neg h]
      have hfn : f ∉ kys S := fnd_none.mp (by simpa using h)
      have hfs := hL f List.mem_cons_self
      have wf : Wy nbs f (f, 1, [f]) := ⟨rfl, rfl, by simp [stp], by simp [stp]⟩
      have B1 : BI s nbs (S ++ [(f, 1, [f])]) S.length S.length := by
        refine ⟨?_, ?_, ?_, ?_, ⟨f, ?_⟩, ?_, ?_⟩
        · unfold kys
          rw [List.map_append, List.nodup_append]
          refine ⟨B.nd, by simp, fun a ha b hb e => ?_⟩
          simp at hb
          subst hb e
          exact hfn ha
        · intro m hm
          rcases List.mem_append.mp hm with h | h
          · exact B.mem m h
          · rw [List.mem_singleton.mp h]
            exact ⟨hfs, fun x hx => by rw [List.mem_singleton.mp hx]; exact hfs⟩
        · intro m hm
          rcases List.mem_append.mp hm with h | h
          · have := B.len m h
            simp
            omega
          · rw [List.mem_singleton.mp h]
            simp
        · intro m hm
          rcases List.mem_append.mp hm with h | h
          · exact B.way m h
          · rw [List.mem_singleton.mp h]; exact ⟨f, wf⟩
        · intro i m hi hm
          rw [List.getElem?_append_right hi] at hm
          rw [List.mem_singleton.mp (List.mem_of_getElem? hm)]
          exact wf
        · intro i m hi hm o' ho'
          rw [List.getElem?_append_left hi] at hm
          obtain ⟨m', h1, h2⟩ := B.done i m hi hm o' ho'
          exact ⟨m', List.mem_append_left _ h1, h2⟩
        · intro i m hi hm o' ho'
          rw [List.getElem?_append_left hi] at hm
          obtain ⟨m', h1, h2, _⟩ := B.done i m hi hm o' ho'
          obtain ⟨j, hj⟩ := List.mem_iff_getElem?.mp h1
          have hjl := (List.getElem?_eq_some_iff.mp hj).1
          exact ⟨j, m', hjl, by rw [List.getElem?_append_left hjl]; exact hj, h2⟩
      have := bfs_ok N m S.length (S ++ [(f, 1, [f])]) (Nat.le_refl _) (by simp) B1 (by omega)
      revert this
      cases bfs nbs m (S ++ [(f, 1, [f])]) S.length with
      | error r => exact id
      | ok S' =>
        rintro ⟨B2, E, e⟩
        dsimp only
        refine outer_ok N hm L S' (fun g hg => hL g (List.mem_cons_of_mem _ hg)) (fun g hg => ?_) ?_
        · rcases hs g hg with q | q
          · rcases List.mem_cons.mp q with rfl | q
            · right
              rw [e]
              simp [kys]
            · exact .inl q
          · right
            rw [e]
            simp only [kys, List.map_append, List.mem_append]
            exact .inl (.inl q)
        · refine ⟨B2.nd, B2.mem, B2.len, B2.way, ⟨f, fun i n hi hn => ?_⟩, B2.done, fun i n hi hn o ho => ?_⟩
          · rw [List.getElem?_eq_none hi] at hn; cases hn
          · obtain ⟨m', h1, h2, _⟩ := B2.done i n hi hn o ho
            obtain ⟨j, hj⟩ := List.mem_iff_getElem?.mp h1
            exact ⟨j, m', (List.getElem?_eq_some_iff.mp hj).1, hj, h2⟩
theorem BI.nil (f : Fc) : BI s nbs [] 0 0 := ⟨List.nodup_nil, by simp, by simp, by simp, ⟨f, by simp⟩, by simp, by simp⟩
end
theorem nb_Nbs {s : List Fc} {n : Nat} (P : Pur s n) : Nbs s (nb s) where
  mem := fun f _ p hp => mem_nb.mp hp
  sym := fun f hf p hp => by
    obtain ⟨h1, h2⟩ := mem_nb.mp hp
    exact mem_nb.mpr ⟨hf, by rw [turns_symm (P.sh.inc _ h1) (P.sh.inc f hf) (by rw [P.len _ h1, P.len f hf])]; exact h2⟩
  ts := fun f hf g hg => turns_symm (P.sh.inc f hf) (P.sh.inc g hg) (by rw [P.len f hf, P.len g hg])
end K13
namespace K13
open PySem HW
/-! sorting by faces; chains with signs that fit *)-/
theorem alike_ints : ∀ a b : List Int, PySem.W.alikeAll (a.map .int) (b.map .int) = true
  | [], b => by simp [PySem.W.alikeAll]
  | x :: a, [] => by simp [PySem.W.alikeAll]
  | x :: a, y :: b => by simp [PySem.W.alikeAll, PySem.W.alike, alike_ints a b]
theorem dataLt_key {a b : Fc} (hab : a ≠ b) (x y : List PyData) : PySem.W.dataLt (.tuple (.tuple (a.map .int) :: x)) (.tuple (.tuple (b.map .int) :: y)) = decide (a < b) := by
  rw [PySem.W.dataLt_tuple, PySem.W.toks_all_cons, PySem.W.toks_all_cons]
  rw [PyProof.Rows.lex_self (O := PyProof.Rows.itemOrd)]
  rw [(PySem.W.toks_eqv (.tuple (a.map .int)) (.tuple (b.map .int)) (by rw [PySem.W.alike]; exact alike_ints a b)).2 (by rw [PyData.eqv, eqv_ints]; exact decide_eq_false hab)]
  exact dataLt_tup a b
theorem dataLt_self (d : PyData) : PySem.W.dataLt d d = false := PyProof.Rows.lex_irrefl _
theorem perm_uniq {α : Type} {R : α → α → Prop} (irr : ∀ a b, R a b → ¬ R b a) : ∀ {l t : List α}, l.Perm t → l.Pairwise R → t.Pairwise R → l = t
  | [], t, p, _, _ => (List.nil_perm.mp p).symm
  | a :: l, [], p, _, _ => by simpa using p.length_eq
  | a :: l, b :: t, p, h1, h2 => by
    rw [List.pairwise_cons] at h1 h2
    have e : a = b := by
      rcases List.mem_cons.mp (p.subset (List.mem_cons_self (a := a))) with q | q
      · exact q
      · rcases List.mem_cons.mp (p.symm.subset (List.mem_cons_self (a := b))) with r | r
        · exact r.symm
        · exact absurd (h1.1 b r) (irr b a (h2.1 a q))
    subst e
    rw [perm_uniq irr ((List.perm_cons a).mp p) h1.2 h2.2]
theorem sortV_key {α : Type} (enc : α → PV) (key : α → Fc) (ext : α → List PyData) (he : ∀ a, dOf (enc a) = .tuple (.tuple ((key a).map .int) :: ext a)) {l t : List α} (hp : l.Perm t) (ht : t.Pairwise fun a b => key a < key b) : sortV (l.map enc) = t.map enc := by
  let r : α → α → Bool := fun a b => decide (key a ≤ key b)
  have kn : (t.map key).Nodup := by
    rw [List.Nodup, List.pairwise_map]
    exact List.Pairwise.imp (S := fun a b => key a ≠ key b) (fun {a b} h e => by rw [e] at h; exact flt_irrefl _ h) ht
  have inj : ∀ a ∈ t, ∀ b ∈ t, key a = key b → a = b := by
    intro a ha b hb e
    obtain ⟨i, hi⟩ := List.mem_iff_getElem?.mp ha
    obtain ⟨j, hj⟩ := List.mem_iff_getElem?.mp hb
    have h1 : (t.map key)[i]? = some (key a) := by rw [List.getElem?_map, hi]; rfl
    have h2 : (t.map key)[j]? = some (key a) := by rw [List.getElem?_map, hj, e]; rfl
    have := (List.getElem?_inj (List.getElem?_eq_some_iff.mp h1).1 kn).mp (h1.trans h2.symm)
    subst this
    rw [hi] at hj
    exact Option.some.inj hj
  have e1 : (l.mergeSort r).map enc = (l.map enc).mergeSort (PySem.W.dataLe false dOf) := List.map_mergeSort fun a ha b hb => by
    show decide (key a ≤ key b) = !PySem.W.dataLt (dOf (enc b)) (dOf (enc a))
    by_cases q : key a = key b
    · rw [inj a (hp.subset ha) b (hp.subset hb) q, dataLt_self]
      simp
    · rw [he, he, dataLt_key (fun e => q e.symm)]
      by_cases h : key b < key a
      · have h' : ¬ key a ≤ key b := fun r => List.not_lt.mpr r h
        simp [h, h']
      · have h' : key a ≤ key b := List.not_lt.mp h
        simp [h, h']
  have s1 : (l.mergeSort r).Pairwise fun a b => key a ≤ key b := (List.pairwise_mergeSort (le := r) (fun a b c h1 h2 => decide_eq_true (List.le_trans (of_decide_eq_true h1) (of_decide_eq_true h2))) (fun a b => by
    have := List.le_total (key a) (key b)
    simpa [r] using this) l).imp fun h => of_decide_eq_true h
  have p1 : (l.mergeSort r).Perm t := (List.mergeSort_perm l r).trans hp
  have n1 : (l.mergeSort r).Pairwise fun a b => key a ≠ key b := by
    have : ((l.mergeSort r).map key).Nodup := (p1.map key).nodup_iff.mpr kn
    rwa [List.Nodup, List.pairwise_map] at this
  have s2 : (l.mergeSort r).Pairwise fun a b => key a < key b := (s1.and n1).imp fun h => flt_of h.1 h.2
  have e2 : l.mergeSort r = t := perm_uniq (R := fun a b => key a < key b) (fun a b h1 h2 => flt_irrefl _ (List.lt_trans h1 h2)) p1 s2 ht
  unfold sortV
  rw [← e1, e2]
/-- signs that fit together *)-/
structure Sgn (s : List Fc) (T : Tb) : Prop where
  nd : nod T
  mem : ∀ x, x ∈ T.map (·.1) ↔ x ∈ s
  pm : ∀ p ∈ T, p.2 = 1 ∨ p.2 = -1
  fit : ∀ f ∈ s, ∀ g ∈ s, ∀ t, turns f g = some t → get T g = sgt (get T f) t
def sgs (S : List Node) : Tb := S.map fun n => (n.1, n.2.1)
theorem sgs_fst (S : List Node) : (sgs S).map (·.1) = kys S := by unfold sgs kys; rw [List.map_map]; rfl
theorem Full.sgn {s : List Fc} {S : List Node} (h : Full s (nb s) S) : Sgn s (sgs S) := by
  have hn : nod (sgs S) := by unfold nod; rw [sgs_fst]; exact h.nd
  have gt : ∀ n ∈ S, get (sgs S) n.1 = n.2.1 := fun n hn' => get_mem hn (p := (n.1, n.2.1)) (List.mem_map.mpr ⟨n, hn', rfl⟩)
  refine ⟨hn, fun x => by rw [sgs_fst]; exact h.mem x, fun p hp => ?_, fun f hf g hg t ht => ?_⟩
  · obtain ⟨n, h1, rfl⟩ := List.mem_map.mp hp
    exact h.pm n h1
  · obtain ⟨n, h1, rfl⟩ := List.mem_map.mp ((h.mem f).mpr hf)
    obtain ⟨m, h2, h3, h4⟩ := h.fit n h1 (g, t) (mem_nb.mpr ⟨hg, ht⟩)
    dsimp only at h3 h4
    rw [← h3, gt m h2, gt n h1, h4]
theorem get_neg (x : Fc) : ∀ T : Tb, get (T.map fun p => (p.1, 0 - p.2)) x = 0 - get T x
  | [] => by simp [get]
  | p :: T => by
    rw [List.map_cons, get, get, get_neg x T]
    split <;> rfl
theorem Sgn.neg {s : List Fc} {T : Tb} (h : Sgn s T) : Sgn s (T.map fun p => (p.1, 0 - p.2)) := by
  have e : (T.map fun p => (p.1, 0 - p.2)).map (·.1) = T.map (·.1) := by rw [List.map_map]; rfl
  refine ⟨by unfold nod; rw [e]; exact h.nd, fun x => by rw [e]; exact h.mem x, fun p hp => ?_, fun f hf g hg t ht => ?_⟩
  · obtain ⟨n, h1, rfl⟩ := List.mem_map.mp hp
    have := h.pm n h1
    dsimp only
    omega
  · rw [get_neg, get_neg, h.fit f hf g hg t ht]
    unfold sgt
    split <;> omega
theorem lin_ar (φ g : Fc → Int) (p : Fc → Bool) : ∀ s : List Fc, (∀ f ∈ s, p f = false → φ f = 0) → lin φ (s.map fun f => (f, g f)) = lin φ ((s.filter p).map fun f => (f, g f))
  | [], _ => rfl
  | f :: s, h => by
    have ih := lin_ar φ g p s fun x hx => h x (List.mem_cons_of_mem _ hx)
    rw [List.map_cons, lin, ih]
    cases q : p f with
    | true => rw [List.filter_cons_of_pos q, List.map_cons, lin]
    | false =>
      rw [List.filter_cons_of_neg (by simp [q]), h f List.mem_cons_self q]
      simp
theorem Sgn.perm {s : List Fc} {T : Tb} (h : Sgn s T) (hs : s.Nodup) : T.Perm (s.map fun f => (f, get T f)) := by
  have n1 : T.Nodup := by
    have := h.nd
    unfold nod List.Nodup at this
    rw [List.pairwise_map] at this
    exact this.imp fun h e => h (by rw [e])
  have n2 : (s.map fun f => (f, get T f)).Nodup := by
    rw [List.Nodup, List.pairwise_map]
    exact hs.imp fun h e => h (by simpa using congrArg Prod.fst e)
  refine (List.perm_ext_iff_of_nodup n1 n2).mpr fun p => ?_
  rw [List.mem_map]
  constructor
  · intro hp
    exact ⟨p.1, (h.mem _).mp (List.mem_map.mpr ⟨p, hp, rfl⟩), by rw [get_mem h.nd hp]⟩
  · rintro ⟨f, hf, rfl⟩
    obtain ⟨q, hq, e⟩ := List.mem_map.mp ((h.mem f).mpr hf)
    rw [← e, get_mem h.nd hq]
    exact hq
theorem lin_tld' (φ : Fc → Int) (T : Tb) : lin φ (tld T) = lin φ T := (lin_perm φ (tld_perm T)).trans (lin_nz φ T)
theorem tld_zero {T : Tb} (h : ∀ p ∈ T, p.2 = 0) : tld T = [] := by
  have : T.filter nz = [] := List.filter_eq_nil_iff.mpr fun p hp => by simp [nz, h p hp]
  unfold tld
  rw [this]
  simp
theorem bnd_zero {s : List Fc} {n : Nat} (P : Pur s n) (W : Two s n) {T : Tb} (h : Sgn s T) : tld (bnd (tld T)) = [] := tld_zero fun p hp => by
  rw [← get_mem (nod_bnd _) hp, get_lin _ (nod_bnd _), lin_bnd, lin_tld']
  obtain ⟨q, hq, r, hr, e⟩ := mem_bnd hp
  have hqs := (h.mem _).mp (List.mem_map.mpr ⟨q, tld_keys hq, rfl⟩)
  obtain ⟨r1, r2, r3⟩ := sd_mem hr
  have hx : p.1 ∈ Lv s n := (mem_Lv P.n2).mpr ⟨⟨q.1, hqs, by rw [e]; exact r1⟩, by rw [e, r2]; exact P.len _ hqs⟩
  have φe : ∀ f ∈ s, del (one1 p.1) f = sg f p.1 := fun f hf => (get_lin _ (nod_sd (P.sh.inc f hf))).symm
  obtain ⟨a, b, e1, e2⟩ := W.rws hx
  have hab : a ≠ b := by
    have := P.nd.filter (wit p.1)
    rw [show s.filter (wit p.1) = [a, b] from e1] at this
    simpa using this
  have ha := (P.mem_ar hx (f := a)).mp (by rw [e1]; simp)
  have hb := (P.mem_ar hx (f := b)).mp (by rw [e1]; simp)
  rw [lin_perm _ (h.perm P.nd), lin_ar _ _ (wit p.1) s fun f hf q => by
    rw [φe f hf]
    refine get_none fun z hz ez => ?_
    have := (wit_sub (P.inc hx) (P.sh.inc f hf)).mpr (by rw [← ez]; exact (sd_mem hz).1)
    rw [q] at this
    cases this]
  rw [show s.filter (wit p.1) = [a, b] from e1]
  simp only [List.map_cons, List.map_nil, lin]
  rw [φe a ha.1, φe b hb.1]
  have la := P.len a ha.1
  have lb := P.len b hb.1
  have lx := ((mem_Lv P.n2).mp hx).2
  have st := h.fit a ha.1 b hb.1 (decide (sg a p.1 = sg b p.1)) ((turns_iff (P.sh.inc a ha.1) (P.sh.inc b hb.1) (by omega)).mpr ⟨hab, p.1, by omega, ha.2, hb.2, rfl⟩)
  have sa := sd_sign (sg_mem (P.sh.inc a ha.1) (by rw [la]; exact P.n2) ha.2 (by omega))
  have sb := sd_sign (sg_mem (P.sh.inc b hb.1) (by rw [lb]; exact P.n2) hb.2 (by omega))
  dsimp only at sa sb
  rw [st]
  unfold sgt
  rcases sa with sa | sa <;> rcases sb with sb | sb <;> rw [sa, sb] <;> simp <;> omega
end K13
namespace K13
open PySem HW
/-! tables of lists that are written *)-/
section
variable {h : PHeap} {L : List Fc} {F G : Fc → List PV}
def kd : List Fc → Nat → List (PV × PV)
  | [], _ => []
  | x :: L, n => (tI x, .ref n) :: kd L (n + 1)
def cells (L : List Fc) (F : Fc → List PV) : PHeap := L.map fun x => Cell.lst (F x)
abbrev TL (h : PHeap) (L : List Fc) (F : Fc → List PV) : PHeap := h ++ cells L F ++ [.dct (kd L h.length)]
theorem cells_len : (cells L F).length = L.length := by simp [cells]
theorem kd_keys : ∀ (L : List Fc) (n : Nat), ∀ e ∈ kd L n, ∃ f, e.1 = tI f
  | [], _, e, he => by simp [kd] at he
  | x :: L, n, e, he => by
    rcases List.mem_cons.mp he with rfl | he
    · exact ⟨x, rfl⟩
    · exact kd_keys L (n + 1) e he
theorem kd_app : ∀ (L : List Fc) (x : Fc) (n : Nat), kd (L ++ [x]) n = kd L n ++ [(tI x, .ref (n + L.length))]
  | [], x, n => by simp [kd]
  | y :: L, x, n => by
    rw [List.cons_append, kd, kd_app L x (n + 1), kd, List.cons_append]
    simp
    omega
theorem kd_any : ∀ (L : List Fc) (y : Fc) (n : Nat), (kd L n).any (fun e => decide (e.1 = tI y)) = decide (y ∈ L)
  | [], y, n => by simp [kd]
  | x :: L, y, n => by
    rw [kd, List.any_cons, kd_any L y (n + 1)]
    simp only [tI_iff, List.mem_cons, Bool.decide_or]
    congr 1
    exact decide_eq_decide.mpr eq_comm
theorem kd_len : ∀ (L : List Fc) (n : Nat), (kd L n).length = L.length
  | [], _ => rfl
  | x :: L, n => by rw [kd, List.length_cons, kd_len L (n + 1), List.length_cons]
theorem kd_fst : ∀ (L : List Fc) (n : Nat), (kd L n).map (·.1) = L.map tI
  | [], _ => rfl
  | x :: L, n => by rw [kd, List.map_cons, kd_fst L (n + 1), List.map_cons]
theorem kd_find : ∀ {L : List Fc} {i : Nat} {y : Fc} (n : Nat), L.Nodup → L[i]? = some y → dFind (kd L n) (tI y) = some (.ref (n + i))
  | [], _, _, _, _, hi => by simp at hi
  | x :: L, 0, y, n, _, hi => by
    simp at hi
    subst hi
    simp [kd, dFind]
  | x :: L, i + 1, y, n, hn, hi => by
    rw [List.nodup_cons] at hn
    have hi' : L[i]? = some y := by simpa using hi
    have ne : tI x ≠ tI y := fun e => hn.1 (by rw [tI_inj e]; exact List.mem_of_getElem? hi')
    have := kd_find (n + 1) hn.2 hi'
    unfold dFind at this ⊢
    rw [kd, List.find?_cons_of_neg (by simpa using ne), this]
    congr 2
    omega
theorem tl_d : (TL h L F)[h.length + L.length]? = some (.dct (kd L h.length)) := by
  rw [List.getElem?_append_right (by simp [cells_len])]
  simp [cells_len]
theorem tl_c {i : Nat} {y : Fc} (hi : L[i]? = some y) {d : Cell} : (h ++ cells L F ++ [d])[h.length + i]? = some (.lst (F y)) := by
  have hl := (List.getElem?_eq_some_iff.mp hi).1
  rw [List.append_assoc, List.getElem?_append_right (by omega), List.getElem?_append_left (by rw [cells_len]; omega)]
  unfold cells
  rw [List.getElem?_map, show h.length + i - h.length = i by omega, hi]
  rfl
theorem tl_get (hn : L.Nodup) {i : Nat} {y : Fc} (hi : L[i]? = some y) : itemOf (TL h L F) (.ref (h.length + L.length)) (tI y) = some (.ref (h.length + i)) := by
  unfold itemOf asDict
  simp only [tl_d]
  rw [if_pos (keyOk_tI (kd_keys _ _) _), kd_find _ hn hi]
theorem tl_in (y : Fc) : isIn (TL h L F) (tI y) (.ref (h.length + L.length)) = some (decide (y ∈ L)) := by
  unfold isIn asDict
  simp only [tl_d]
  rw [if_pos (keyOk_tI (kd_keys _ _) _), kd_any]
def updF (F : Fc → List PV) (y : Fc) (v : PV) : Fc → List PV := fun x => if x = y then F x ++ [v] else F x
theorem cells_set (hn : L.Nodup) {i : Nat} {y : Fc} (hi : L[i]? = some y) {v : PV} : (cells L F).set i (.lst (F y ++ [v])) = cells L (updF F y v) := by
  unfold cells
  refine List.ext_getElem? fun j => ?_
  by_cases e : j = i
  · subst e
    have hl := (List.getElem?_eq_some_iff.mp hi).1
    rw [List.getElem?_set_self (by simpa using hl), List.getElem?_map, hi]
    simp [updF]
  · rw [List.getElem?_set_ne (Ne.symm e), List.getElem?_map, List.getElem?_map]
    cases hj : L[j]? with
    | none => rfl
    | some x =>
      have : x ≠ y := fun z => e ((List.getElem?_inj (List.getElem?_eq_some_iff.mp hj).1 hn).mp (hj.trans (by rw [z, hi])))
      simp [updF, this]
theorem tl_app (hn : L.Nodup) {i : Nat} {y : Fc} (hi : L[i]? = some y) (hl : (F y).length < LIM) {v : PV} {d : Cell} :
    recv .lapp (h ++ cells L F ++ [d]) (.ref (h.length + i)) = true ∧ methop .lapp (.ref (h.length + i)) [v] (h ++ cells L F ++ [d]) = .ok .non (h ++ cells L (updF F y v) ++ [d]) := by
  have hil := (List.getElem?_eq_some_iff.mp hi).1
  constructor
  · unfold recv asList
    simp only [tl_c hi]
    rfl
  · unfold methop mApp
    simp only [tl_c hi]
    rw [if_pos hl, List.append_assoc, List.set_append_right _ _ (by omega), show h.length + i - h.length = i by omega, List.set_append_left _ _ (by rw [cells_len]; exact hil), cells_set hn hi, ← List.append_assoc]
theorem cells_congr (e : ∀ x ∈ L, F x = G x) : cells L F = cells L G := by
  unfold cells
  exact List.map_congr_left fun x hx => by rw [e x hx]
theorem tl_outer {d : Cell} : okOuter h (h ++ cells L F ++ [d]) = true := by
  unfold okOuter
  rw [List.all_eq_true]
  intro m hm
  rw [List.mem_range] at hm
  rw [List.append_assoc, List.getElem?_append_left hm]
  simp
theorem below_tI' (n : Nat) (f : Fc) : below n (tI f) = true := below_tame n 1 _ (tame_tI 0 f)
theorem tl_frz (hF : ∀ x ∈ L, ∀ v ∈ F x, below h.length v = true) {d : Cell} : ∀ (A B : List Fc), L = A ++ B → (kd B (h.length + A.length)).mapM (fun e => frz (h ++ cells L F ++ [d]) h.length 10 e.2) = some (B.map fun x => .lst (F x))
  | A, [], _ => rfl
  | A, x :: B, e => by
    have ih := tl_frz hF (d := d) (A ++ [x]) B (by rw [e]; simp)
    rw [List.length_append, List.length_singleton, ← Nat.add_assoc] at ih
    have hx : L[A.length]? = some x := by rw [e]; simp
    have hm : x ∈ L := List.mem_of_getElem? hx
    rw [kd, List.mapM_cons, ih]
    have : frz (h ++ cells L F ++ [d]) h.length 10 (.ref (h.length + A.length)) = some (.lst (F x)) := by
      unfold frz
      rw [if_neg (by simp [below])]
      simp only [tl_c hx]
      unfold frzs
      rw [mapM_frz (k := 7) fun v hv => hF x hm v hv]
      rfl
    rw [this]
    rfl
theorem finish_tl (hF : ∀ x ∈ L, ∀ v ∈ F x, below h.length v = true) : HW.finish false h (.ref (h.length + L.length)) (TL h L F) = .ok (.dct (L.map fun x => (tI x, .lst (F x)))) h := by
  have h2 : frz (TL h L F) h.length 12 (.ref (h.length + L.length)) = some (.dct (L.map fun x => (tI x, .lst (F x)))) := by
    unfold frz
    rw [if_neg (by simp [below])]
    simp only [tl_d]
    rw [kd_fst, if_pos (belows_all fun x hx => by
      obtain ⟨e, he, rfl⟩ := List.mem_map.mp hx
      exact below_tI' _ e)]
    unfold frzs
    rw [List.mapM_map]
    have := tl_frz hF (d := .dct (kd L h.length)) [] L rfl
    rw [List.length_nil, Nat.add_zero] at this
    simp only [Function.comp_def]
    rw [this]
    simp [List.zip_map']
  unfold HW.finish
  rw [tl_outer, h2]
  simp
/-- the table made *)-/
theorem tl_make {ctx : List Sem} {env : HW.Env} {j : Nat} (hj : j < env.length) : ∀ (R D : List Fc), (D ++ R).Nodup → (D ++ R).length < LIM →
    dcompGo (fun _ => true) (tgSet (.nm j)) (dIfs ctx .nil) (dE ctx (.var j)) (dE ctx (.lst true .nil)) env (R.map tI) (h ++ cells D (fun _ => [])) (kd D h.length) = .ok (kd (D ++ R) h.length) (h ++ cells (D ++ R) fun _ => [])
  | [], D, _, _ => by simp [dcompGo]
  | x :: R, D, hn, hl => by
    have ih := tl_make (ctx := ctx) hj R (D ++ [x]) (by simpa using hn) (by simpa using hl)
    have hx : x ∉ D := fun hx => by
      rw [List.nodup_append] at hn
      exact hn.2.2 x hx x (by simp) rfl
    have put : dPut (kd D h.length) (tI x) (.ref (h.length + D.length)) = kd (D ++ [x]) h.length := by
      unfold dPut
      rw [kd_any, if_neg (by simpa using hx), kd_app]
    have hlD : D.length < LIM := by simp at hl; omega
    rw [List.map_cons, dcompGo]
    simp [hj, keyOk_tI (kd_keys D h.length) x, kd_len, hlD, cells_len, put]
    have e : h ++ (cells D (fun _ => []) ++ [Cell.lst []]) = h ++ cells (D ++ [x]) fun _ => [] := by simp [cells]
    rw [e, ih]
    simp
end
end K13
namespace K13
open PySem HW
/-! around, opening *)-/
theorem asInts_enc {τ : Type} (f : τ → Int) : ∀ xs : List τ, asInts (xs.map fun x => .int (f x)) = some (xs.map f)
  | [] => rfl
  | x :: xs => by rw [List.map_cons, asInts, asInts_enc f xs]; rfl
section
variable {h : PHeap} {env : HW.Env}
@[simp] theorem x_it0 {x : PV} {xs : List PV} : itemOf h (.tup (x :: xs)) (.int 0) = some x := L2.atI_nat (j := 0) rfl
@[simp] theorem x_it0l {x : PV} {xs : List PV} : itemOf h (.lst (x :: xs)) (.int 0) = some x := L2.atI_nat (j := 0) rfl
@[simp] theorem x_it1 {x y : PV} {xs : List PV} : itemOf h (.tup (x :: y :: xs)) (.int 1) = some y := L2.atI_nat (j := 1) rfl
@[simp] theorem x_itc {p : Fc × Int} : itemOf h (cp p) (.int 0) = some (tI p.1) := L2.atI_nat (j := 0) rfl
@[simp] theorem x_lkcv {k : Cnv} {al : Bool} {e : IE} : lockI (.ex (.conv k al e)) env h = none := rfl
@[simp] theorem x_lkic {f : Nat} {es : IEs} : lockI (.items (.call f es)) env h = none := rfl
@[simp] theorem x_lksb {a b : IE} : lockI (.ex (.sub a b)) env h = none := rfl
end
def dm (s : List Fc) : Int := ((maxI (s.map fun f => (f.length : Int))).getD 0) - 1
theorem foldmax : ∀ (l : List Int) (a : Int), a ≤ l.foldl (fun a b => if b > a then b else a) a ∧ (∀ x ∈ l, x ≤ l.foldl (fun a b => if b > a then b else a) a) ∧ (l.foldl (fun a b => if b > a then b else a) a = a ∨ l.foldl (fun a b => if b > a then b else a) a ∈ l)
  | [], a => by simp
  | x :: l, a => by
    obtain ⟨h1, h2, h3⟩ := foldmax l (if x > a then x else a)
    rw [List.foldl_cons]
    have g1 : a ≤ if x > a then x else a := by split <;> omega
    have g2 : x ≤ if x > a then x else a := by split <;> omega
    refine ⟨Int.le_trans g1 h1, ?_, ?_⟩
    · intro y hy
      rcases List.mem_cons.mp hy with rfl | hy
      · exact Int.le_trans g2 h1
      · exact h2 y hy
    · rcases h3 with h3 | h3
      · by_cases q : x > a
        · right
          rw [if_pos q] at h3 ⊢
          rw [h3]
          exact List.mem_cons_self
        · left
          rw [if_neg q] at h3 ⊢
          exact h3
      · exact .inr (List.mem_cons_of_mem _ h3)
theorem maxI_some {s : List Fc} (hs : s ≠ []) : maxI (s.map fun f => (f.length : Int)) = some (dm s + 1) := by
  cases s with
  | nil => exact absurd rfl hs
  | cons f s => simp [dm, maxI]
theorem dm_ge {s : List Fc} {f : Fc} (hf : f ∈ s) : (f.length : Int) ≤ dm s + 1 := by
  cases s with
  | nil => simp at hf
  | cons g s =>
    have := foldmax (s.map fun f => (f.length : Int)) g.length
    simp only [dm, maxI, List.map_cons, Option.getD_some]
    rcases List.mem_cons.mp hf with rfl | hf
    · omega
    · have := this.2.1 _ (List.mem_map.mpr ⟨f, hf, rfl⟩)
      omega
theorem dm_mem {s : List Fc} (hs : s ≠ []) : ∃ f ∈ s, (f.length : Int) = dm s + 1 := by
  cases s with
  | nil => exact absurd rfl hs
  | cons g s =>
    have := foldmax (s.map fun f => (f.length : Int)) g.length
    simp only [dm, maxI, List.map_cons, Option.getD_some]
    rcases this.2.2 with q | q
    · exact ⟨g, List.mem_cons_self, by omega⟩
    · obtain ⟨f, hf, e⟩ := List.mem_map.mp q
      exact ⟨f, List.mem_cons_of_mem _ hf, by omega⟩
theorem Pur.dm {s : List Fc} {n : Nat} (P : Pur s n) : dm s + 1 = n := by
  obtain ⟨f, hf, e⟩ := dm_mem P.sh.e
  rw [P.len f hf] at e
  exact e.symm
def lo (s : List Fc) : List Fc := s.filter fun f => decide ((f.length : Int) < dm s + 1)
/-- where a complex is open *)-/
def opn (s : List Fc) : List Fc := if lo s ≠ [] then lo s else if dm s = 0 then s else (Lv s (dm s + 1).toNat).filter fun x => decide ((ar s x).length ≠ 2)
theorem pur_of {s : List Fc} (S : Shp s) (h1 : lo s = []) (h2 : dm s ≠ 0) : Pur s (dm s + 1).toNat := by
  have h3 := List.filter_eq_nil_iff.mp h1
  have h4 : ∀ f ∈ s, (f.length : Int) = dm s + 1 := fun f hf => by
    have a := dm_ge hf
    have b := h3 f hf
    simp at b
    omega
  obtain ⟨f, hf, e⟩ := dm_mem S.e
  have := List.length_pos_iff.mpr (S.f f hf).1
  exact ⟨S, by omega, fun f hf => by have := h4 f hf; omega⟩
theorem closed_of {s : List Fc} (S : Shp s) (h : opn s = []) : Pur s (dm s + 1).toNat ∧ Two s (dm s + 1).toNat := by
  unfold opn at h
  by_cases h1 : lo s = []
  · rw [if_neg (by simpa using h1)] at h
    by_cases h2 : dm s = 0
    · rw [if_pos h2] at h
      exact absurd h S.e
    · rw [if_neg h2] at h
      refine ⟨pur_of S h1 h2, fun x hx => ?_⟩
      have := List.filter_eq_nil_iff.mp h x hx
      simpa using this
  · rw [if_pos h1] at h
    exact absurd h h1
section
variable {h : PHeap}
theorem dimension_ev {s : List Fc} (S : Shp s) : s_dimension [.tup (s.map tI)] h = .ok (.int (dm s)) h := by
  have hl : s.length ≤ LIM := by have := S.n; simp [LIM]; omega
  simp [s_dimension, runFn, if_dimension, lockV]
  rw [comp_map (fun f : Fc => .int f.length) rfl _ (fun f hf => ⟨_, by simp; rfl, by simp⟩) hl]
  simp [convop, asList, asInts_enc, maxI_some S.e]
  exact finish_same rfl
abbrev abody : ISs := .cons (.ifs (.cmp .isin (.var 3) (.var 1)) (.cons (.expr (.meth .lapp (.sub (.var 1) (.var 3)) (.cons (.tup (.cons (.var 2) (.cons (.var 4) .nil))) .nil))) .nil) .nil) .nil
def acc (R : Fc → Tb) (f : Fc) (D : Tb) (x : Fc) : List PV := (R x ++ (D.filter fun p => decide (p.1 = x)).map fun p => (f, p.2)).map cp
theorem acc_snoc (R : Fc → Tb) (f : Fc) (D : Tb) (p : Fc × Int) : updF (acc R f D) p.1 (cp (f, p.2)) = acc R f (D ++ [p]) := by
  funext x
  unfold updF acc
  by_cases q : p.1 = x
  · subst q
    simp [cp]
  · have q' : x ≠ p.1 := fun e => q e.symm
    simp [q, q']
theorem around_inner {ctx : List Sem} {L : List Fc} (hn : L.Nodup) {v : PV} {f : Fc} {R : Fc → Tb} (hR : ∀ x ∈ L, (R x).length ≤ 1000) {T : Tb} (hT : ∀ p ∈ T, p.1 ∈ L) (hl : T.length ≤ 1000) {c d : Option PV} :
    ∃ c' d', forGo (fun _ => true) (tgSet (.tp [.nm 3, .nm 4])) (dSs ctx abody) (T.map cp) [some v, some (.ref (h.length + L.length)), some (tI f), c, d] (TL h L (acc R f [])) =
      .ok (.nx [some v, some (.ref (h.length + L.length)), some (tI f), c', d']) (TL h L (acc R f T)) := by
  obtain ⟨e, g, q, rfl, ⟨c', d', rfl⟩, _⟩ := for_inv (enc := cp) (chk := fun _ => true) (tg := tgSet (.tp [.nm 3, .nm 4])) (body := dSs ctx abody)
    (step := fun (D : Tb) p => D ++ [p]) (I := fun ts D env g => g = TL h L (acc R f D) ∧ (∃ c d, env = [some v, some (.ref (h.length + L.length)), some (tI f), c, d]) ∧ D.length + ts.length ≤ 1000 ∧ ∀ p ∈ ts, p.1 ∈ L)
    (fun _ _ _ _ _ => rfl) (by
      rintro p ts D env g ⟨rfl, ⟨c, d, rfl⟩, h1, h2⟩
      have hp := h2 p List.mem_cons_self
      obtain ⟨i, hi⟩ := List.mem_iff_getElem?.mp hp
      have e1 := tl_in (h := h) (L := L) (F := acc R f D) p.1
      have e2 := tl_get (h := h) (F := acc R f D) hn hi
      have e3 := tl_app (h := h) (F := acc R f D) hn hi (by
        have a := hR _ hp
        have b := List.length_filter_le (fun q : Fc × Int => decide (q.1 = p.1)) D
        simp only [List.length_cons] at h1
        simp [LIM, acc]
        omega) (v := cp (f, p.2)) (d := .dct (kd L h.length))
      rw [acc_snoc] at e3
      unfold cp at e3
      refine ⟨[some v, some (.ref (h.length + L.length)), some (tI f), some (tI p.1), some (.int p.2)], by simp, [some v, some (.ref (h.length + L.length)), some (tI f), some (tI p.1), some (.int p.2)], TL h L (acc R f (D ++ [p])), ?_, rfl, ⟨some (tI p.1), some (.int p.2), rfl⟩, by simp at h1 ⊢; omega, fun q hq => h2 q (List.mem_cons_of_mem _ hq)⟩
      simp only [List.append_assoc] at e1 e2 e3
      simp [e1, hp, e2, e3]) T [] [some v, some (.ref (h.length + L.length)), some (tI f), c, d] _ ⟨rfl, ⟨c, d, rfl⟩, by simpa using hl, hT⟩
  have : ∀ (T D : Tb), T.foldl (fun D p => D ++ [p]) D = D ++ T := by
    intro T
    induction T with
    | nil => intro D; simp
    | cons p T ih => intro D; rw [List.foldl_cons, ih]; simp
  rw [this, List.nil_append] at q
  exact ⟨c', d', q⟩
theorem key_filter {x : Fc} : ∀ {T : Tb}, nod T → ∀ {σ : Int}, (x, σ) ∈ T → T.filter (fun p => decide (p.1 = x)) = [(x, σ)]
  | [], _, _, h => by simp at h
  | p :: T, hn, σ, h => by
    unfold nod at hn
    rw [List.map_cons, List.nodup_cons] at hn
    rcases List.mem_cons.mp h with rfl | h
    · rw [List.filter_cons_of_pos (by simp), List.filter_eq_nil_iff.mpr]
      intro q hq e
      exact hn.1 (List.mem_map.mpr ⟨q, hq, of_decide_eq_true e⟩)
    · rw [List.filter_cons_of_neg, key_filter hn.2 h]
      intro e
      exact hn.1 (List.mem_map.mpr ⟨_, h, (of_decide_eq_true e).symm⟩)
def accR (s : List Fc) (x : Fc) : List PV := (rows s x).map cp
theorem acc_nil (s : List Fc) (f : Fc) : acc (rows s) f [] = accR s := by
  funext x
  simp [acc, accR]
theorem acc_sides {s : List Fc} {n : Nat} (P : Pur s n) {s1 : List Fc} {f : Fc} (hf : f ∈ s) {x : Fc} (hx : x ∈ Lv s n) : acc (rows s1) f (sd f) x = accR (s1 ++ [f]) x := by
  have hi := P.sh.inc f hf
  have hlf := P.len f hf
  have hlx := ((mem_Lv P.n2).mp hx).2
  have n2 := P.n2
  have e : (sd f).filter (fun p => decide (p.1 = x)) = if wit x f then [(x, sg f x)] else [] := by
    cases w : wit x f with
    | true => exact key_filter (nod_sd hi) (sg_mem hi (by omega) ((wit_sub (P.inc hx) hi).mp w) (by omega))
    | false =>
      refine List.filter_eq_nil_iff.mpr fun p hp e => ?_
      have := (wit_sub (P.inc hx) hi).mpr (by rw [← of_decide_eq_true e]; exact (sd_mem hp).1)
      rw [w] at this
      cases this
  unfold acc accR rows ar
  rw [e, List.filter_append]
  cases w : wit x f <;> simp [w]
def arD (s : List Fc) (n : Nat) : List (PV × PV) := (Lv s n).map fun x => (tI x, .lst (accR s x))
theorem around_ev {s : List Fc} {n : Nat} (P : Pur s n) : s_around [.tup (s.map tI)] h = .ok (.dct (arD s n)) h := by
  have L1 : (Lv s n).length ≤ 262144 := by
    unfold Lv lvl
    refine Nat.le_trans (List.length_filter_le _ _) ?_
    rw [(sortF_perm _).length_eq]
    exact allF_small P.sh.sm
  have nd := Lv_nd s n
  have ed : lvl s (dm s - 1) = Lv s n := by
    have := P.dm
    unfold Lv
    rw [show dm s - 1 = (n : Int) - 1 - 1 by omega]
  have mk := tl_make (h := h) (ctx := [s_faces_of, s_dimension, s_sides_of]) (env := [some (.tup (s.map tI)), none, none, none, none]) (j := 2) (by simp) (Lv s n) [] (by simpa using nd) (by simp [LIM]; omega)
  simp only [List.nil_append, kd, cells, List.map_nil, List.append_nil] at mk
  have cl : (h ++ cells (Lv s n) fun _ => []).length = h.length + (Lv s n).length := by simp [cells]
  obtain ⟨e, g, q, rfl, ⟨a, c, d, rfl⟩, _⟩ := for_inv (enc := tI) (chk := fun _ => true) (tg := tgSet (.nm 2)) (body := dSs [s_faces_of, s_dimension, s_sides_of] (.cons (.for_ (.tp [.nm 3, .nm 4]) (.ex (.call 2 (.cons (.var 2) .nil))) abody) .nil))
    (step := fun (D : List Fc) f => D ++ [f]) (I := fun ts D env g => g = TL h (Lv s n) (accR D) ∧ (∃ a c d, env = [some (.tup (s.map tI)), some (.ref (h.length + (Lv s n).length)), a, c, d]) ∧ D.length + ts.length ≤ 1000 ∧ ∀ f ∈ ts, f ∈ s)
    (fun _ _ _ _ _ => rfl) (by
      rintro f ts D env g ⟨rfl, ⟨a, c, d, rfl⟩, h1, h2⟩
      have hf := h2 f List.mem_cons_self
      have fl := (P.sh.f f hf).2
      obtain ⟨c', d', q⟩ := around_inner (h := h) (ctx := [s_faces_of, s_dimension, s_sides_of]) nd (v := .tup (s.map tI)) (f := f) (R := rows D) (fun x _ => by
        have := List.length_filter_le (wit x) D
        simp only [List.length_cons] at h1
        simp [rows, ar]
        omega) (T := sd f) (fun p hp => by
          obtain ⟨p1, p2, _⟩ := sd_mem hp
          exact (mem_Lv P.n2).mpr ⟨⟨f, hf, p1⟩, by rw [p2]; exact P.len f hf⟩) (by have := sd_length f; omega) (c := c) (d := d)
      rw [acc_nil] at q
      refine ⟨[some (.tup (s.map tI)), some (.ref (h.length + (Lv s n).length)), some (tI f), c, d], by simp, [some (.tup (s.map tI)), some (.ref (h.length + (Lv s n).length)), some (tI f), c', d'], TL h (Lv s n) (accR (D ++ [f])), ?_, rfl, ⟨_, _, _, rfl⟩, by simp at h1 ⊢; omega, fun q hq => h2 q (List.mem_cons_of_mem _ hq)⟩
      simp only [List.append_assoc] at q
      have sv := sides_one (h := TL h (Lv s n) (accR D)) (f := f) (by omega)
      simp only [TL, List.append_assoc] at sv
      simp [sv, q]
      exact cells_congr fun x hx => acc_sides P hf hx) s [] [some (.tup (s.map tI)), some (.ref (h.length + (Lv s n).length)), none, none, none] (TL h (Lv s n) (accR [])) ⟨rfl, ⟨_, _, _, rfl⟩, by have := P.sh.n; simp; omega, fun f hf => hf⟩
  have fo : ∀ (T D : List Fc), T.foldl (fun D p => D ++ [p]) D = D ++ T := by
    intro T
    induction T with
    | nil => intro D; simp
    | cons p T ih => intro D; rw [List.foldl_cons, ih]; simp
  rw [fo, List.nil_append] at q
  have e0 : cells (Lv s n) (fun _ => []) = cells (Lv s n) (accR []) := cells_congr fun x _ => rfl
  simp -implicitDefEqProofs [s_around, runFn, if_around, lockV, dimension_ev P.sh, faces_of_ev P.sh.sm, ed, mk]
  rw [show h ++ (List.map (fun x => Cell.lst []) (Lv s n) ++ [Cell.dct (kd (Lv s n) h.length)]) = TL h (Lv s n) (accR []) from (List.append_assoc ..).symm, q]
  show HW.finish false h (.ref (h.length + (Lv s n).length)) (TL h (Lv s n) (accR s)) = _
  refine finish_tl fun x _ v hv => ?_
  obtain ⟨p, _, rfl⟩ := List.mem_map.mp hv
  exact below_tame _ 2 _ (tame_cp p)
def headV : List Fc → PV
  | [] => .non
  | x :: _ => tI x
theorem toD_acc (s : List Fc) (x : Fc) : toD (.lst (accR s x)) = some (.list ((rows s x).map fun p => .tuple [.tuple (p.1.map .int), .int p.2])) := by
  rw [toD, accR, toD_cps]
  rfl
theorem depth_ints : ∀ a : List Int, PyData.depthAll (a.map .int) = 0
  | [] => by simp [PyData.depthAll]
  | x :: a => by simp [PyData.depthAll, PyData.depth, depth_ints a]
theorem depth_cps : ∀ T : Tb, PyData.depthAll (T.map fun p => .tuple [.tuple (p.1.map .int), .int p.2]) ≤ 2
  | [] => by simp [PyData.depthAll]
  | p :: T => by
    have := depth_cps T
    simp [PyData.depthAll, PyData.depth, depth_ints]
    omega
theorem alike_cps : ∀ T U : Tb, PySem.W.alikeAll (T.map fun p => PyData.tuple [.tuple (p.1.map .int), .int p.2]) (U.map fun p => .tuple [.tuple (p.1.map .int), .int p.2]) = true
  | [], U => by simp [PySem.W.alikeAll]
  | _ :: _, [] => by simp [PySem.W.alikeAll]
  | p :: T, q :: U => by simp [PySem.W.alikeAll, PySem.W.alike, alike_ints, alike_cps T U]
theorem sortOk_key {α : Type} (enc : α → PV) (key : α → Fc) (ext : α → List PyData) (he : ∀ a, toD (enc a) = some (.tuple (.tuple ((key a).map .int) :: ext a))) (ha : ∀ a b, PySem.W.alikeAll (ext a) (ext b) = true) (hd : ∀ a, PyData.depthAll (ext a) ≤ 30) (l : List α) : sortOk (l.map enc) = true := by
  have td : toDs (l.map enc) = some (l.map fun a => .tuple (.tuple ((key a).map .int) :: ext a)) := by
    induction l with
    | nil => rfl
    | cons a l ih => rw [List.map_cons, toDs, he, ih]; rfl
  unfold sortOk
  rw [td]
  simp only [Bool.and_eq_true, Bool.or_eq_true]
  refine ⟨⟨?_, ?_⟩, .inl ?_⟩
  · simp [List.all_eq_true, PySem.W.alike, PySem.W.alikeAll, alike_ints, ha]
  · simp only [List.all_map, List.all_eq_true, Function.comp, decide_eq_true_eq]
    intro a _
    have := hd a
    simp [PyData.depth, PyData.depthAll, depth_ints]
    omega
  · simp [List.all_map, List.all_eq_true]
theorem dOf_of {v : PV} {d : PyData} (h : toD v = some d) : dOf v = d := by
  unfold dOf
  rw [h]
  rfl
abbrev arE (s : List Fc) (x : Fc) : PV := .tup [tI x, .lst (accR s x)]
def arX (s : List Fc) (x : Fc) : List PyData := [.list ((rows s x).map fun (p : Fc × Int) => PyData.tuple [.tuple (p.1.map PyData.int), .int p.2])]
theorem arE_toD (s : List Fc) (x : Fc) : toD (arE s x) = some (.tuple (.tuple (x.map .int) :: arX s x)) := by
  rw [arE, toD, toDs, toDs, toDs, toD_tI, toD_acc]
  rfl
theorem ar_sorted {s : List Fc} {n : Nat} {al : Bool} (hl : (Lv s n).length ≤ 262144) : convop .sortedItems al (.dct (arD s n)) h = mkList al ((Lv s n).map (arE s)) h := by
  have e1 : (arD s n).map pairP = (Lv s n).map (arE s) := by
    unfold arD
    rw [List.map_map]
    rfl
  have e2 := sortOk_key (arE s) (fun x => x) (arX s) (arE_toD s) (fun a b => by simp [arX, PySem.W.alikeAll, PySem.W.alike, alike_cps]) (fun a => by
    have := depth_cps (rows s a)
    simp [arX, PyData.depthAll, PyData.depth]
    omega) (Lv s n)
  have e3 := sortV_key (arE s) (fun x => x) (arX s) (fun x => dOf_of (arE_toD s x)) (List.Perm.refl (Lv s n)) (Lv_lt s n)
  have e4 : decide ((arD s n).length ≤ LIM) = true := by
    simp [arD, LIM]
    omega
  show (R.of (some (arD s n)) h).bind (fun es h => if sortOk (es.map pairP) && decide (es.length ≤ LIM) then mkList al (sortV (es.map pairP)) h else .bad) = _
  simp only [R.of_some, R.bind_ok, e1, e2, e3, e4, Bool.and_self, if_true]
theorem Lv_small {s : List Fc} (S : Shp s) (n : Nat) : (Lv s n).length ≤ 262144 := by
  unfold Lv lvl
  refine Nat.le_trans (List.length_filter_le _ _) ?_
  rw [(sortF_perm _).length_eq]
  exact allF_small S.sm
theorem rows_len (s : List Fc) (x : Fc) : (accR s x).length = (ar s x).length := by simp [accR, rows]
theorem tru_faces (l : List Fc) : tru h (.lst (l.map tI)) = some (!l.isEmpty) := by
  cases l <;> rfl
theorem opening_ev {s : List Fc} (S : Shp s) : s_opening [.tup (s.map tI)] h = .ok (headV (opn s)) h := by
  have hl : s.length ≤ LIM := by have := S.n; simp [LIM]; omega
  have c1 : compGo (fun _ => true) (tgSet (.nm 4)) (dIfs [s_dimension, s_around] (.cons (.cmp .lt (.blt .len (.cons (.var 4) .nil)) (.bin .add (.var 1) (.cst (.int 1)))) .nil)) (dE [s_dimension, s_around] (.var 4)) [some (.tup (s.map tI)), some (.int (dm s)), none, none, none, none, none] (s.map tI) h [] = .ok ((lo s).map tI) h :=
    comp_enc (fun f : Fc => decide ((f.length : Int) < dm s + 1)) tI rfl _ _ (fun f hf => ⟨_, by simp; rfl, by simp, fun _ => by simp⟩) (by simpa using hl)
  cases e : lo s with
  | cons x r =>
    rw [e] at c1
    have o : opn s = x :: r := by unfold opn; rw [if_pos (by rw [e]; simp), e]
    simp -implicitDefEqProofs [s_opening, runFn, if_opening, lockV, dimension_ev S, c1, o, headV]
    exact finish_same (below_tI' _ _)
  | nil =>
    rw [e] at c1
    by_cases d0 : dm s = 0
    · obtain ⟨x, r, es⟩ := List.exists_cons_of_ne_nil S.e
      have o : opn s = x :: r := by unfold opn; rw [if_neg (by simp [e]), if_pos d0, es]
      rw [d0] at c1
      simp -implicitDefEqProofs [s_opening, runFn, if_opening, lockV, dimension_ev S, c1, d0, eq_int, o, headV]
      rw [es]
      simp -implicitDefEqProofs
      exact finish_same (below_tI' _ _)
    · have P := pur_of S e d0
      have hb := Lv_small S (dm s + 1).toNat
      have o : opn s = (Lv s (dm s + 1).toNat).filter fun x => decide ((ar s x).length ≠ 2) := by unfold opn; rw [if_neg (by simp [e]), if_neg d0]
      have c2 : compGo (fun _ => true) (tgSet (.tp [.nm 5, .nm 6])) (dIfs [s_dimension, s_around] (.cons (.cmp .ne (.blt .len (.cons (.var 6) .nil)) (.cst (.int 2))) .nil)) (dE [s_dimension, s_around] (.var 5)) [some (.tup (s.map tI)), some (.int (dm s)), some (.lst []), none, none, none, none] ((Lv s (dm s + 1).toNat).map (arE s)) h [] = .ok ((opn s).map tI) h := by
        rw [o]
        exact comp_enc (enc := arE s) (fun x : Fc => decide ((ar s x).length ≠ 2)) tI rfl _ _ (fun x hx => ⟨_, by simp; rfl, by
          simp [eq_int, rows_len]
          omega, fun _ => by simp⟩) (by simp [LIM]; omega)
      simp -implicitDefEqProofs [s_opening, runFn, if_opening, lockV, dimension_ev S, c1, d0, eq_int, around_ev P, ar_sorted hb, c2, tru_faces]
      cases opn s with
      | nil =>
        simp -implicitDefEqProofs [headV]
        exact finish_same (v := .non) rfl
      | cons x r =>
        simp -implicitDefEqProofs [headV]
        exact finish_same (below_tI' _ _)
end
end K13
namespace K13
open PySem HW
/-! steps from face to face *)-/
section
variable {h : PHeap}
@[simp] theorem x_ttl {ts : List Tg} {xs : List PV} {env : HW.Env} : tgSet (.tp ts) (.lst xs) env = if xs.length = ts.length then tgSets ts xs env else none := by rw [tgSet]
abbrev encT (p : Fc × Bool) : PV := .tup [tI p.1, .bl p.2]
def stF (s : List Fc) (D : List Fc) (f : Fc) : List PV := (D.flatMap fun x => pairO (rows s x) f).map encT
theorem pairO_len (R : Tb) (f : Fc) : (pairO R f).length ≤ 2 := by
  unfold pairO
  split
  · rw [List.length_append]
    split <;> split <;> simp
  · simp
theorem stF_len (s : List Fc) (f : Fc) : ∀ D : List Fc, (stF s D f).length ≤ D.length * 2
  | [] => by simp [stF]
  | x :: D => by
    have h1 := stF_len s f D
    have h2 := pairO_len (rows s x) f
    unfold stF at h1 ⊢
    rw [List.length_map] at h1 ⊢
    rw [List.flatMap_cons, List.length_append, List.length_cons]
    omega
theorem stF_step {s : List Fc} {D : List Fc} {x a b : Fc} {σ τ : Int} (hr : rows s x = [(a, σ), (b, τ)]) (hab : a ≠ b) :
    updF (updF (stF s D) a (encT (b, decide (σ = τ)))) b (encT (a, decide (σ = τ))) = stF s (D ++ [x]) := by
  funext f
  unfold updF stF
  rw [List.flatMap_append, List.flatMap_singleton, hr]
  simp only [pairO, List.map_append]
  by_cases q : b = f
  · subst q
    simp [hab, Ne.symm hab]
  · have q' : f ≠ b := fun e => q e.symm
    by_cases r : a = f
    · subst r
      simp [q, q']
    · have r' : f ≠ a := fun e => r e.symm
      simp [q, q', r, r']
abbrev sbody : ISs := .cons (.expr (.meth .lapp (.sub (.var 1) (.var 4)) (.cons (.tup (.cons (.var 6) (.cons (.cmp .eq (.var 5) (.var 7)) .nil))) .nil))) (.cons (.expr (.meth .lapp (.sub (.var 1) (.var 6)) (.cons (.tup (.cons (.var 4) (.cons (.cmp .eq (.var 5) (.var 7)) .nil))) .nil))) .nil)
theorem steps_loop {ctx : List Sem} {s : List Fc} {n : Nat} (P : Pur s n) (T : Two s n) {v : PV} {e3 e8 : Option PV} :
    ∃ a b c d e, forGo (fun _ => true) (tgSet (.tp [.nm 2, .tp [.tp [.nm 4, .nm 5], .tp [.nm 6, .nm 7]]])) (dSs ctx sbody) ((Lv s n).map (arE s)) [some v, some (.ref (h.length + s.length)), none, e3, none, none, none, none, e8] (TL h s (stF s [])) =
      .ok (.nx [some v, some (.ref (h.length + s.length)), a, e3, b, c, d, e, e8]) (TL h s (stF s (Lv s n))) := by
  have hb := Lv_small P.sh n
  obtain ⟨e, g, q, rfl, ⟨a, b, c, d, e', rfl⟩, _⟩ := for_inv (enc := arE s) (chk := fun _ => true) (tg := tgSet (.tp [.nm 2, .tp [.tp [.nm 4, .nm 5], .tp [.nm 6, .nm 7]]])) (body := dSs ctx sbody)
    (step := fun (D : List Fc) x => D ++ [x]) (I := fun ts D env g => g = TL h s (stF s D) ∧ (∃ a b c d e, env = [some v, some (.ref (h.length + s.length)), a, e3, b, c, d, e, e8]) ∧ D.length + ts.length ≤ 262144 ∧ ∀ x ∈ ts, x ∈ Lv s n)
    (fun _ _ _ _ _ => rfl) (by
      rintro x ts D env g ⟨rfl, ⟨c1, c2, c3, c4, c5, rfl⟩, h1, h2⟩
      have hx := h2 x List.mem_cons_self
      obtain ⟨a, b, e1, e2⟩ := T.rws hx
      have hab : a ≠ b := by
        have := P.nd.filter (wit x)
        rw [show s.filter (wit x) = [a, b] from e1] at this
        simpa using this
      have ha := ((P.mem_ar hx (f := a)).mp (by rw [e1]; simp)).1
      have hb' := ((P.mem_ar hx (f := b)).mp (by rw [e1]; simp)).1
      obtain ⟨i, hi⟩ := List.mem_iff_getElem?.mp ha
      obtain ⟨j, hj⟩ := List.mem_iff_getElem?.mp hb'
      simp only [List.length_cons] at h1
      have l1 : (stF s D a).length < LIM := by
        have := stF_len s a D
        simp [LIM]
        omega
      have l2 : (updF (stF s D) a (encT (b, decide (sg a x = sg b x))) b).length < LIM := by
        have := stF_len s b D
        unfold updF
        split <;> simp [LIM] <;> omega
      have g1 := tl_get (h := h) (F := stF s D) P.nd hi
      have g2 := tl_app (h := h) (F := stF s D) P.nd hi l1 (v := encT (b, decide (sg a x = sg b x))) (d := .dct (kd s h.length))
      have g3 := tl_get (h := h) (F := updF (stF s D) a (encT (b, decide (sg a x = sg b x)))) P.nd hj
      have g4 := tl_app (h := h) (F := updF (stF s D) a (encT (b, decide (sg a x = sg b x)))) P.nd hj l2 (v := encT (a, decide (sg a x = sg b x))) (d := .dct (kd s h.length))
      rw [stF_step e2 hab] at g4
      have ac : accR s x = [cp (a, sg a x), cp (b, sg b x)] := by unfold accR; rw [e2]; rfl
      refine ⟨[some v, some (.ref (h.length + s.length)), some (tI x), e3, some (tI a), some (.int (sg a x)), some (tI b), some (.int (sg b x)), e8], by simp [arE, ac, cp], [some v, some (.ref (h.length + s.length)), some (tI x), e3, some (tI a), some (.int (sg a x)), some (tI b), some (.int (sg b x)), e8], TL h s (stF s (D ++ [x])), ?_, rfl, ⟨_, _, _, _, _, rfl⟩, by simp at h1 ⊢; omega, fun q hq => h2 q (List.mem_cons_of_mem _ hq)⟩
      simp only [List.append_assoc] at g1 g2 g3 g4
      simp [eq_int, g1, g2, g3, g4]) (Lv s n) [] [some v, some (.ref (h.length + s.length)), none, e3, none, none, none, none, e8] (TL h s (stF s [])) ⟨rfl, ⟨_, _, _, _, _, rfl⟩, by simpa using hb, fun f hf => hf⟩
  have fo : ∀ (T D : List Fc), T.foldl (fun D p => D ++ [p]) D = D ++ T := by
    intro T
    induction T with
    | nil => intro D; simp
    | cons p T ih => intro D; rw [List.foldl_cons, ih]; simp
  rw [fo, List.nil_append] at q
  exact ⟨a, b, c, d, e', q⟩
abbrev nrO (s : List Fc) (x : Fc) : PV × PV := (tI x, .lst ((nb s x).map encT))
def nrD (s : List Fc) : List (PV × PV) := s.map (nrO s)
theorem encT_toD (p : Fc × Bool) : toD (encT p) = some (.tuple (.tuple (p.1.map .int) :: [.bool p.2])) := by
  rw [encT, toD, toDs, toDs, toDs, toD_tI]
  rfl
theorem rows_made {ctx : List Sem} {s : List Fc} {n : Nat} (P : Pur s n) (T : Two s n) {env : HW.Env} (he : env.length = 9) : ∀ (B A : List Fc), s = A ++ B →
    dcompGo (fun g => decide (g[h.length + s.length]? = some (.dctL (kd s h.length)))) (tgSet (.tp [.nm 3, .nm 8])) (dIfs ctx .nil) (dE ctx (.var 3)) (dE ctx (.conv .sorted false (.var 8))) env ((kd B (h.length + A.length)).map fun e => .tup [e.1, e.2]) (h ++ cells s (stF s (Lv s n)) ++ [.dctL (kd s h.length)]) (A.map (nrO s)) = .ok (nrD s) (h ++ cells s (stF s (Lv s n)) ++ [.dctL (kd s h.length)])
  | [], A, e => by
    have c : (h ++ (cells s (stF s (Lv s n)) ++ [Cell.dctL (kd s h.length)]))[h.length + s.length]? = some (.dctL (kd s h.length)) := by
      rw [← List.append_assoc, List.getElem?_append_right (by simp [cells_len])]
      simp [cells_len]
    simp [kd, dcompGo, c, nrD]
    rw [e]
    simp
  | x :: B, A, e => by
    have hx : s[A.length]? = some x := by rw [e]; simp
    have hs := List.mem_of_getElem? hx
    have ih := rows_made (ctx := ctx) P T he B (A ++ [x]) (by rw [e]; simp)
    rw [List.length_append, List.length_singleton, ← Nat.add_assoc] at ih
    have c : (h ++ (cells s (stF s (Lv s n)) ++ [Cell.dctL (kd s h.length)]))[h.length + s.length]? = some (.dctL (kd s h.length)) := by
      rw [← List.append_assoc, List.getElem?_append_right (by simp [cells_len])]
      simp [cells_len]
    have c2 := tl_c (h := h) (F := stF s (Lv s n)) hx (d := .dctL (kd s h.length))
    rw [List.append_assoc] at c2
    have so := sortOk_key encT (·.1) (fun p => [.bool p.2]) encT_toD (fun a b => by simp [PySem.W.alikeAll, PySem.W.alike]) (fun a => by simp [PyData.depthAll, PyData.depth]) (raw s n x)
    have sv := sortV_key encT (·.1) (fun p => [.bool p.2]) (fun p => dOf_of (encT_toD p)) (raw_perm P T hs) (nb_lt P.sh.srt x)
    have e1 : stF s (Lv s n) x = (raw s n x).map encT := rfl
    have sr : convop .sorted false (.ref (h.length + A.length)) (h ++ (cells s (stF s (Lv s n)) ++ [Cell.dctL (kd s h.length)])) = .ok (.lst ((nb s x).map encT)) (h ++ (cells s (stF s (Lv s n)) ++ [Cell.dctL (kd s h.length)])) := by
      simp only [convop, anySrc, srcOf, c2, e1, Option.map_some, R.of_some, R.bind_ok, so, sv, if_true, x_mkf]
    have ko : keyOk (A.map (nrO s)) (tI x) = true := keyOk_tI (fun e he => by
      obtain ⟨y, _, rfl⟩ := List.mem_map.mp he
      exact ⟨y, rfl⟩) x
    have lA : A.length < LIM := by
      have := P.sh.n
      rw [e] at this
      simp at this
      simp [LIM]
      omega
    have put : dPut (A.map (nrO s)) (tI x) (.lst ((nb s x).map encT)) = (A ++ [x]).map (nrO s) := by
      unfold dPut
      rw [if_neg]
      · rw [List.map_append]
        rfl
      · intro c
        obtain ⟨y, hy, e'⟩ := List.any_eq_true.mp c
        obtain ⟨z, hz, rfl⟩ := List.mem_map.mp hy
        have : z = x := tI_inj (of_decide_eq_true e')
        subst this
        have := P.nd
        rw [e, List.nodup_append] at this
        exact this.2.2 z hz z (by simp) rfl
    simp only [List.append_assoc] at ih ⊢
    rw [kd, List.map_cons, dcompGo]
    simp only [c, decide_true, if_true]
    simp [he, sr, ko, lA, put]
    simpa using ih
theorem lock_tl {α : Type} {s : List Fc} {F : Fc → List PV} {f : PHeap → R α} {r : α} (hf : f (h ++ cells s F ++ [.dctL (kd s h.length)]) = .ok r (h ++ cells s F ++ [.dctL (kd s h.length)])) : withLock (some (h.length + s.length)) f (TL h s F) = .ok r (TL h s F) := by
  unfold withLock
  simp only [tl_d]
  have st : ∀ c d : Cell, (h ++ cells s F ++ [c]).set (h.length + s.length) d = h ++ cells s F ++ [d] := fun c d => by
    rw [List.set_append_right _ _ (by simp [cells_len])]
    simp [cells_len]
  have g : (h ++ cells s F ++ [.dctL (kd s h.length)])[h.length + s.length]? = some (.dctL (kd s h.length)) := by
    rw [List.getElem?_append_right (by simp [cells_len])]
    simp [cells_len]
  rw [st, hf, R.bind_ok, if_pos g, st]
@[simp] theorem x_dsf {es : List (PV × PV)} : dictSrc h (.dct es) = some (es, fun _ => true) := rfl
theorem steps_ret {ctx : List Sem} {s : List Fc} {n : Nat} (P : Pur s n) (T : Two s n) {v : PV} {a b c d e : Option PV} :
    dE ctx (.dcomp false [3, 8] (.tp [(.nm 3), (.nm 8)]) (.items (.var 1)) .nil (.var 3) (.conv .sorted false (.var 8))) [some v, some (.ref (h.length + s.length)), a, none, b, c, d, e, none] (TL h s (stF s (Lv s n))) = .ok (.dct (nrD s)) (TL h s (stF s (Lv s n))) := by
  have lk : lockI (.items (.var 1)) [some v, some (.ref (h.length + s.length)), a, none, b, c, d, e, none] (TL h s (stF s (Lv s n))) = some (h.length + s.length) := by
    simp only [x_lki, lockV, List.getElem?_cons_succ, List.getElem?_cons_zero, tl_d]
  have g : (h ++ cells s (stF s (Lv s n)) ++ [.dctL (kd s h.length)])[h.length + s.length]? = some (.dctL (kd s h.length)) := by
    rw [List.getElem?_append_right (by simp [cells_len])]
    simp [cells_len]
  have rm := rows_made (ctx := ctx) (h := h) P T (env := [some v, some (.ref (h.length + s.length)), a, none, b, c, d, e, none]) rfl s [] rfl
  simp only [List.length_nil, Nat.add_zero, List.map_nil] at rm
  rw [dE, lk]
  refine lock_tl ?_
  have ds : dictSrc (h ++ cells s (stF s (Lv s n)) ++ [.dctL (kd s h.length)]) (.ref (h.length + s.length)) = some (kd s h.length, fun g => decide (g[h.length + s.length]? = some (.dctL (kd s h.length)))) := by
    simp only [dictSrc, g]
  simp only [x_items, x_var, List.getElem?_cons_succ, List.getElem?_cons_zero, R.bind_ok, ds, R.of_some, x_w, x_w0, List.set_cons_succ, List.set_cons_zero, rm, x_mdf]
theorem steps_ev {s : List Fc} {n : Nat} (P : Pur s n) (T : Two s n) : s_steps_of [.tup (s.map tI)] h = .ok (.dct (nrD s)) h := by
  have mk := tl_make (h := h) (ctx := [s_around]) (env := [some (.tup (s.map tI)), none, none, none, none, none, none, none, none]) (j := 3) (by simp) s [] (by simpa using P.nd) (by have := P.sh.n; simp [LIM]; omega)
  simp only [List.nil_append, kd, cells, List.map_nil, List.append_nil] at mk
  obtain ⟨a, b, c, d, e, q⟩ := steps_loop (h := h) (ctx := [s_around]) P T (v := .tup (s.map tI)) (e3 := none) (e8 := none)
  have it : (arD s n).map (fun e => PV.tup [e.1, e.2]) = (Lv s n).map (arE s) := by
    unfold arD
    rw [List.map_map]
    rfl
  have lk0 : ∀ {env : HW.Env}, lockV 0 (some (.tup (s.map tI)) :: env) h = none := fun {env} => rfl
  have D1 : dE [s_around] (.dcomp true [3] (.nm 3) (.ex (.var 0)) .nil (.var 3) (.lst true .nil)) [some (.tup (s.map tI)), none, none, none, none, none, none, none, none] h = .ok (.ref (h.length + s.length)) (TL h s (stF s [])) := by
    simp -implicitDefEqProofs [lk0, mk]
    rfl
  simp -implicitDefEqProofs [s_steps_of, runFn, if_steps_of, D1, around_ev P, it, -x_dcomp]
  rw [← List.append_assoc, q]
  simp only [R.bind_ok, steps_ret P T]
  show HW.finish false h (.dct (nrD s)) (TL h s (stF s (Lv s n))) = _
  rw [TL, List.append_assoc]
  refine finish_ext ?_
  rw [below]
  unfold nrD
  have : ∀ l : List Fc, belowp h.length (l.map (nrO s)) = true := by
    intro l
    induction l with
    | nil => rfl
    | cons x l ih =>
      rw [List.map_cons, belowp, ih, below_tI', Bool.and_true, Bool.true_and, below]
      refine belows_all fun v hv => ?_
      obtain ⟨p, _, rfl⟩ := List.mem_map.mp hv
      rw [encT, below, belows, below_tI']
      rfl
  exact this s
end
end K13
namespace K13
open PySem HW
/-! the program's paper *)-/
section
variable {h G : PHeap} {A B : List (PV × PV)} {O : List PV}
def sgD (S : List Node) : List (PV × PV) := S.map fun n => (tI n.1, .int n.2.1)
def wyD (S : List Node) : List (PV × PV) := S.map fun n => (tI n.1, .tup (n.2.2.map tI))
theorem find_map (v : Node → PV) (x : Fc) : ∀ S : List Node, dFind (S.map fun n => (tI n.1, v n)) (tI x) = (fnd S x).map v
  | [] => rfl
  | n :: S => by
    have ih := find_map v x S
    unfold dFind fnd at ih ⊢
    by_cases q : n.1 = x
    · simp [q]
    · have q' : tI n.1 ≠ tI x := fun e => q (tI_inj e)
      rw [List.map_cons, List.find?_cons_of_neg (by simpa using q'), List.find?_cons_of_neg (by simpa using q), ih]
theorem any_map' (v : Node → PV) (x : Fc) (S : List Node) : (S.map fun n => (tI n.1, v n)).any (fun e => decide (e.1 = tI x)) = (fnd S x).isSome := by
  unfold fnd
  rw [List.any_map, Bool.eq_iff_iff, List.find?_isSome, List.any_eq_true]
  simp only [Function.comp, tI_iff]
theorem keys_map (v : Node → PV) (S : List Node) : ∀ e ∈ S.map (fun n => (tI n.1, v n)), ∃ f, e.1 = tI f := fun e he => by
  obtain ⟨n, _, rfl⟩ := List.mem_map.mp he
  exact ⟨n.1, rfl⟩
abbrev N2 (h : PHeap) (A B : List (PV × PV)) (T : PHeap) : PHeap := h ++ Cell.dct A :: Cell.dct B :: T
theorem n2_a {T : PHeap} : (N2 h A B T)[h.length]? = some (.dct A) := by
  rw [List.getElem?_append_right (Nat.le_refl _)]
  simp
theorem n2_b {T : PHeap} : (N2 h A B T)[h.length + 1]? = some (.dct B) := by
  rw [List.getElem?_append_right (by omega)]
  simp
theorem n2_o : (N2 h A B (G ++ [.lst O]))[h.length + (G.length + 1 + 1)]? = some (.lst O) := by
  rw [List.getElem?_append_right (by omega), show h.length + (G.length + 1 + 1) - h.length = G.length + 1 + 1 by omega]
  simp
theorem n_get {S : List Node} {x : Fc} {n : Node} (hf : fnd S x = some n) {T : PHeap} : itemOf (N2 h (sgD S) B T) (.ref h.length) (tI x) = some (.int n.2.1) := by
  unfold itemOf asDict
  simp only [n2_a]
  unfold sgD
  rw [if_pos (keyOk_tI (keys_map _ S) _), find_map, hf]
  rfl
theorem n_way {S : List Node} {x : Fc} {n : Node} (hf : fnd S x = some n) {T : PHeap} : itemOf (N2 h A (wyD S) T) (.ref (h.length + 1)) (tI x) = some (.tup (n.2.2.map tI)) := by
  unfold itemOf asDict
  simp only [n2_b]
  unfold wyD
  rw [if_pos (keyOk_tI (keys_map _ S) _), find_map, hf]
  rfl
theorem n_in (S : List Node) (x : Fc) {T : PHeap} : isIn (N2 h (sgD S) B T) (tI x) (.ref h.length) = some (fnd S x).isSome := by
  unfold isIn asDict
  simp only [n2_a]
  unfold sgD
  rw [if_pos (keyOk_tI (keys_map _ S) _), any_map']
theorem put_map (v : Node → PV) {S : List Node} {n : Node} (hf : fnd S n.1 = none) : dPut (S.map fun n => (tI n.1, v n)) (tI n.1) (v n) = (S ++ [n]).map fun n => (tI n.1, v n) := by
  unfold dPut
  rw [any_map', hf]
  simp
theorem n_put1 {S : List Node} {n : Node} (hf : fnd S n.1 = none) (hl : S.length < LIM) {T : PHeap} : putItem (N2 h (sgD S) B T) (.ref h.length) (tI n.1) (.int n.2.1) = some (N2 h (sgD (S ++ [n])) B T) := by
  unfold putItem
  simp only [n2_a]
  rw [if_pos (by rw [Bool.and_eq_true, decide_eq_true_eq]; exact ⟨keyOk_tI (keys_map _ S) _, by simpa [sgD] using hl⟩), sgD, put_map _ hf, List.set_append_right _ _ (Nat.le_refl _)]
  simp [sgD]
theorem n_put2 {S : List Node} {n : Node} (hf : fnd S n.1 = none) (hl : S.length < LIM) {T : PHeap} : putItem (N2 h A (wyD S) T) (.ref (h.length + 1)) (tI n.1) (.tup (n.2.2.map tI)) = some (N2 h A (wyD (S ++ [n])) T) := by
  unfold putItem
  simp only [n2_b]
  rw [if_pos (by rw [Bool.and_eq_true, decide_eq_true_eq]; exact ⟨keyOk_tI (keys_map _ S) _, by simpa [wyD] using hl⟩), wyD, put_map _ hf, List.set_append_right _ _ (by omega), show h.length + 1 - h.length = 1 by omega]
  simp [wyD]
theorem n_app (hl : O.length < LIM) {v : PV} : recv .lapp (N2 h A B (G ++ [.lst O])) (.ref (h.length + (G.length + 1 + 1))) = true ∧ methop .lapp (.ref (h.length + (G.length + 1 + 1))) [v] (N2 h A B (G ++ [.lst O])) = .ok .non (N2 h A B (G ++ [.lst (O ++ [v])])) := by
  constructor
  · unfold recv asList
    simp only [n2_o]
    rfl
  · unfold methop mApp
    simp only [n2_o]
    rw [if_pos hl, List.set_append_right _ _ (by omega), show h.length + (G.length + 1 + 1) - h.length = G.length + 1 + 1 by omega]
    simp
theorem n_len : bltop .len [.ref (h.length + (G.length + 1 + 1))] (N2 h A B (G ++ [.lst O])) = some (.int O.length) := by
  unfold bltop bLen asSeq asList
  simp only [n2_o]
theorem n_at {a : Nat} {v : PV} (ha : O[a]? = some v) : itemOf (N2 h A B (G ++ [.lst O])) (.ref (h.length + (G.length + 1 + 1))) (.int a) = some v := by
  unfold itemOf asDict
  simp only [n2_o, asSeq, asList]
  exact L2.atI_nat ha
theorem near_at {s : List Fc} {x : Fc} (hx : x ∈ s) {g : PHeap} : itemOf g (.dct (nrD s)) (tI x) = some (.lst ((nb s x).map encT)) := by
  have hk : ∀ e ∈ nrD s, ∃ f, e.1 = tI f := fun e he => by
    obtain ⟨y, _, rfl⟩ := List.mem_map.mp he
    exact ⟨y, rfl⟩
  have hf : ∀ l : List Fc, x ∈ l → dFind (l.map (nrO s)) (tI x) = some (.lst ((nb s x).map encT)) := by
    intro l
    induction l with
    | nil => intro h; simp at h
    | cons y l ih =>
      intro h
      unfold dFind at ih ⊢
      by_cases q : y = x
      · subst q
        simp
      · have q' : tI y ≠ tI x := fun e => q (tI_inj e)
        rw [List.map_cons, List.find?_cons_of_neg (by simpa using q')]
        exact ih ((List.mem_cons.mp h).resolve_left fun e => q e.symm)
  show (if keyOk (nrD s) (tI x) then dFind (nrD s) (tI x) else none) = _
  rw [if_pos (keyOk_tI hk x)]
  exact hf s hx
/-- what stands while it runs *)-/
structure WS (s : List Fc) (S : List Node) : Prop where
  nd : (kys S).Nodup
  mem : ∀ n ∈ S, n.1 ∈ s
  len : ∀ n ∈ S, n.2.2.length ≤ S.length
theorem WS.few {s : List Fc} {S : List Node} (w : WS s S) : S.length ≤ s.length := by
  have := nodup_lenF w.nd fun x hx => by
    obtain ⟨m, hm, rfl⟩ := List.mem_map.mp hx
    exact w.mem m hm
  simpa [kys] using this
theorem WS.add {s : List Fc} {S : List Node} (w : WS s S) {n : Node} (hf : fnd S n.1 = none) (hs : n.1 ∈ s) (hl : n.2.2.length ≤ S.length + 1) : WS s (S ++ [n]) := by
  refine ⟨?_, fun m hm => ?_, fun m hm => ?_⟩
  · unfold kys
    rw [List.map_append, List.nodup_append]
    refine ⟨w.nd, by simp, fun a ha b hb e => ?_⟩
    simp at hb
    subst hb e
    exact fnd_none.mp hf ha
  · rcases List.mem_append.mp hm with h | h
    · exact w.mem m h
    · rw [List.mem_singleton.mp h]; exact hs
  · rcases List.mem_append.mp hm with h | h
    · have := w.len m h
      simp
      omega
    · rw [List.mem_singleton.mp h]
      simpa using hl
theorem fnd_app {S : List Node} {x : Fc} {n : Node} (h : fnd S x = some n) (E : List Node) : fnd (S ++ E) x = some n := by
  unfold fnd at h ⊢
  rw [List.find?_append, h]
  rfl
theorem fnd_at {S : List Node} (hn : (kys S).Nodup) {i : Nat} {n : Node} (hi : S[i]? = some n) : fnd S n.1 = some n := by
  have hm := List.mem_of_getElem? hi
  cases h : fnd S n.1 with
  | none => exact absurd (List.mem_map.mpr ⟨n, hm, rfl⟩) (fnd_none.mp h)
  | some m =>
    obtain ⟨h1, h2⟩ := fnd_some h
    obtain ⟨j, hj⟩ := List.mem_iff_getElem?.mp h1
    have := key_ix hn hi hj h2.symm
    subst this
    rw [hi] at hj
    exact hj.symm
abbrev turnedV (r : List Fc) : PV := .tup [.str (Str.ofString "turned"), .tup (r.map tI)]
abbrev vbody : ISs := .cons (.asg (.tg (.nm 11)) (.ife (.var 10) (.neg (.sub (.var 3) (.var 8))) (.sub (.var 3) (.var 8)))) (.cons (.ifs (.cmp .notin (.var 9) (.var 3)) (.cons (.par [(.sub (.var 3) (.var 9)), (.sub (.var 4) (.var 9))] (.cons (.var 11) (.cons (.bin .add (.sub (.var 4) (.var 8)) (.tup (.cons (.var 9) .nil))) .nil))) (.cons (.expr (.meth .lapp (.var 6) (.cons (.var 9) .nil))) .nil)) (.cons (.ifs (.cmp .ne (.sub (.var 3) (.var 9)) (.var 11)) (.cons (.ret (.tup (.cons (.cst (.str (Str.ofString "turned"))) (.cons (.bin .add (.sub (.var 4) (.var 8)) (.rev (.sub (.var 4) (.var 9)) (.neg (.cst (.int 1))))) .nil)))) .nil) .nil) .nil)) .nil)
abbrev vEnv (sh nr : PV) (h G : PHeap) (e1 e5 e7 : Option PV) (x : Fc) (a b c : Option PV) : HW.Env := [some sh, e1, some nr, some (.ref h.length), some (.ref (h.length + 1)), e5, some (.ref (h.length + (G.length + 1 + 1))), e7, some (tI x), a, b, c]
theorem visit_ev {ctx : List Sem} {s : List Fc} (hs : s.length ≤ 1000) {sh nr : PV} {e1 e5 e7 : Option PV} {n : Node} : ∀ (L : List (Fc × Bool)) (S : List Node) (O : List PV) (a b c : Option PV), WS s S → (∀ p ∈ L, p.1 ∈ s) → O.length ≤ S.length → fnd S n.1 = some n →
    match vis n.2.1 n.2.2 L S with
    | .ok S' => ∃ a' b' c' E, S' = S ++ E ∧ WS s S' ∧ forGo (fun _ => true) (tgSet (.tp [.nm 9, .nm 10])) (dSs ctx vbody) (L.map encT) (vEnv sh nr h G e1 e5 e7 n.1 a b c) (N2 h (sgD S) (wyD S) (G ++ [.lst O])) = .ok (.nx (vEnv sh nr h G e1 e5 e7 n.1 a' b' c')) (N2 h (sgD S') (wyD S') (G ++ [.lst (O ++ E.map fun n => tI n.1)]))
    | .error r => ∃ t, forGo (fun _ => true) (tgSet (.tp [.nm 9, .nm 10])) (dSs ctx vbody) (L.map encT) (vEnv sh nr h G e1 e5 e7 n.1 a b c) (N2 h (sgD S) (wyD S) (G ++ [.lst O])) = .ok (.rt (turnedV r)) (h ++ t)
  | [], S, O, a, b, c, w, _, _, _ => by
    rw [vis]
    exact ⟨a, b, c, [], by simp, w, by simp [forGo]⟩
  | p :: L, S, O, a, b, c, w, hL, hO, hf => by
    have few := w.few
    have hn := fnd_some hf
    have ln := w.len n hn.1
    have lm : S.length < LIM := by simp [LIM]; omega
    have g1 := n_get (h := h) (B := wyD S) hf (T := G ++ [.lst O])
    have g2 := n_way (h := h) (A := sgD S) hf (T := G ++ [.lst O])
    have g3 := n_in (h := h) (B := wyD S) S p.1 (T := G ++ [.lst O])
    have et : tgSet (.tp [.nm 9, .nm 10]) (encT p) (vEnv sh nr h G e1 e5 e7 n.1 a b c) = some (vEnv sh nr h G e1 e5 e7 n.1 (some (tI p.1)) (some (.bl p.2)) c) := by simp
    have sgn : dS ctx (.asg (.tg (.nm 11)) (.ife (.var 10) (.neg (.sub (.var 3) (.var 8))) (.sub (.var 3) (.var 8)))) (vEnv sh nr h G e1 e5 e7 n.1 (some (tI p.1)) (some (.bl p.2)) c) (N2 h (sgD S) (wyD S) (G ++ [.lst O])) = .ok (.nx (vEnv sh nr h G e1 e5 e7 n.1 (some (tI p.1)) (some (.bl p.2)) (some (.int (sgt n.2.1 p.2))))) (N2 h (sgD S) (wyD S) (G ++ [.lst O])) := by
      cases q : p.2 <;> simp [g1, sgt]
    rw [vis]
    cases hp : fnd S p.1 with
    | none =>
      rw [hp] at g3
      dsimp only
      have w' := w.add (n := (p.1, sgt n.2.1 p.2, n.2.2 ++ [p.1])) hp (hL p List.mem_cons_self) (by simp; omega)
      have g4 := n_put1 (h := h) (B := wyD S) (n := (p.1, sgt n.2.1 p.2, n.2.2 ++ [p.1])) hp lm (T := G ++ [.lst O])
      have g5 := n_put2 (h := h) (A := sgD (S ++ [(p.1, sgt n.2.1 p.2, n.2.2 ++ [p.1])])) (n := (p.1, sgt n.2.1 p.2, n.2.2 ++ [p.1])) hp lm (T := G ++ [.lst O])
      have g6 := n_app (h := h) (G := G) (A := sgD (S ++ [(p.1, sgt n.2.1 p.2, n.2.2 ++ [p.1])])) (B := wyD (S ++ [(p.1, sgt n.2.1 p.2, n.2.2 ++ [p.1])])) (O := O) (by omega) (v := tI p.1)
      have g7 : binop .add (.tup (n.2.2.map tI)) (.tup [tI p.1]) (N2 h (sgD S) (wyD S) (G ++ [.lst O])) = some (.tup ((n.2.2 ++ [p.1]).map tI)) := by
        rw [x_addt (by simp [LIM]; omega), List.map_append]
        rfl
      dsimp only at g4 g5
      have body : dSs ctx vbody (vEnv sh nr h G e1 e5 e7 n.1 (some (tI p.1)) (some (.bl p.2)) c) (N2 h (sgD S) (wyD S) (G ++ [.lst O])) = .ok (.nx (vEnv sh nr h G e1 e5 e7 n.1 (some (tI p.1)) (some (.bl p.2)) (some (.int (sgt n.2.1 p.2))))) (N2 h (sgD (S ++ [(p.1, sgt n.2.1 p.2, n.2.2 ++ [p.1])])) (wyD (S ++ [(p.1, sgt n.2.1 p.2, n.2.2 ++ [p.1])])) (G ++ [.lst (O ++ [tI p.1])])) := by
        rw [vbody, x_scons, sgn]
        simp only [R.bind_ok, x_scons, x_ifs, x_T, x_cmp, x_var, List.getElem?_cons_succ, List.getElem?_cons_zero, cmpop, g3, Option.isSome_none, Option.map_some, Bool.not_false, R.of_some, x_trb, if_true, x_par, x_cons, x_nil, x_sub, g2, x_tup, x_bin, g7, x_tgs, x_tgs0, x_tsub, g4, g5, x_expr, x_meth, g6.1, g6.2, x_snil]
      have ih := visit_ev (ctx := ctx) hs (sh := sh) (nr := nr) (e1 := e1) (e5 := e5) (e7 := e7) (n := n) L (S ++ [(p.1, sgt n.2.1 p.2, n.2.2 ++ [p.1])]) (O ++ [tI p.1]) (some (tI p.1)) (some (.bl p.2)) (some (.int (sgt n.2.1 p.2))) w' (fun q hq => hL q (List.mem_cons_of_mem _ hq)) (by simp; omega) (fnd_app hf _)
      revert ih
      cases vis n.2.1 n.2.2 L (S ++ [(p.1, sgt n.2.1 p.2, n.2.2 ++ [p.1])]) with
      | ok S' =>
        rintro ⟨a', b', c', E, h1, h2, h3⟩
        refine ⟨a', b', c', (p.1, sgt n.2.1 p.2, n.2.2 ++ [p.1]) :: E, by rw [h1]; simp, h2, ?_⟩
        rw [List.map_cons, forGo, if_pos rfl, et]
        dsimp only
        rw [body]
        dsimp only [R.bind_ok]
        rw [h3]
        simp
      | error r =>
        rintro ⟨t, h3⟩
        refine ⟨t, ?_⟩
        rw [List.map_cons, forGo, if_pos rfl, et]
        dsimp only
        rw [body]
        dsimp only [R.bind_ok]
        rw [h3]
    | some m =>
      rw [hp] at g3
      dsimp only
      have g8 := n_get (h := h) (B := wyD S) hp (T := G ++ [.lst O])
      have g9 := n_way (h := h) (A := sgD S) hp (T := G ++ [.lst O])
      have lm' := w.len m (fnd_some hp).1
      by_cases e : m.2.1 = sgt n.2.1 p.2
      · rw [if_pos e]
        have body : dSs ctx vbody (vEnv sh nr h G e1 e5 e7 n.1 (some (tI p.1)) (some (.bl p.2)) c) (N2 h (sgD S) (wyD S) (G ++ [.lst O])) = .ok (.nx (vEnv sh nr h G e1 e5 e7 n.1 (some (tI p.1)) (some (.bl p.2)) (some (.int (sgt n.2.1 p.2))))) (N2 h (sgD S) (wyD S) (G ++ [.lst O])) := by
          rw [vbody, x_scons, sgn]
          simp only [R.bind_ok, x_scons, x_ifs, x_T, x_cmp, x_var, List.getElem?_cons_succ, List.getElem?_cons_zero, cmpop, g3, Option.isSome_some, Option.map_some, Bool.not_true, R.of_some, x_trb, Bool.false_eq_true, if_false, x_sub, g8, eq_int, e, decide_true, x_snil]
        have ih := visit_ev (ctx := ctx) hs (sh := sh) (nr := nr) (e1 := e1) (e5 := e5) (e7 := e7) (n := n) L S O (some (tI p.1)) (some (.bl p.2)) (some (.int (sgt n.2.1 p.2))) w (fun q hq => hL q (List.mem_cons_of_mem _ hq)) hO hf
        revert ih
        cases vis n.2.1 n.2.2 L S with
        | ok S' =>
          rintro ⟨a', b', c', E, h1, h2, h3⟩
          refine ⟨a', b', c', E, h1, h2, ?_⟩
          rw [List.map_cons, forGo, if_pos rfl, et]
          dsimp only
          rw [body]
          dsimp only [R.bind_ok]
          rw [h3]
        | error r =>
          rintro ⟨t, h3⟩
          refine ⟨t, ?_⟩
          rw [List.map_cons, forGo, if_pos rfl, et]
          dsimp only
          rw [body]
          dsimp only [R.bind_ok]
          rw [h3]
      · rw [if_neg e]
        refine ⟨Cell.dct (sgD S) :: Cell.dct (wyD S) :: (G ++ [.lst O]), ?_⟩
        have g7 : binop .add (.tup (n.2.2.map tI)) (.tup (m.2.2.map tI).reverse) (N2 h (sgD S) (wyD S) (G ++ [.lst O])) = some (.tup ((n.2.2 ++ m.2.2.reverse).map tI)) := by
          rw [x_addt (by simp [LIM]; omega), List.map_append, List.map_reverse]
        have body : dSs ctx vbody (vEnv sh nr h G e1 e5 e7 n.1 (some (tI p.1)) (some (.bl p.2)) c) (N2 h (sgD S) (wyD S) (G ++ [.lst O])) = .ok (.rt (turnedV (n.2.2 ++ m.2.2.reverse))) (N2 h (sgD S) (wyD S) (G ++ [.lst O])) := by
          rw [vbody, x_scons, sgn]
          simp only [R.bind_ok, x_scons, x_ifs, x_T, x_cmp, x_var, List.getElem?_cons_succ, List.getElem?_cons_zero, cmpop, g3, Option.isSome_some, Option.map_some, Bool.not_true, R.of_some, x_trb, Bool.false_eq_true, if_false, x_sub, g8, eq_int, e, decide_false, Bool.not_false, if_true, x_ret, x_tup, x_cons, x_nil, x_cst, x_bin, g2, x_rev, g9, x_neg, x_intOf, x_rvt, g7]
        rw [List.map_cons, forGo, if_pos rfl, et]
        dsimp only
        rw [body]
        rfl
end
end K13
namespace K13
open PySem HW
/-! the program's paper, whole *)-/
section
variable {h : PHeap}
abbrev wcond : IE := .cmp .lt (.var 7) (.blt .len (.cons (.var 6) .nil))
abbrev wbody : ISs := .cons (.asg (.tg (.nm 8)) (.sub (.var 6) (.var 7))) (.cons (.aug 7 .add (.cst (.int 1))) (.cons (.for_ (.tp [(.nm 9), (.nm 10)]) (.ex (.sub (.var 2) (.var 8))) vbody) .nil))
abbrev wEnv (sh nr : PV) (h G : PHeap) (e1 e5 : Option PV) (a : Nat) (x8 x9 x10 x11 : Option PV) : HW.Env := [some sh, e1, some nr, some (.ref h.length), some (.ref (h.length + 1)), e5, some (.ref (h.length + (G.length + 1 + 1))), some (.int a), x8, x9, x10, x11]
theorem drop_at {S : List Node} {p a : Nat} {n : Node} (hi : S[p + a]? = some n) : ((S.drop p).map fun n => tI n.1)[a]? = some (tI n.1) := by
  rw [List.getElem?_map, List.getElem?_drop, hi]
  rfl
theorem cond_ev {ctx : List Sem} {G : PHeap} {A B : List (PV × PV)} {O : List PV} {sh nr : PV} {e1 e5 x8 x9 x10 x11 : Option PV} {a : Nat} : dT ctx wcond (wEnv sh nr h G e1 e5 a x8 x9 x10 x11) (N2 h A B (G ++ [.lst O])) = .ok (decide (a < O.length)) (N2 h A B (G ++ [.lst O])) := by
  simp only [x_T, wcond, x_cmp, x_var, x_blt, x_cons, x_nil, List.getElem?_cons_succ, List.getElem?_cons_zero, R.bind_ok, n_len, R.of_some, x_lt, x_lti, Option.map_some, x_trb]
  congr 1
  exact decide_eq_decide.mpr (by omega)
theorem while_ev {ctx : List Sem} {s : List Fc} (hs : s.length ≤ 500) {G : PHeap} {sh : PV} {e1 e5 : Option PV} : ∀ (m k a p : Nat) (S : List Node) (O : List PV) (x8 x9 x10 x11 : Option PV), WS s S → O = (S.drop p).map (fun n => tI n.1) → p + a ≤ S.length → s.length ≤ m + (p + a) → m + 1 ≤ k →
    match bfs (nb s) m S (p + a) with
    | .ok S' => ∃ a' y8 y9 y10 y11 E, S' = S ++ E ∧ WS s S' ∧ whileGo (dT ctx wcond) (dSs ctx wbody) k (wEnv sh (.dct (nrD s)) h G e1 e5 a x8 x9 x10 x11) (N2 h (sgD S) (wyD S) (G ++ [.lst O])) = .ok (.nx (wEnv sh (.dct (nrD s)) h G e1 e5 a' y8 y9 y10 y11)) (N2 h (sgD S') (wyD S') (G ++ [.lst (O ++ E.map fun n => tI n.1)]))
    | .error r => ∃ t, whileGo (dT ctx wcond) (dSs ctx wbody) k (wEnv sh (.dct (nrD s)) h G e1 e5 a x8 x9 x10 x11) (N2 h (sgD S) (wyD S) (G ++ [.lst O])) = .ok (.rt (turnedV r)) (h ++ t)
  | m, 0, _, _, _, _, _, _, _, _, _, _, _, _, hk => by omega
  | m, k + 1, a, p, S, O, x8, x9, x10, x11, w, hO, hpa, hm, hk => by
    have few := w.few
    have lO : O.length = S.length - p := by rw [hO]; simp
    have stop : p + a = S.length → whileGo (dT ctx wcond) (dSs ctx wbody) (k + 1) (wEnv sh (.dct (nrD s)) h G e1 e5 a x8 x9 x10 x11) (N2 h (sgD S) (wyD S) (G ++ [.lst O])) = .ok (.nx (wEnv sh (.dct (nrD s)) h G e1 e5 a x8 x9 x10 x11)) (N2 h (sgD S) (wyD S) (G ++ [.lst O])) := fun e => by
      rw [whileGo, cond_ev, decide_eq_false (by omega)]
      rfl
    match m, hm, hk with
    | 0, hm, hk =>
      rw [bfs]
      exact ⟨a, x8, x9, x10, x11, [], by simp, w, by rw [stop (by omega)]; simp⟩
    | m + 1, hm, hk =>
      rw [bfs]
      cases hi : S[p + a]? with
      | none =>
        have := List.getElem?_eq_none_iff.mp hi
        exact ⟨a, x8, x9, x10, x11, [], by simp, w, by rw [stop (by omega)]; simp⟩
      | some n =>
        dsimp only
        have hil := (List.getElem?_eq_some_iff.mp hi).1
        have hn := List.mem_of_getElem? hi
        have hns := w.mem n hn
        have hat : O[a]? = some (tI n.1) := by rw [hO]; exact drop_at hi
        have v := visit_ev (h := h) (G := G) (ctx := ctx) (s := s) (by omega) (sh := sh) (nr := .dct (nrD s)) (e1 := e1) (e5 := e5) (e7 := some (.int ((a : Int) + 1))) (n := n) (nb s n.1) S O x9 x10 x11 w (fun q hq => (mem_nb.mp hq).1) (by omega) (fnd_at w.nd hi)
        have go : whileGo (dT ctx wcond) (dSs ctx wbody) (k + 1) (wEnv sh (.dct (nrD s)) h G e1 e5 a x8 x9 x10 x11) (N2 h (sgD S) (wyD S) (G ++ [.lst O])) = (forGo (fun _ => true) (tgSet (.tp [.nm 9, .nm 10])) (dSs ctx vbody) ((nb s n.1).map encT) (vEnv sh (.dct (nrD s)) h G e1 e5 (some (.int ((a : Int) + 1))) n.1 x9 x10 x11) (N2 h (sgD S) (wyD S) (G ++ [.lst O]))).bind fun o h1 => match o with
            | .nx e => whileGo (dT ctx wcond) (dSs ctx wbody) k e h1
            | .ct e => whileGo (dT ctx wcond) (dSs ctx wbody) k e h1
            | .bk e => .ok (.nx e) h1
            | .rt v => .ok (.rt v) h1 := by
          rw [whileGo, cond_ev, decide_eq_true (by omega)]
          have st : dSs ctx wbody (wEnv sh (.dct (nrD s)) h G e1 e5 a x8 x9 x10 x11) (N2 h (sgD S) (wyD S) (G ++ [.lst O])) = forGo (fun _ => true) (tgSet (.tp [.nm 9, .nm 10])) (dSs ctx vbody) ((nb s n.1).map encT) (vEnv sh (.dct (nrD s)) h G e1 e5 (some (.int ((a : Int) + 1))) n.1 x9 x10 x11) (N2 h (sgD S) (wyD S) (G ++ [.lst O])) := by
            have add : ∀ g : PHeap, binop .add (.int (a : Int)) (.int 1) g = some (.int ((a : Int) + 1)) := fun g => rfl
            simp only [wbody, x_scons, x_asg, x_sub, x_var, List.getElem?_cons_succ, List.getElem?_cons_zero, R.bind_ok, n_at hat, R.of_some, x_tg, x_tnm, List.length_cons, List.length_nil, List.set_cons_succ, List.set_cons_zero, x_aug, x_cst, add, x_for, x_lksb, x_lk, x_ex, near_at hns, x_wl, x_snil, Nat.reduceAdd, Nat.reduceLT, if_true]
            generalize forGo _ _ _ _ _ _ = r
            cases r with
            | ok o g => cases o <;> rfl
            | exc e g => rfl
            | bad => rfl
          rw [R.bind_ok, if_pos rfl, st]
          all_goals rfl
        rw [go]
        revert v
        cases vis n.2.1 n.2.2 (nb s n.1) S with
        | error r =>
          rintro ⟨t, h3⟩
          exact ⟨t, by rw [h3]; rfl⟩
        | ok S1 =>
          rintro ⟨a', b', c', E, h1, h2, h3⟩
          dsimp only
          rw [h3]
          dsimp only [R.bind_ok]
          have ih := while_ev (ctx := ctx) hs (G := G) (sh := sh) (e1 := e1) (e5 := e5) m k (a + 1) p S1 (O ++ E.map fun n => tI n.1) (some (tI n.1)) a' b' c' h2 (by rw [h1, hO, List.drop_append_of_le_length (by omega), List.map_append]) (by rw [h1]; simp; omega) (by omega) (by omega)
          rw [← Nat.add_assoc] at ih
          have ec : ((a + 1 : Nat) : Int) = (a : Int) + 1 := by omega
          revert ih
          cases bfs (nb s) m S1 (p + a + 1) with
          | error r =>
            rintro ⟨t, h4⟩
            refine ⟨t, ?_⟩
            rw [← h4, wEnv, ec]
          | ok S2 =>
            rintro ⟨a2, y8, y9, y10, y11, E2, k1, k2, k3⟩
            refine ⟨a2, y8, y9, y10, y11, E ++ E2, by rw [k1, h1, List.append_assoc], k2, ?_⟩
            rw [List.map_append, ← List.append_assoc, ← k3, wEnv, ec]
abbrev obody : ISs := .cons (.ifs (.cmp .isin (.var 5) (.var 3)) (.cons .cont .nil) .nil) (.cons (.par [(.sub (.var 3) (.var 5)), (.sub (.var 4) (.var 5))] (.cons (.cst (.int 1)) (.cons (.tup (.cons (.var 5) .nil)) .nil))) (.cons (.asg (.tg (.nm 6)) (.lst true (.cons (.var 5) .nil))) (.cons (.asg (.tg (.nm 7)) (.cst (.int 0))) (.cons (.while_ 1000 wcond wbody) .nil))))
abbrev oEnv (sh nr : PV) (h : PHeap) (e1 x5 x6 x7 x8 x9 x10 x11 : Option PV) : HW.Env := [some sh, e1, some nr, some (.ref h.length), some (.ref (h.length + 1)), x5, x6, x7, x8, x9, x10, x11]
@[simp] theorem x_cont {ctx : List Sem} {env : HW.Env} {h : PHeap} : dS ctx .cont env h = .ok (.ct env) h := by rw [dS]
theorem outer_ev {ctx : List Sem} {s : List Fc} (hs : s.length ≤ 500) {sh : PV} {e1 : Option PV} : ∀ (L : List Fc) (S : List Node) (G : PHeap) (x5 x6 x7 x8 x9 x10 x11 : Option PV), WS s S → (∀ f ∈ L, f ∈ s) →
    match outer (nb s) s.length L S with
    | .ok S' => ∃ G' y5 y6 y7 y8 y9 y10 y11, WS s S' ∧ forGo (fun _ => true) (tgSet (.nm 5)) (dSs ctx obody) (L.map tI) (oEnv sh (.dct (nrD s)) h e1 x5 x6 x7 x8 x9 x10 x11) (N2 h (sgD S) (wyD S) G) = .ok (.nx (oEnv sh (.dct (nrD s)) h e1 y5 y6 y7 y8 y9 y10 y11)) (N2 h (sgD S') (wyD S') G')
    | .error r => ∃ t, forGo (fun _ => true) (tgSet (.nm 5)) (dSs ctx obody) (L.map tI) (oEnv sh (.dct (nrD s)) h e1 x5 x6 x7 x8 x9 x10 x11) (N2 h (sgD S) (wyD S) G) = .ok (.rt (turnedV r)) (h ++ t)
  | [], S, G, x5, x6, x7, x8, x9, x10, x11, w, _ => by
    rw [outer]
    exact ⟨G, x5, x6, x7, x8, x9, x10, x11, w, by simp [forGo]⟩
  | f :: L, S, G, x5, x6, x7, x8, x9, x10, x11, w, hL => by
    have few := w.few
    have hfs := hL f List.mem_cons_self
    have et : tgSet (.nm 5) (tI f) (oEnv sh (.dct (nrD s)) h e1 x5 x6 x7 x8 x9 x10 x11) = some (oEnv sh (.dct (nrD s)) h e1 (some (tI f)) x6 x7 x8 x9 x10 x11) := by simp
    have g3 := n_in (h := h) (B := wyD S) S f (T := G)
    rw [outer]
    by_cases hf : (fnd S f).isSome = true
    · rw [if_pos hf]
      rw [hf] at g3
      have body : dSs ctx obody (oEnv sh (.dct (nrD s)) h e1 (some (tI f)) x6 x7 x8 x9 x10 x11) (N2 h (sgD S) (wyD S) G) = .ok (.ct (oEnv sh (.dct (nrD s)) h e1 (some (tI f)) x6 x7 x8 x9 x10 x11)) (N2 h (sgD S) (wyD S) G) := by
        simp only [obody, x_scons, x_ifs, x_T, x_cmp, x_var, List.getElem?_cons_succ, List.getElem?_cons_zero, R.bind_ok, x_isin, g3, Option.map_some, R.of_some, x_trb, if_true, x_cont]
      have ih := outer_ev (ctx := ctx) hs (sh := sh) (e1 := e1) L S G (some (tI f)) x6 x7 x8 x9 x10 x11 w fun q hq => hL q (List.mem_cons_of_mem _ hq)
      revert ih
      cases outer (nb s) s.length L S with
      | ok S' =>
        rintro ⟨G', y5, y6, y7, y8, y9, y10, y11, w', q⟩
        refine ⟨G', y5, y6, y7, y8, y9, y10, y11, w', ?_⟩
        rw [List.map_cons, forGo, if_pos rfl, et]
        dsimp only
        rw [body]
        exact q
      | error r =>
        rintro ⟨t, q⟩
        refine ⟨t, ?_⟩
        rw [List.map_cons, forGo, if_pos rfl, et]
        dsimp only
        rw [body]
        exact q
    · rw [if_neg hf]
      have hfn : fnd S f = none := by simpa using hf
      rw [hfn] at g3
      have lm : S.length < LIM := by simp [LIM]; omega
      have w1 := w.add (n := (f, 1, [f])) hfn hfs (by simp)
      have g4 := n_put1 (h := h) (B := wyD S) (n := (f, 1, [f])) hfn lm (T := G)
      have g5 := n_put2 (h := h) (A := sgD (S ++ [(f, 1, [f])])) (n := (f, 1, [f])) hfn lm (T := G)
      dsimp only at g4 g5
      simp only [List.map_cons, List.map_nil] at g5
      have wl := while_ev (h := h) (ctx := ctx) hs (G := G) (sh := sh) (e1 := e1) (e5 := some (tI f)) s.length 1000 0 S.length (S ++ [(f, 1, [f])]) [tI f] x8 x9 x10 x11 w1 (by simp) (by simp) (by omega) (by omega)
      rw [Nat.add_zero] at wl
      have we : wEnv sh (.dct (nrD s)) h G e1 (some (tI f)) 0 x8 x9 x10 x11 = [some sh, e1, some (.dct (nrD s)), some (.ref h.length), some (.ref (h.length + 1)), some (tI f), some (.ref (h.length + (G.length + 1 + 1))), some (.int 0), x8, x9, x10, x11] := rfl
      rw [we] at wl
      have body : dSs ctx obody (oEnv sh (.dct (nrD s)) h e1 (some (tI f)) x6 x7 x8 x9 x10 x11) (N2 h (sgD S) (wyD S) G) = whileGo (dT ctx wcond) (dSs ctx wbody) 1000 [some sh, e1, some (.dct (nrD s)), some (.ref h.length), some (.ref (h.length + 1)), some (tI f), some (.ref (h.length + (G.length + 1 + 1))), some (.int 0), x8, x9, x10, x11] (N2 h (sgD (S ++ [(f, 1, [f])])) (wyD (S ++ [(f, 1, [f])])) (G ++ [.lst [tI f]])) := by
        have ln : (N2 h (sgD (S ++ [(f, 1, [f])])) (wyD (S ++ [(f, 1, [f])])) G).length = h.length + (G.length + 1 + 1) := by simp
        have ap : N2 h (sgD (S ++ [(f, 1, [f])])) (wyD (S ++ [(f, 1, [f])])) G ++ [.lst [tI f]] = N2 h (sgD (S ++ [(f, 1, [f])])) (wyD (S ++ [(f, 1, [f])])) (G ++ [.lst [tI f]]) := by simp
        simp only [obody, x_scons, x_ifs, x_T, x_cmp, x_var, List.getElem?_cons_succ, List.getElem?_cons_zero, R.bind_ok, x_isin, g3, Option.isSome_none, Option.map_some, R.of_some, x_trb, Bool.false_eq_true, if_false, x_snil, x_par, x_cons, x_nil, x_cst, x_tup, x_tgs, x_tgs0, x_tsub, g4, g5, x_asg, x_lst, x_mkt, ln, ap, x_tg, x_tnm, List.length_cons, List.length_nil, Nat.reduceAdd, Nat.reduceLT, if_true, List.set_cons_succ, List.set_cons_zero, x_while]
        generalize whileGo _ _ _ _ _ = r
        cases r with
        | ok o g => cases o <;> rfl
        | exc e g => rfl
        | bad => rfl
      revert wl
      cases bfs (nb s) s.length (S ++ [(f, 1, [f])]) S.length with
      | error r =>
        rintro ⟨t, q⟩
        refine ⟨t, ?_⟩
        rw [List.map_cons, forGo, if_pos rfl, et]
        dsimp only
        rw [body, q]
        rfl
      | ok S1 =>
        rintro ⟨a', y8, y9, y10, y11, E, h1, w2, q⟩
        dsimp only
        have ih := outer_ev (ctx := ctx) hs (sh := sh) (e1 := e1) L S1 (G ++ [.lst ([tI f] ++ E.map fun n => tI n.1)]) (some (tI f)) (some (.ref (h.length + (G.length + 1 + 1)))) (some (.int a')) y8 y9 y10 y11 w2 fun q hq => hL q (List.mem_cons_of_mem _ hq)
        revert ih
        cases outer (nb s) s.length L S1 with
        | ok S' =>
          rintro ⟨G', z5, z6, z7, z8, z9, z10, z11, w', q'⟩
          refine ⟨G', z5, z6, z7, z8, z9, z10, z11, w', ?_⟩
          rw [List.map_cons, forGo, if_pos rfl, et]
          dsimp only
          rw [body, q]
          exact q'
        | error r =>
          rintro ⟨t, q'⟩
          refine ⟨t, ?_⟩
          rw [List.map_cons, forGo, if_pos rfl, et]
          dsimp only
          rw [body, q]
          exact q'
end
end K13
namespace K13
open PySem HW
section
variable {h : PHeap}
abbrev openV (x : Fc) : PV := .tup [.str (Str.ofString "open"), tI x]
abbrev cycleV (T : Tb) : PV := .tup [.str (Str.ofString "cycle"), ch T]
def paperV (s : List Fc) : PV := match opn s with
  | x :: _ => openV x
  | [] => match outer (nb s) s.length s [] with
    | .ok S => cycleV (tld (sgs S))
    | .error r => turnedV r
theorem sg_sorted {S : List Node} (hp : ∀ n ∈ S, n.2.1 = 1 ∨ n.2.1 = -1) (hl : S.length ≤ LIM) {B : List (PV × PV)} {G : PHeap} : (convop .sortedItems false (.ref h.length) (N2 h (sgD S) B G)).bind (fun v h => convop .tuple false v h) = .ok (ch (tld (sgs S))) (N2 h (sgD S) B G) := by
  have e1 : (sgD S).map pairP = (sgs S).map cp := by
    unfold sgD sgs
    rw [List.map_map, List.map_map]
    rfl
  have e2 : (sgs S).filter nz = sgs S := List.filter_eq_self.mpr fun p hp' => by
    obtain ⟨n, hn, rfl⟩ := List.mem_map.mp hp'
    have := hp n hn
    simp only [nz, decide_eq_true_eq]
    omega
  have e3 : asDict (N2 h (sgD S) B G) (.ref h.length) = some (sgD S) := by
    unfold asDict
    simp only [n2_a]
  have e4 : decide ((sgD S).length ≤ LIM) = true := by simpa [sgD] using hl
  have e5 : ∀ {x : List PV} {g : PHeap}, asSeq g (.lst x) = some x := rfl
  simp only [convop, e3, R.of_some, R.bind_ok, e1, sortOk_cp, e4, Bool.and_self, if_true, sortV_cp, x_mkf, e5]
  unfold ch tld
  rw [e2]
theorem below_str (n : Nat) (s : Str) : below n (.str s) = true := rfl
theorem closed_ev {s : List Fc} (S : Shp s) : s_closed_paper [.tup (s.map tI)] h = .ok (paperV s) h := by
  have lk0 : ∀ {env : HW.Env} {g : PHeap}, lockV 0 (some (.tup (s.map tI)) :: env) g = none := fun {env g} => rfl
  unfold paperV
  cases e : opn s with
  | cons x r =>
    have o : ∀ g : PHeap, s_opening [.tup (s.map tI)] g = .ok (tI x) g := fun g => by rw [opening_ev S, e]; rfl
    have nn : cmpop .isnot (tI x) .non h = some true := by simp [cmpop, tI]
    simp -implicitDefEqProofs [s_closed_paper, runFn, if_closed_paper, o, nn]
    exact finish_same (by rw [below, belows, belows, belows, below_tI']; rfl)
  | nil =>
    obtain ⟨P, T⟩ := closed_of S e
    have o : ∀ g : PHeap, s_opening [.tup (s.map tI)] g = .ok .non g := fun g => by rw [opening_ev S, e]; rfl
    have st : ∀ g : PHeap, s_steps_of [.tup (s.map tI)] g = .ok (.dct (nrD s)) g := fun g => steps_ev P T
    have nn : cmpop .isnot .non .non h = some false := by simp [cmpop]
    have sl := P.few
    have ov := outer_ev (h := h) (ctx := [s_opening, s_steps_of]) (s := s) (by omega) (sh := .tup (s.map tI)) (e1 := some .non) s [] [] none none none none none none none ⟨List.nodup_nil, by simp, by simp⟩ (fun f hf => hf)
    have oo := outer_ok (nb_Nbs P) (Nat.le_refl s.length) s [] (fun f hf => hf) (fun f hf => .inl hf) (BI.nil [])
    have pre : s_closed_paper [.tup (s.map tI)] h = ((forGo (fun _ => true) (tgSet (.nm 5)) (dSs [s_opening, s_steps_of] obody) (s.map tI) (oEnv (.tup (s.map tI)) (.dct (nrD s)) h (some .non) none none none none none none none) (N2 h (sgD []) (wyD []) [])).bind fun o h1 => match o with
        | .nx env => dSs [s_opening, s_steps_of] (.cons (.ret (.tup (.cons (.cst (.str (Str.ofString "cycle"))) (.cons (.conv .tuple false (.conv .sortedItems false (.var 3))) .nil)))) .nil) env h1
        | o => .ok o h1).bind fun o h1 => match o with
        | .rt v => HW.finish false h v h1
        | .nx _ => HW.finish false h .non h1
        | _ => .bad := by
      have n1 : (h ++ [Cell.dct []]).length = h.length + 1 := by simp
      have n2 : h ++ [Cell.dct []] ++ [Cell.dct []] = N2 h (sgD []) (wyD []) [] := by simp [sgD, wyD]
      have mk : ∀ g : PHeap, mkDict true [] g = .ok (.ref g.length) (g ++ [.dct []]) := fun g => rfl
      have dd : ∀ (ctx : List Sem) (env : HW.Env) (g : PHeap), dE ctx (.dct true .nil) env g = .ok (.ref g.length) (g ++ [.dct []]) := fun ctx env g => by simp
      simp only [s_closed_paper, runFn, if_closed_paper, List.length_cons, List.length_nil, Nat.reduceAdd, if_true, List.map_cons, List.map_nil, Nat.reduceSub, List.replicate_succ, List.replicate_zero, List.cons_append, List.nil_append, x_scons, x_asg, x_call, x_cons, x_nil, x_var, List.getElem?_cons_zero, List.getElem?_cons_succ, R.bind_ok, List.getD_cons_zero, List.getD_cons_succ, o, x_tg, x_tnm, Nat.reduceLT, R.of_some, List.set_cons_succ, List.set_cons_zero, x_ifs, x_T, x_cmp, x_cst, nn, Option.map_some, x_trb, Bool.false_eq_true, if_false, x_snil, st, dd, n1, n2, x_for, x_lkv, lk0, x_lk, x_ex, x_wt]
      all_goals
        show ((forGo (fun _ => true) (tgSet (.nm 5)) (dSs [s_opening, s_steps_of] obody) (s.map tI) (oEnv (.tup (s.map tI)) (.dct (nrD s)) h (some .non) none none none none none none none) (N2 h (sgD []) (wyD []) [])).bind _).bind _ = _
        generalize forGo _ _ _ _ _ _ = r
        cases r with
        | ok o g => cases o <;> rfl
        | exc e g => rfl
        | bad => rfl
    rw [pre]
    revert ov oo
    cases outer (nb s) s.length s [] with
    | error r =>
      rintro ⟨t, q⟩ _
      rw [q]
      dsimp only [R.bind_ok]
      refine finish_ext ?_
      rw [below, belows, belows, belows, below_tup_tI]
      rfl
    | ok S' =>
      rintro ⟨G', y5, y6, y7, y8, y9, y10, y11, w, q⟩ F
      dsimp only
      rw [q]
      have ss := sg_sorted (h := h) (B := wyD S') (G := G') F.pm (by have := w.few; simp [LIM]; omega)
      simp only [R.bind_ok, x_scons, x_ret, x_tup, x_cons, x_nil, x_cst, x_conv, x_var, List.getElem?_cons_succ, List.getElem?_cons_zero, ss]
      refine finish_ext ?_
      rw [below, belows, belows, belows, below_ch]
      rfl
end
end K13
namespace K13
open PySem HW
/-! openings and turns, the law's and the judge's *)-/
section
variable {h : PHeap}
theorem in_tup (f : Fc) (ks : List Fc) : isIn h (tI f) (.tup (ks.map tI)) = some (decide (f ∈ ks)) := in_tIs (g := h) f ks
theorem inside_ev {a b : Fc} (hl : a.length ≤ LIM) : s__law_inside [tI a, tI b] h = .ok (.bl (wit a b)) h := within_ev hl
theorem law_around_ev {s : List Fc} (S : Shp s) {x : Fc} (hx : x.length ≤ LIM) : s__law_around [.tup (s.map tI), tI x] h = .ok (.lst ((ar s x).map tI)) h := by
  have hl : s.length ≤ LIM := by have := S.n; simp [LIM]; omega
  simp [s__law_around, runFn, if__law_around, lockV]
  rw [comp_enc (wit x) tI rfl _ _ (fun f hf => ⟨_, by simp; rfl, by simp [inside_ev hx], fun _ => by simp⟩) (by simpa using hl)]
  exact finish_same (below_lst_tI _ _)
theorem list_tup {al : Bool} {xs : List PV} : convop .list al (.tup xs) h = mkList al xs h := rfl
theorem law_open_ev {s : List Fc} (S : Shp s) : s__law_open [.tup (s.map tI)] h = .ok (.lst ((opn s).map tI)) h := by
  have hl : s.length ≤ LIM := by have := S.n; simp [LIM]; omega
  have c0 : compGo (fun _ => true) (tgSet (.nm 3)) (dIfs [s__law_level, s__law_around] .nil) (dE [s__law_level, s__law_around] (.blt .len (.cons (.var 3) .nil))) [some (.tup (s.map tI)), none, none, none, none] (s.map tI) h [] = .ok (s.map fun f => .int f.length) h :=
    comp_map (fun f : Fc => .int f.length) rfl _ (fun f hf => ⟨_, by simp; rfl, by simp⟩) hl
  have c1 : compGo (fun _ => true) (tgSet (.nm 3)) (dIfs [s__law_level, s__law_around] (.cons (.cmp .lt (.blt .len (.cons (.var 3) .nil)) (.bin .add (.var 1) (.cst (.int 1)))) .nil)) (dE [s__law_level, s__law_around] (.var 3)) [some (.tup (s.map tI)), some (.int (dm s)), none, none, none] (s.map tI) h [] = .ok ((lo s).map tI) h :=
    comp_enc (fun f : Fc => decide ((f.length : Int) < dm s + 1)) tI rfl _ _ (fun f hf => ⟨_, by simp; rfl, by simp, fun _ => by simp⟩) (by simpa using hl)
  have mx : convop .max false (.lst (s.map fun f => .int f.length)) h = .ok (.int (dm s + 1)) h := by
    simp [convop, asList, asInts_enc, maxI_some S.e]
  have lk0 : ∀ {env : HW.Env} {g : PHeap}, lockV 0 (some (.tup (s.map tI)) :: env) g = none := fun {env g} => rfl
  cases e : lo s with
  | cons x r =>
    rw [e] at c1
    have o : opn s = x :: r := by unfold opn; rw [if_pos (by rw [e]; simp), e]
    simp -implicitDefEqProofs [s__law_open, runFn, if__law_open, lk0, c0, mx, c1, o, tru_faces]
    exact finish_same (below_lst_tI _ (x :: r))
  | nil =>
    rw [e] at c1
    by_cases d0 : dm s = 0
    · have o : opn s = s := by unfold opn; rw [if_neg (by simp [e]), if_pos d0]
      rw [d0] at c1
      simp -implicitDefEqProofs [s__law_open, runFn, if__law_open, lk0, c0, mx, d0, c1, o, eq_int, list_tup]
      exact finish_same (below_lst_tI _ _)
    · have P := pur_of S e d0
      have hb := Lv_small S (dm s + 1).toNat
      have o : opn s = (Lv s (dm s + 1).toNat).filter fun x => decide ((ar s x).length ≠ 2) := by unfold opn; rw [if_neg (by simp [e]), if_neg d0]
      have ed : lvl s (dm s - 1) = Lv s (dm s + 1).toNat := by
        have := P.dm
        unfold Lv
        rw [show dm s - 1 = ((dm s + 1).toNat : Int) - 1 - 1 by omega]
      have c2 : compGo (fun _ => true) (tgSet (.nm 4)) (dIfs [s__law_level, s__law_around] (.cons (.cmp .ne (.blt .len (.cons (.call 1 (.cons (.var 0) (.cons (.var 4) .nil))) .nil)) (.cst (.int 2))) .nil)) (dE [s__law_level, s__law_around] (.var 4)) [some (.tup (s.map tI)), some (.int (dm s)), some (.lst []), none, none] ((Lv s (dm s + 1).toNat).map tI) h [] = .ok ((opn s).map tI) h := by
        rw [o]
        refine comp_enc (fun x : Fc => decide ((ar s x).length ≠ 2)) tI rfl _ _ (fun x hx => ⟨_, by simp; rfl, ?_, fun _ => by simp⟩) (by simp [LIM]; omega)
        have := ((mem_Lv P.n2).mp hx).2
        obtain ⟨⟨f, hf, hs⟩, _⟩ := (mem_Lv P.n2).mp hx
        have l1 := hs.length_le
        have l2 := (S.f f hf).2
        simp [law_around_ev S (show x.length ≤ LIM by simp [LIM]; omega), eq_int]
        omega
      simp -implicitDefEqProofs [s__law_open, runFn, if__law_open, lk0, c0, mx, d0, c1, eq_int, level_ev S.sm, ed, c2]
      exact finish_same (below_lst_tI _ _)
theorem is_opening_ev {s : List Fc} (S : Shp s) (f : Fc) : s_is_opening [.tup (s.map tI), tI f] h = .ok (.bl (decide (f ∈ opn s))) h := by
  have hl : s.length ≤ LIM := by have := S.n; simp [LIM]; omega
  have c0 : compGo (fun _ => true) (tgSet (.nm 4)) (dIfs [s_dimension, s_around] .nil) (dE [s_dimension, s_around] (.cmp .lt (.blt .len (.cons (.var 4) .nil)) (.bin .add (.var 2) (.cst (.int 1))))) [some (.tup (s.map tI)), some (tI f), some (.int (dm s)), none, none, none, none] (s.map tI) h [] = .ok (s.map fun f => .bl (decide ((f.length : Int) < dm s + 1))) h :=
    comp_map (fun f : Fc => .bl (decide ((f.length : Int) < dm s + 1))) rfl _ (fun f hf => ⟨_, by simp; rfl, by simp⟩) hl
  have c1 : compGo (fun _ => true) (tgSet (.nm 4)) (dIfs [s_dimension, s_around] (.cons (.cmp .lt (.blt .len (.cons (.var 4) .nil)) (.bin .add (.var 2) (.cst (.int 1)))) .nil)) (dE [s_dimension, s_around] (.var 4)) [some (.tup (s.map tI)), some (tI f), some (.int (dm s)), none, none, none, none] (s.map tI) h [] = .ok ((lo s).map tI) h :=
    comp_enc (fun f : Fc => decide ((f.length : Int) < dm s + 1)) tI rfl _ _ (fun f hf => ⟨_, by simp; rfl, by simp, fun _ => by simp⟩) (by simpa using hl)
  have lk0 : ∀ {env : HW.Env} {g : PHeap}, lockV 0 (some (.tup (s.map tI)) :: env) g = none := fun {env g} => rfl
  have an : (s.any fun f => decide ((f.length : Int) < dm s + 1)) = !(lo s).isEmpty := by
    rw [Bool.eq_iff_iff, List.any_eq_true, Bool.not_eq_true', List.isEmpty_eq_false_iff_exists_mem]
    constructor
    · rintro ⟨x, h1, h2⟩
      exact ⟨x, List.mem_filter.mpr ⟨h1, h2⟩⟩
    · rintro ⟨x, h1⟩
      exact ⟨x, List.mem_filter.mp h1⟩
  have ce : convop .any false (.lst (s.map fun f => .bl (decide ((f.length : Int) < dm s + 1)))) h = .ok (.bl (!(lo s).isEmpty)) h := by rw [any_enc (fun f : Fc => decide ((f.length : Int) < dm s + 1)) s, an]
  cases e : lo s with
  | cons x r =>
    rw [e] at c1 ce
    have o : opn s = x :: r := by unfold opn; rw [if_pos (by rw [e]; simp), e]
    have i := in_tIs (g := h) f (x :: r)
    simp only [List.map_cons] at i
    simp -implicitDefEqProofs [s_is_opening, runFn, if_is_opening, lk0, dimension_ev S, c0, ce, c1, i, o]
    exact finish_same (v := .bl _) rfl
  | nil =>
    rw [e] at c1 ce
    by_cases d0 : dm s = 0
    · have o : opn s = s := by unfold opn; rw [if_neg (by simp [e]), if_pos d0]
      rw [d0] at c0 ce
      simp only [Int.zero_add] at c0 ce
      simp -implicitDefEqProofs [s_is_opening, runFn, if_is_opening, lk0, dimension_ev S, d0, c0, ce, eq_int, in_tup, o]
      exact finish_same (v := .bl _) rfl
    · have P := pur_of S e d0
      have hb := Lv_small S (dm s + 1).toNat
      have o : opn s = (Lv s (dm s + 1).toNat).filter fun x => decide ((ar s x).length ≠ 2) := by unfold opn; rw [if_neg (by simp [e]), if_neg d0]
      have it : (arD s (dm s + 1).toNat).map (fun e => PV.tup [e.1, e.2]) = (Lv s (dm s + 1).toNat).map (arE s) := by
        unfold arD
        rw [List.map_map]
        rfl
      have c2 : compGo (fun _ => true) (tgSet (.tp [.nm 5, .nm 6])) (dIfs [s_dimension, s_around] .nil) (dE [s_dimension, s_around] (.and (.cmp .eq (.var 1) (.var 5)) (.cmp .ne (.blt .len (.cons (.var 6) .nil)) (.cst (.int 2))))) [some (.tup (s.map tI)), some (tI f), some (.int (dm s)), some (.dct (arD s (dm s + 1).toNat)), none, none, none] ((Lv s (dm s + 1).toNat).map (arE s)) h [] = .ok ((Lv s (dm s + 1).toNat).map fun x => .bl (decide (f = x) && decide ((ar s x).length ≠ 2))) h :=
        comp_map (enc := arE s) (fun x : Fc => .bl (decide (f = x) && decide ((ar s x).length ≠ 2))) rfl _ (fun x hx => ⟨_, by simp; rfl, by
          by_cases q : f = x
          · simp [eq_tI, q, eq_int, rows_len]
            omega
          · simp [eq_tI, q]⟩) (by simp [LIM]; omega)
      have fin : ((Lv s (dm s + 1).toNat).any fun x => decide (f = x) && decide ((ar s x).length ≠ 2)) = decide (f ∈ opn s) := by
        rw [o, Bool.eq_iff_iff, List.any_eq_true, decide_eq_true_eq, List.mem_filter]
        simp only [Bool.and_eq_true, decide_eq_true_eq]
        constructor
        · rintro ⟨x, h1, rfl, h2⟩
          exact ⟨h1, h2⟩
        · rintro ⟨h1, h2⟩
          exact ⟨f, h1, rfl, h2⟩
      have ce2 : convop .any false (.lst ((Lv s (dm s + 1).toNat).map fun x => .bl (decide (f = x) && decide ((ar s x).length ≠ 2)))) h = .ok (.bl (decide (f ∈ opn s))) h := by rw [any_enc (fun x : Fc => decide (f = x) && decide ((ar s x).length ≠ 2)) _, fin]
      simp only [ne_eq, decide_not] at c2 ce2
      simp -implicitDefEqProofs [s_is_opening, runFn, if_is_opening, lk0, dimension_ev S, d0, c0, ce, eq_int, around_ev P, it, c2, ce2, lockV]
      exact finish_same (v := .bl _) rfl
def turnV : Option Bool → PV
  | none => .non
  | some t => .bl t
theorem dc_item {T : Tb} (hn : nod T) {p : Fc × Int} (hp : p ∈ T) : itemOf h (.dct (dc T)) (tI p.1) = some (.int p.2) := by
  show (if keyOk (dc T) (tI p.1) then dFind (dc T) (tI p.1) else none) = _
  rw [if_pos (keyOk_tI (dc_keys T) _), dc_find' hn hp]
theorem turns_ev {f g : Fc} (hf : f.Pairwise (· < ·)) (hg : g.Pairwise (· < ·)) (hl : f.length = g.length) (h2 : 2 ≤ f.length) (h5 : f.length ≤ 12) : s__law_turns [tI f, tI g] h = .ok (turnV (turns f g)) h := by
  have fl : f.length ≤ LIM := by simp [LIM]; omega
  have c0 : compGo (fun _ => true) (tgSet (.nm 3)) (dIfs [s__law_sides] (.cons (.cmp .isin (.var 3) (.var 1)) .nil)) (dE [s__law_sides] (.var 3)) [some (tI f), some (tI g), none, none] (f.map .int) h [] = .ok ((cm f g).map .int) h :=
    comp_enc (fun k : Int => decide (k ∈ g)) .int rfl _ _ (fun k hk => ⟨_, by simp; rfl, by simp [in_tI], fun _ => by simp⟩) (by simpa using fl)
  have lk0 : ∀ {env : HW.Env} {g : PHeap}, lockV 0 (some (tI f) :: env) g = none := fun {env g} => rfl
  have tp : convop .tuple false (.lst ((cm f g).map .int)) h = .ok (tI (cm f g)) h := rfl
  by_cases e1 : f = g
  · subst e1
    simp -implicitDefEqProofs [s__law_turns, runFn, if__law_turns, lk0, c0, tp, eq_tI, turns, turnV]
    exact finish_same (v := .non) rfl
  · by_cases e2 : ((cm f g).length : Int) = (f.length : Int) - 1
    · have e2' : (cm f g).length + 1 = f.length := by omega
      have m1 := sg_mem hf h2 (cm_sub f g) e2'
      have m2 := sg_mem hg (by omega) (cm_subr hf hg) (by omega)
      have d1 : convop .dict false (.lst ((sd f).map cp)) h = .ok (.dct (dc (sd f))) h := dict_l (nod_sd hf) (by have := sd_length f; simp [LIM]; omega)
      have d2 : convop .dict false (.lst ((sd g).map cp)) h = .ok (.dct (dc (sd g))) h := dict_l (nod_sd hg) (by have := sd_length g; simp [LIM]; omega)
      have i1 := dc_item (h := h) (nod_sd hf) m1
      have i2 := dc_item (h := h) (nod_sd hg) m2
      dsimp only at i1 i2
      have s1 := sides_two (h := h) (f := f) (by omega)
      have s2 := sides_two (h := h) (f := g) (by omega)
      simp -implicitDefEqProofs [s__law_turns, runFn, if__law_turns, lk0, c0, tp, eq_tI, e1, eq_int, e2, s1, s2, d1, d2, i1, i2, turns, turnV, e2']
      exact finish_same (v := .bl _) rfl
    · have e2' : (cm f g).length + 1 ≠ f.length := by omega
      simp -implicitDefEqProofs [s__law_turns, runFn, if__law_turns, lk0, c0, tp, eq_tI, e1, eq_int, e2, turns, turnV, e2']
      exact finish_same (v := .non) rfl
end
end K13
namespace K13
open PySem HW
/-! the law's signs *)-/
section
variable {h G : PHeap} {A : List (PV × PV)} {O : List PV}
abbrev N1 (h : PHeap) (A : List (PV × PV)) (T : PHeap) : PHeap := h ++ Cell.dct A :: T
theorem n1_a {T : PHeap} : (N1 h A T)[h.length]? = some (.dct A) := by
  rw [List.getElem?_append_right (Nat.le_refl _)]
  simp
theorem n1_o : (N1 h A (G ++ [.lst O]))[h.length + (G.length + 1)]? = some (.lst O) := by
  rw [List.getElem?_append_right (by omega), show h.length + (G.length + 1) - h.length = G.length + 1 by omega]
  simp
theorem m_get {S : List Node} {x : Fc} {n : Node} (hf : fnd S x = some n) {T : PHeap} : itemOf (N1 h (sgD S) T) (.ref h.length) (tI x) = some (.int n.2.1) := by
  unfold itemOf asDict
  simp only [n1_a]
  unfold sgD
  rw [if_pos (keyOk_tI (keys_map _ S) _), find_map, hf]
  rfl
theorem m_in (S : List Node) (x : Fc) {T : PHeap} : isIn (N1 h (sgD S) T) (tI x) (.ref h.length) = some (fnd S x).isSome := by
  unfold isIn asDict
  simp only [n1_a]
  unfold sgD
  rw [if_pos (keyOk_tI (keys_map _ S) _), any_map']
theorem m_put {S : List Node} {n : Node} (hf : fnd S n.1 = none) (hl : S.length < LIM) {T : PHeap} : putItem (N1 h (sgD S) T) (.ref h.length) (tI n.1) (.int n.2.1) = some (N1 h (sgD (S ++ [n])) T) := by
  unfold putItem
  simp only [n1_a]
  rw [if_pos (by rw [Bool.and_eq_true, decide_eq_true_eq]; exact ⟨keyOk_tI (keys_map _ S) _, by simpa [sgD] using hl⟩), sgD, put_map _ hf, List.set_append_right _ _ (Nat.le_refl _)]
  simp [sgD]
theorem m_app (hl : O.length < LIM) {v : PV} : recv .lapp (N1 h A (G ++ [.lst O])) (.ref (h.length + (G.length + 1))) = true ∧ methop .lapp (.ref (h.length + (G.length + 1))) [v] (N1 h A (G ++ [.lst O])) = .ok .non (N1 h A (G ++ [.lst (O ++ [v])])) := by
  constructor
  · unfold recv asList
    simp only [n1_o]
    rfl
  · unfold methop mApp
    simp only [n1_o]
    rw [if_pos hl, List.set_append_right _ _ (by omega), show h.length + (G.length + 1) - h.length = G.length + 1 by omega]
    simp
theorem m_len : bltop .len [.ref (h.length + (G.length + 1))] (N1 h A (G ++ [.lst O])) = some (.int O.length) := by
  unfold bltop bLen asSeq asList
  simp only [n1_o]
theorem m_at {a : Nat} {v : PV} (ha : O[a]? = some v) : itemOf (N1 h A (G ++ [.lst O])) (.ref (h.length + (G.length + 1))) (.int a) = some v := by
  unfold itemOf asDict
  simp only [n1_o, asSeq, asList]
  exact L2.atI_nat ha
def nbL (x : Fc) (L : List Fc) : List (Fc × Bool) := L.filterMap fun g => (turns x g).map fun t => (g, t)
abbrev lbody : ISs := .cons (.asg (.tg (.nm 6)) (.call 0 (.cons (.sub (.var 3) (.var 4)) (.cons (.var 5) .nil)))) (.cons (.ifs (.cmp .isnot (.var 6) (.cst .non)) (.cons (.asg (.tg (.nm 7)) (.ife (.var 6) (.bin .sub (.cst (.int 0)) (.sub (.var 1) (.sub (.var 3) (.var 4)))) (.sub (.var 1) (.sub (.var 3) (.var 4))))) (.cons (.ifs (.cmp .notin (.var 5) (.var 1)) (.cons (.asg (.sub (.var 1) (.var 5)) (.var 7)) (.cons (.expr (.meth .lapp (.var 3) (.cons (.var 5) .nil))) .nil)) (.cons (.ifs (.cmp .ne (.sub (.var 1) (.var 5)) (.var 7)) (.cons (.ret (.cst .non)) .nil) .nil) .nil)) .nil)) .nil) .nil)
abbrev lEnv (sh : PV) (h G : PHeap) (e2 : Option PV) (a : Nat) (x5 x6 x7 : Option PV) : HW.Env := [some sh, some (.ref h.length), e2, some (.ref (h.length + (G.length + 1))), some (.int a), x5, x6, x7]
theorem lvisit_ev {s : List Fc} {k : Nat} (P : Pur s k) {sh : PV} {e2 : Option PV} {n : Node} {a : Nat} : ∀ (L : List Fc) (S : List Node) (O : List PV) (x5 x6 x7 : Option PV), WS s S → (∀ f ∈ L, f ∈ s) → O.length ≤ S.length → fnd S n.1 = some n → O[a]? = some (tI n.1) →
    match vis n.2.1 n.2.2 (nbL n.1 L) S with
    | .ok S' => ∃ y5 y6 y7 E, S' = S ++ E ∧ WS s S' ∧ forGo (fun _ => true) (tgSet (.nm 5)) (dSs [s__law_turns] lbody) (L.map tI) (lEnv sh h G e2 a x5 x6 x7) (N1 h (sgD S) (G ++ [.lst O])) = .ok (.nx (lEnv sh h G e2 a y5 y6 y7)) (N1 h (sgD S') (G ++ [.lst (O ++ E.map fun n => tI n.1)]))
    | .error _ => ∃ t, forGo (fun _ => true) (tgSet (.nm 5)) (dSs [s__law_turns] lbody) (L.map tI) (lEnv sh h G e2 a x5 x6 x7) (N1 h (sgD S) (G ++ [.lst O])) = .ok (.rt .non) (h ++ t)
  | [], S, O, x5, x6, x7, w, _, _, _, _ => by
    rw [nbL, List.filterMap_nil, vis]
    exact ⟨x5, x6, x7, [], by simp, w, by simp [forGo]⟩
  | o :: L, S, O, x5, x6, x7, w, hL, hO, hf, hat => by
    have few := w.few
    have sf := P.few
    have hn := fnd_some hf
    have hns := w.mem n hn.1
    have hos := hL o List.mem_cons_self
    have ln := w.len n hn.1
    have lm : S.length < LIM := by simp [LIM]; omega
    have g0 := m_at (h := h) (G := G) (A := sgD S) hat
    have g1 := m_get (h := h) hf (T := G ++ [.lst O])
    have g3 := m_in (h := h) S o (T := G ++ [.lst O])
    have nl := P.len _ hns
    have n5 := (P.sh.f _ hns).2
    have n2 := P.n2
    have te := turns_ev (h := N1 h (sgD S) (G ++ [.lst O])) (P.sh.inc _ hns) (P.sh.inc _ hos) (by rw [nl, P.len _ hos]) (by omega) (by omega)
    have et : tgSet (.nm 5) (tI o) (lEnv sh h G e2 a x5 x6 x7) = some (lEnv sh h G e2 a (some (tI o)) x6 x7) := by simp
    have first : dS [s__law_turns] (.asg (.tg (.nm 6)) (.call 0 (.cons (.sub (.var 3) (.var 4)) (.cons (.var 5) .nil)))) (lEnv sh h G e2 a (some (tI o)) x6 x7) (N1 h (sgD S) (G ++ [.lst O])) = .ok (.nx (lEnv sh h G e2 a (some (tI o)) (some (turnV (turns n.1 o))) x7)) (N1 h (sgD S) (G ++ [.lst O])) := by
      simp only [x_asg, x_call, x_cons, x_nil, x_sub, x_var, List.getElem?_cons_succ, List.getElem?_cons_zero, R.bind_ok, g0, R.of_some, List.getD_cons_zero, te, x_tg, x_tnm, List.length_cons, List.length_nil, Nat.reduceAdd, Nat.reduceLT, if_true, List.set_cons_succ, List.set_cons_zero]
    unfold nbL at *
    cases ht : turns n.1 o with
    | none =>
      rw [ht] at first
      rw [List.filterMap_cons_none (by rw [ht]; rfl)]
      have body : dSs [s__law_turns] lbody (lEnv sh h G e2 a (some (tI o)) x6 x7) (N1 h (sgD S) (G ++ [.lst O])) = .ok (.nx (lEnv sh h G e2 a (some (tI o)) (some .non) x7)) (N1 h (sgD S) (G ++ [.lst O])) := by
        rw [lbody, x_scons, first]
        simp only [turnV, R.bind_ok, x_scons, x_ifs, x_T, x_cmp, x_var, List.getElem?_cons_succ, List.getElem?_cons_zero, x_cst, cmpop, decide_true, Bool.not_true, Option.map_some, R.of_some, x_trb, Bool.false_eq_true, if_false, x_snil]
      have ih := lvisit_ev P (sh := sh) (e2 := e2) (n := n) (a := a) L S O (some (tI o)) (some .non) x7 w (fun q hq => hL q (List.mem_cons_of_mem _ hq)) hO hf hat
      unfold nbL at ih
      revert ih
      cases vis n.2.1 n.2.2 (L.filterMap fun g => (turns n.1 g).map fun t => (g, t)) S with
      | ok S' =>
        rintro ⟨y5, y6, y7, E, h1, h2, h3⟩
        refine ⟨y5, y6, y7, E, h1, h2, ?_⟩
        rw [List.map_cons, forGo, if_pos rfl, et]
        dsimp only
        rw [body]
        exact h3
      | error r =>
        rintro ⟨t, h3⟩
        refine ⟨t, ?_⟩
        rw [List.map_cons, forGo, if_pos rfl, et]
        dsimp only
        rw [body]
        exact h3
    | some t =>
      rw [ht] at first
      rw [List.filterMap_cons_some (b := (o, t)) (by rw [ht]; rfl)]
      have nn : cmpop .isnot (.bl t) .non (N1 h (sgD S) (G ++ [.lst O])) = some true := by simp [cmpop]
      have sgn : dS [s__law_turns] (.asg (.tg (.nm 7)) (.ife (.var 6) (.bin .sub (.cst (.int 0)) (.sub (.var 1) (.sub (.var 3) (.var 4)))) (.sub (.var 1) (.sub (.var 3) (.var 4))))) (lEnv sh h G e2 a (some (tI o)) (some (.bl t)) x7) (N1 h (sgD S) (G ++ [.lst O])) = .ok (.nx (lEnv sh h G e2 a (some (tI o)) (some (.bl t)) (some (.int (sgt n.2.1 t))))) (N1 h (sgD S) (G ++ [.lst O])) := by
        cases t <;> simp [g0, g1, sgt]
      rw [vis]
      cases hp : fnd S o with
      | none =>
        rw [hp] at g3
        dsimp only
        have w' := w.add (n := (o, sgt n.2.1 t, n.2.2 ++ [o])) hp hos (by simp; omega)
        have g4 := m_put (h := h) (n := (o, sgt n.2.1 t, n.2.2 ++ [o])) hp lm (T := G ++ [.lst O])
        have g6 := m_app (h := h) (G := G) (A := sgD (S ++ [(o, sgt n.2.1 t, n.2.2 ++ [o])])) (O := O) (by omega) (v := tI o)
        dsimp only at g4
        have body : dSs [s__law_turns] lbody (lEnv sh h G e2 a (some (tI o)) x6 x7) (N1 h (sgD S) (G ++ [.lst O])) = .ok (.nx (lEnv sh h G e2 a (some (tI o)) (some (.bl t)) (some (.int (sgt n.2.1 t))))) (N1 h (sgD (S ++ [(o, sgt n.2.1 t, n.2.2 ++ [o])])) (G ++ [.lst (O ++ [tI o])])) := by
          rw [lbody, x_scons, first]
          dsimp only [turnV, R.bind_ok]
          simp only [x_scons, x_ifs, x_T, x_cmp, x_var, x_cst, List.getElem?_cons_succ, List.getElem?_cons_zero, R.bind_ok, nn, Option.map_some, R.of_some, x_trb, if_true, sgn]
          simp only [x_scons, x_asg, x_tsub, x_var, List.getElem?_cons_succ, List.getElem?_cons_zero, R.bind_ok, x_ifs, x_T, x_cmp, cmpop, g3, Option.isSome_none, Option.map_some, Bool.not_false, R.of_some, x_trb, if_true, g4, x_expr, x_meth, x_cons, x_nil, g6.1, g6.2, x_snil]
        have ih := lvisit_ev P (sh := sh) (e2 := e2) (n := n) (a := a) L (S ++ [(o, sgt n.2.1 t, n.2.2 ++ [o])]) (O ++ [tI o]) (some (tI o)) (some (.bl t)) (some (.int (sgt n.2.1 t))) w' (fun q hq => hL q (List.mem_cons_of_mem _ hq)) (by simp; omega) (fnd_app hf _) (by
          rw [List.getElem?_append_left (List.getElem?_eq_some_iff.mp hat).1]
          exact hat)
        unfold nbL at ih
        revert ih
        cases vis n.2.1 n.2.2 (L.filterMap fun g => (turns n.1 g).map fun t => (g, t)) (S ++ [(o, sgt n.2.1 t, n.2.2 ++ [o])]) with
        | ok S' =>
          rintro ⟨y5, y6, y7, E, h1, h2, h3⟩
          refine ⟨y5, y6, y7, (o, sgt n.2.1 t, n.2.2 ++ [o]) :: E, by rw [h1]; simp, h2, ?_⟩
          rw [List.map_cons, forGo, if_pos rfl, et]
          dsimp only
          rw [body]
          dsimp only [R.bind_ok]
          rw [h3]
          simp
        | error r =>
          rintro ⟨t, h3⟩
          refine ⟨t, ?_⟩
          rw [List.map_cons, forGo, if_pos rfl, et]
          dsimp only
          rw [body]
          exact h3
      | some m =>
        rw [hp] at g3
        dsimp only
        have g8 := m_get (h := h) hp (T := G ++ [.lst O])
        by_cases e : m.2.1 = sgt n.2.1 t
        · rw [if_pos e]
          have body : dSs [s__law_turns] lbody (lEnv sh h G e2 a (some (tI o)) x6 x7) (N1 h (sgD S) (G ++ [.lst O])) = .ok (.nx (lEnv sh h G e2 a (some (tI o)) (some (.bl t)) (some (.int (sgt n.2.1 t))))) (N1 h (sgD S) (G ++ [.lst O])) := by
            rw [lbody, x_scons, first]
            dsimp only [turnV, R.bind_ok]
            simp only [x_scons, x_ifs, x_T, x_cmp, x_var, x_cst, List.getElem?_cons_succ, List.getElem?_cons_zero, R.bind_ok, nn, Option.map_some, R.of_some, x_trb, if_true, sgn]
            simp only [x_scons, x_var, List.getElem?_cons_succ, List.getElem?_cons_zero, R.bind_ok, x_ifs, x_T, x_cmp, cmpop, g3, Option.isSome_some, Option.map_some, Bool.not_true, R.of_some, x_trb, Bool.false_eq_true, if_false, x_sub, g8, eq_int, e, decide_true, x_snil]
          have ih := lvisit_ev P (sh := sh) (e2 := e2) (n := n) (a := a) L S O (some (tI o)) (some (.bl t)) (some (.int (sgt n.2.1 t))) w (fun q hq => hL q (List.mem_cons_of_mem _ hq)) hO hf hat
          unfold nbL at ih
          revert ih
          cases vis n.2.1 n.2.2 (L.filterMap fun g => (turns n.1 g).map fun t => (g, t)) S with
          | ok S' =>
            rintro ⟨y5, y6, y7, E, h1, h2, h3⟩
            refine ⟨y5, y6, y7, E, h1, h2, ?_⟩
            rw [List.map_cons, forGo, if_pos rfl, et]
            dsimp only
            rw [body]
            exact h3
          | error r =>
            rintro ⟨t, h3⟩
            refine ⟨t, ?_⟩
            rw [List.map_cons, forGo, if_pos rfl, et]
            dsimp only
            rw [body]
            exact h3
        · rw [if_neg e]
          refine ⟨Cell.dct (sgD S) :: (G ++ [.lst O]), ?_⟩
          have body : dSs [s__law_turns] lbody (lEnv sh h G e2 a (some (tI o)) x6 x7) (N1 h (sgD S) (G ++ [.lst O])) = .ok (.rt .non) (N1 h (sgD S) (G ++ [.lst O])) := by
            rw [lbody, x_scons, first]
            dsimp only [turnV, R.bind_ok]
            simp only [x_scons, x_ifs, x_T, x_cmp, x_var, x_cst, List.getElem?_cons_succ, List.getElem?_cons_zero, R.bind_ok, nn, Option.map_some, R.of_some, x_trb, if_true, sgn]
            simp only [x_scons, x_var, List.getElem?_cons_succ, List.getElem?_cons_zero, R.bind_ok, x_ifs, x_T, x_cmp, cmpop, g3, Option.isSome_some, Option.map_some, Bool.not_true, R.of_some, x_trb, Bool.false_eq_true, if_false, x_sub, g8, eq_int, e, decide_false, Bool.not_false, if_true, x_ret, x_cst]
          rw [List.map_cons, forGo, if_pos rfl, et]
          dsimp only
          rw [body]
          rfl
end
end K13
namespace K13
open PySem HW
section
variable {h G : PHeap}
abbrev tbody : ISs := .cons (.ifs (.cmp .lt (.var 4) (.blt .len (.cons (.var 3) .nil))) (.cons (.for_ (.nm 5) (.ex (.var 0)) lbody) .nil) .nil) .nil
abbrev tEnv (sh : PV) (h G : PHeap) (e2 x4 x5 x6 x7 : Option PV) : HW.Env := [some sh, some (.ref h.length), e2, some (.ref (h.length + (G.length + 1))), x4, x5, x6, x7]
def ns (a m : Nat) : List PV := (List.range' a m).map fun (i : Nat) => .int i
theorem turn_test {A : List (PV × PV)} {O : List PV} {sh : PV} {e2 x5 x6 x7 : Option PV} {a : Nat} : dT [s__law_turns] (.cmp .lt (.var 4) (.blt .len (.cons (.var 3) .nil))) (lEnv sh h G e2 a x5 x6 x7) (N1 h A (G ++ [.lst O])) = .ok (decide (a < O.length)) (N1 h A (G ++ [.lst O])) := by
  simp only [x_T, x_cmp, x_var, x_blt, x_cons, x_nil, List.getElem?_cons_succ, List.getElem?_cons_zero, R.bind_ok, m_len, R.of_some, x_lt, x_lti, Option.map_some, x_trb]
  congr 1
  exact decide_eq_decide.mpr (by omega)
theorem idle {A : List (PV × PV)} {O : List PV} {sh : PV} {e2 x5 x6 x7 : Option PV} : ∀ (m a : Nat) (x4 : Option PV), O.length ≤ a → ∃ y4, forGo (fun _ => true) (tgSet (.nm 4)) (dSs [s__law_turns] tbody) (ns a m) (tEnv sh h G e2 x4 x5 x6 x7) (N1 h A (G ++ [.lst O])) = .ok (.nx (tEnv sh h G e2 y4 x5 x6 x7)) (N1 h A (G ++ [.lst O]))
  | 0, a, x4, _ => ⟨x4, by simp [ns, forGo]⟩
  | m + 1, a, x4, ha => by
    obtain ⟨y4, q⟩ := idle (A := A) (O := O) (sh := sh) (e2 := e2) (x5 := x5) (x6 := x6) (x7 := x7) m (a + 1) (some (.int a)) (by omega)
    refine ⟨y4, ?_⟩
    have et : tgSet (.nm 4) (.int a) (tEnv sh h G e2 x4 x5 x6 x7) = some (lEnv sh h G e2 a x5 x6 x7) := by simp
    have body : dSs [s__law_turns] tbody (lEnv sh h G e2 a x5 x6 x7) (N1 h A (G ++ [.lst O])) = .ok (.nx (lEnv sh h G e2 a x5 x6 x7)) (N1 h A (G ++ [.lst O])) := by
      rw [tbody, x_scons, x_ifs, turn_test, decide_eq_false (by omega)]
      simp only [R.bind_ok, Bool.false_eq_true, if_false, x_snil]
    rw [ns, List.range'_succ, List.map_cons, forGo, if_pos rfl, et]
    dsimp only
    rw [body]
    exact q
theorem turn_ev {s : List Fc} {k : Nat} (P : Pur s k) {e2 : Option PV} : ∀ (m a p : Nat) (S : List Node) (O : List PV) (x4 x5 x6 x7 : Option PV), WS s S → O = (S.drop p).map (fun n => tI n.1) → p ≤ S.length →
    match bfs (nb s) m S (p + a) with
    | .ok S' => ∃ y4 y5 y6 y7 E, S' = S ++ E ∧ WS s S' ∧ forGo (fun _ => true) (tgSet (.nm 4)) (dSs [s__law_turns] tbody) (ns a m) (tEnv (.tup (s.map tI)) h G e2 x4 x5 x6 x7) (N1 h (sgD S) (G ++ [.lst O])) = .ok (.nx (tEnv (.tup (s.map tI)) h G e2 y4 y5 y6 y7)) (N1 h (sgD S') (G ++ [.lst (O ++ E.map fun n => tI n.1)]))
    | .error _ => ∃ t, forGo (fun _ => true) (tgSet (.nm 4)) (dSs [s__law_turns] tbody) (ns a m) (tEnv (.tup (s.map tI)) h G e2 x4 x5 x6 x7) (N1 h (sgD S) (G ++ [.lst O])) = .ok (.rt .non) (h ++ t)
  | 0, a, p, S, O, x4, x5, x6, x7, w, hO, hp => by
    rw [bfs]
    exact ⟨x4, x5, x6, x7, [], by simp, w, by simp [ns, forGo]⟩
  | m + 1, a, p, S, O, x4, x5, x6, x7, w, hO, hp => by
    have lO : O.length = S.length - p := by rw [hO]; simp
    rw [bfs]
    cases hi : S[p + a]? with
    | none =>
      have := List.getElem?_eq_none_iff.mp hi
      obtain ⟨y4, q⟩ := idle (h := h) (G := G) (A := sgD S) (O := O) (sh := .tup (s.map tI)) (e2 := e2) (x5 := x5) (x6 := x6) (x7 := x7) (m + 1) a x4 (by omega)
      exact ⟨y4, x5, x6, x7, [], by simp, w, by rw [q]; simp⟩
    | some n =>
      dsimp only
      have hil := (List.getElem?_eq_some_iff.mp hi).1
      have hn := List.mem_of_getElem? hi
      have hat : O[a]? = some (tI n.1) := by rw [hO]; exact drop_at hi
      have v := lvisit_ev (h := h) (G := G) P (sh := .tup (s.map tI)) (e2 := e2) (n := n) (a := a) s S O x5 x6 x7 w (fun q hq => hq) (by omega) (fnd_at w.nd hi) hat
      have et : tgSet (.nm 4) (.int a) (tEnv (.tup (s.map tI)) h G e2 x4 x5 x6 x7) = some (lEnv (.tup (s.map tI)) h G e2 a x5 x6 x7) := by simp
      have lk0 : ∀ {env : HW.Env} {g : PHeap}, lockV 0 (some (.tup (s.map tI)) :: env) g = none := fun {env g} => rfl
      have body : dSs [s__law_turns] tbody (lEnv (.tup (s.map tI)) h G e2 a x5 x6 x7) (N1 h (sgD S) (G ++ [.lst O])) = forGo (fun _ => true) (tgSet (.nm 5)) (dSs [s__law_turns] lbody) (s.map tI) (lEnv (.tup (s.map tI)) h G e2 a x5 x6 x7) (N1 h (sgD S) (G ++ [.lst O])) := by
        rw [tbody, x_scons, x_ifs, turn_test, decide_eq_true (by omega)]
        simp only [R.bind_ok, if_true, x_scons, x_for, x_lkv, lk0, x_lk, x_ex, x_var, List.getElem?_cons_zero, x_wt, R.of_some, x_snil]
        generalize forGo _ _ _ _ _ _ = r
        cases r with
        | ok o g => cases o <;> rfl
        | exc e g => rfl
        | bad => rfl
      have go : forGo (fun _ => true) (tgSet (.nm 4)) (dSs [s__law_turns] tbody) (ns a (m + 1)) (tEnv (.tup (s.map tI)) h G e2 x4 x5 x6 x7) (N1 h (sgD S) (G ++ [.lst O])) = (forGo (fun _ => true) (tgSet (.nm 5)) (dSs [s__law_turns] lbody) (s.map tI) (lEnv (.tup (s.map tI)) h G e2 a x5 x6 x7) (N1 h (sgD S) (G ++ [.lst O]))).bind fun o h1 => match o with
            | .nx e => forGo (fun _ => true) (tgSet (.nm 4)) (dSs [s__law_turns] tbody) (ns (a + 1) m) e h1
            | .ct e => forGo (fun _ => true) (tgSet (.nm 4)) (dSs [s__law_turns] tbody) (ns (a + 1) m) e h1
            | .bk e => .ok (.nx e) h1
            | .rt v => .ok (.rt v) h1 := by
        rw [ns, List.range'_succ, List.map_cons, forGo, if_pos rfl, et]
        dsimp only
        rw [body]
        rfl
      rw [go]
      change match (match vis n.2.1 n.2.2 (nbL n.1 s) S with
        | .ok S' => bfs (nb s) m S' (p + a + 1)
        | .error r => .error r) with
        | .ok S' => _
        | .error _ => _
      revert v
      cases vis n.2.1 n.2.2 (nbL n.1 s) S with
      | error r =>
        rintro ⟨t, h3⟩
        exact ⟨t, by rw [h3]; rfl⟩
      | ok S1 =>
        rintro ⟨y5, y6, y7, E, h1, h2, h3⟩
        dsimp only
        rw [h3]
        dsimp only [R.bind_ok]
        have ih := turn_ev P (e2 := e2) m (a + 1) p S1 (O ++ E.map fun n => tI n.1) (some (.int a)) y5 y6 y7 h2 (by rw [h1, hO, List.drop_append_of_le_length (by omega), List.map_append]) (by rw [h1]; simp; omega)
        rw [← Nat.add_assoc] at ih
        revert ih
        cases bfs (nb s) m S1 (p + a + 1) with
        | error r => exact id
        | ok S2 =>
          rintro ⟨z4, z5, z6, z7, E2, k1, k2, k3⟩
          refine ⟨z4, z5, z6, z7, E ++ E2, by rw [k1, h1, List.append_assoc], k2, ?_⟩
          rw [List.map_append, ← List.append_assoc, ← k3]
abbrev qbody : ISs := .cons (.ifs (.cmp .notin (.var 2) (.var 1)) (.cons (.asg (.sub (.var 1) (.var 2)) (.cst (.int 1))) (.cons (.asg (.tg (.nm 3)) (.lst true (.cons (.var 2) .nil))) (.cons (.for_ (.nm 4) (.rng1 (.blt .len (.cons (.var 0) .nil))) tbody) .nil))) .nil) .nil
abbrev qEnv (sh : PV) (h : PHeap) (x2 x3 x4 x5 x6 x7 : Option PV) : HW.Env := [some sh, some (.ref h.length), x2, x3, x4, x5, x6, x7]
theorem rng_ns {n : Nat} (hn : n ≤ 1000) {g : PHeap} : rngV (.int (n : Int)) g = .ok (ns 0 n) g := by
  rw [rngV_nat (by omega)]
  unfold ns
  rw [List.range_eq_range']
theorem q_old {s : List Fc} {S : List Node} {f : Fc} (hf : (fnd S f).isSome = true) {x3 x4 x5 x6 x7 : Option PV} : dSs [s__law_turns] qbody (qEnv (.tup (s.map tI)) h (some (tI f)) x3 x4 x5 x6 x7) (N1 h (sgD S) G) = .ok (.nx (qEnv (.tup (s.map tI)) h (some (tI f)) x3 x4 x5 x6 x7)) (N1 h (sgD S) G) := by
  have g3 := m_in (h := h) S f (T := G)
  rw [hf] at g3
  simp only [qbody, x_scons, x_ifs, x_T, x_cmp, x_var, List.getElem?_cons_succ, List.getElem?_cons_zero, R.bind_ok, cmpop, g3, Option.map_some, Bool.not_true, R.of_some, x_trb, Bool.false_eq_true, if_false, x_snil]
theorem q_new {s : List Fc} {S : List Node} (hs : s.length ≤ 1000) (hS : S.length ≤ 1000) {f : Fc} (hfn : fnd S f = none) {x3 x4 x5 x6 x7 : Option PV} : dSs [s__law_turns] qbody (qEnv (.tup (s.map tI)) h (some (tI f)) x3 x4 x5 x6 x7) (N1 h (sgD S) G) = forGo (fun _ => true) (tgSet (.nm 4)) (dSs [s__law_turns] tbody) (ns 0 s.length) (tEnv (.tup (s.map tI)) h G (some (tI f)) x4 x5 x6 x7) (N1 h (sgD (S ++ [(f, 1, [f])])) (G ++ [.lst [tI f]])) := by
  have lm : S.length < LIM := by simp [LIM]; omega
  have g3 := m_in (h := h) S f (T := G)
  rw [hfn] at g3
  have g4 := m_put (h := h) (n := (f, 1, [f])) hfn lm (T := G)
  dsimp only at g4
  have ln : (N1 h (sgD (S ++ [(f, 1, [f])])) G).length = h.length + (G.length + 1) := by simp
  have ap : N1 h (sgD (S ++ [(f, 1, [f])])) G ++ [.lst [tI f]] = N1 h (sgD (S ++ [(f, 1, [f])])) (G ++ [.lst [tI f]]) := by simp
  have rn : ∀ g : PHeap, rngV (.int (s.length : Int)) g = .ok (ns 0 s.length) g := fun g => rng_ns (by omega)
  simp -implicitDefEqProofs only [qbody, x_scons, x_ifs, x_T, x_cmp, x_var, List.getElem?_cons_succ, List.getElem?_cons_zero, R.bind_ok, cmpop, g3, Option.isSome_none, Option.map_some, Bool.not_false, R.of_some, x_trb, if_true, x_asg, x_cst, x_tsub, g4, x_lst, x_cons, x_nil, x_mkt, ln, ap, x_tg, x_tnm, List.length_cons, List.length_nil, Nat.reduceAdd, Nat.reduceLT, List.set_cons_succ, List.set_cons_zero, x_for, x_lkr, x_lk, x_rng1, x_blt, x_lent, List.length_map, rn, x_snil]
  generalize forGo _ _ _ _ _ _ = r
  cases r with
  | ok o g => cases o <;> rfl
  | exc e g => rfl
  | bad => rfl
theorem for_step {chk : Chk} {tg : PV → HW.Env → Option HW.Env} {body : HW.Env → PHeap → R Out} {x : PV} {xs : List PV} {env env1 : HW.Env} {g : PHeap} (hc : chk g = true) (ht : tg x env = some env1) : forGo chk tg body (x :: xs) env g = (body env1 g).bind fun o h1 => match o with
    | .nx e => forGo chk tg body xs e h1
    | .ct e => forGo chk tg body xs e h1
    | .bk e => .ok (.nx e) h1
    | .rt v => .ok (.rt v) h1 := by
  rw [forGo, if_pos hc, ht]
  all_goals rfl
def LOk (s : List Fc) (h : PHeap) (L : List Fc) (S : List Node) (G : PHeap) (x2 x3 x4 x5 x6 x7 : Option PV) (r : Except (List Fc) (List Node)) : Prop := match r with
    | .ok S' => ∃ G' y2 y3 y4 y5 y6 y7, WS s S' ∧ forGo (fun _ => true) (tgSet (.nm 2)) (dSs [s__law_turns] qbody) (L.map tI) (qEnv (.tup (s.map tI)) h x2 x3 x4 x5 x6 x7) (N1 h (sgD S) G) = .ok (.nx (qEnv (.tup (s.map tI)) h y2 y3 y4 y5 y6 y7)) (N1 h (sgD S') G')
    | .error _ => ∃ t, forGo (fun _ => true) (tgSet (.nm 2)) (dSs [s__law_turns] qbody) (L.map tI) (qEnv (.tup (s.map tI)) h x2 x3 x4 x5 x6 x7) (N1 h (sgD S) G) = .ok (.rt .non) (h ++ t)
theorem louter_ev {s : List Fc} {k : Nat} (P : Pur s k) (L : List Fc) : ∀ (S : List Node) (G : PHeap) (x2 x3 x4 x5 x6 x7 : Option PV), WS s S → (∀ f ∈ L, f ∈ s) → LOk s h L S G x2 x3 x4 x5 x6 x7 (outer (nb s) s.length L S) := by
  induction L with
  | nil =>
    intro S G x2 x3 x4 x5 x6 x7 w _
    rw [outer]
    exact ⟨G, x2, x3, x4, x5, x6, x7, w, by simp [forGo]⟩
  | cons f L ih =>
    intro S G x2 x3 x4 x5 x6 x7 w hL
    have few := w.few
    have sf := P.few
    have hfs := hL f List.mem_cons_self
    have et : tgSet (.nm 2) (tI f) (qEnv (.tup (s.map tI)) h x2 x3 x4 x5 x6 x7) = some (qEnv (.tup (s.map tI)) h (some (tI f)) x3 x4 x5 x6 x7) := by simp
    have step := for_step (chk := fun _ => true) (body := dSs [s__law_turns] qbody) (xs := L.map tI) (g := N1 h (sgD S) G) rfl et
    rw [outer]
    by_cases hf : (fnd S f).isSome = true
    · rw [if_pos hf]
      rw [q_old hf] at step
      have i := ih S G (some (tI f)) x3 x4 x5 x6 x7 w fun q hq => hL q (List.mem_cons_of_mem _ hq)
      revert i
      cases outer (nb s) s.length L S with
      | ok S' =>
        rintro ⟨G', y2, y3, y4, y5, y6, y7, w', q⟩
        exact ⟨G', y2, y3, y4, y5, y6, y7, w', step.trans q⟩
      | error r =>
        rintro ⟨t, q⟩
        exact ⟨t, step.trans q⟩
    · rw [if_neg hf]
      have hfn : fnd S f = none := by simpa using hf
      have w1 := w.add (n := (f, 1, [f])) hfn hfs (by simp)
      have wl := turn_ev (h := h) (G := G) P (e2 := some (tI f)) s.length 0 S.length (S ++ [(f, 1, [f])]) [tI f] x4 x5 x6 x7 w1 (by simp) (by simp)
      rw [Nat.add_zero] at wl
      rw [q_new (by omega) (by omega) hfn] at step
      revert wl
      cases bfs (nb s) s.length (S ++ [(f, 1, [f])]) S.length with
      | error r =>
        rintro ⟨t, q⟩
        rw [q] at step
        exact ⟨t, step⟩
      | ok S1 =>
        rintro ⟨y4, y5, y6, y7, E, h1, w2, q⟩
        dsimp only
        rw [q] at step
        have i := ih S1 (G ++ [.lst ([tI f] ++ E.map fun n => tI n.1)]) (some (tI f)) (some (.ref (h.length + (G.length + 1)))) y4 y5 y6 y7 w2 fun q hq => hL q (List.mem_cons_of_mem _ hq)
        revert i
        cases outer (nb s) s.length L S1 with
        | ok S' =>
          rintro ⟨G', z2, z3, z4, z5, z6, z7, w', q'⟩
          exact ⟨G', z2, z3, z4, z5, z6, z7, w', step.trans q'⟩
        | error r =>
          rintro ⟨t, q'⟩
          exact ⟨t, step.trans q'⟩
theorem finish_dctT {h t : PHeap} {es : List (PV × PV)} (hk : ∀ e ∈ es, below h.length e.1 = true ∧ below h.length e.2 = true) : HW.finish false h (.ref h.length) (h ++ .dct es :: t) = .ok (.dct es) h := by
  have h1 : okOuter h (h ++ .dct es :: t) = true := by
    unfold okOuter
    rw [List.all_eq_true]
    intro m hm
    rw [List.mem_range] at hm
    rw [List.getElem?_append_left hm]
    simp
  have h2 : frz (h ++ .dct es :: t) h.length 12 (.ref h.length) = some (.dct es) := by
    unfold frz
    have n : below h.length (.ref h.length) = false := by simp [below]
    have g : (h ++ Cell.dct es :: t)[h.length]? = some (.dct es) := by
      rw [List.getElem?_append_right (Nat.le_refl _)]
      simp
    rw [n]
    simp only [Bool.false_eq_true, if_false, g]
    rw [if_pos (belows_all fun x hx => by
      obtain ⟨e, he, rfl⟩ := List.mem_map.mp hx
      exact (hk e he).1)]
    unfold frzs
    rw [mapM_frz (k := 9) fun x hx => by
      obtain ⟨e, he, rfl⟩ := List.mem_map.mp hx
      exact (hk e he).2]
    simp [zip_fst_snd]
  unfold HW.finish
  rw [h1, h2]
  simp
def signsV (s : List Fc) : PV := match outer (nb s) s.length s [] with
  | .ok S => .dct (dc (sgs S))
  | .error _ => .non
theorem law_signs_ev {s : List Fc} {k : Nat} (P : Pur s k) : s__law_signs [.tup (s.map tI)] h = .ok (signsV s) h := by
  have lk0 : ∀ {env : HW.Env} {g : PHeap}, lockV 0 (some (.tup (s.map tI)) :: env) g = none := fun {env g} => rfl
  have ov := louter_ev (h := h) P s [] [] none none none none none none ⟨List.nodup_nil, by simp, by simp⟩ (fun f hf => hf)
  unfold signsV
  have pre : s__law_signs [.tup (s.map tI)] h = ((forGo (fun _ => true) (tgSet (.nm 2)) (dSs [s__law_turns] qbody) (s.map tI) (qEnv (.tup (s.map tI)) h none none none none none none) (N1 h (sgD []) [])).bind fun o h1 => match o with
      | .nx env => dSs [s__law_turns] (.cons (.ret (.var 1)) .nil) env h1
      | o => .ok o h1).bind fun o h1 => match o with
      | .rt v => HW.finish false h v h1
      | .nx _ => HW.finish false h .non h1
      | _ => .bad := by
    have n2 : h ++ [Cell.dct []] = N1 h (sgD []) [] := by simp [sgD]
    have dd : ∀ (ctx : List Sem) (env : HW.Env) (g : PHeap), dE ctx (.dct true .nil) env g = .ok (.ref g.length) (g ++ [.dct []]) := fun ctx env g => by simp
    simp only [s__law_signs, runFn, if__law_signs, List.length_cons, List.length_nil, Nat.reduceAdd, if_true, List.map_cons, List.map_nil, Nat.reduceSub, List.replicate_succ, List.replicate_zero, List.cons_append, List.nil_append, x_scons, x_asg, dd, R.bind_ok, x_tg, x_tnm, Nat.reduceLT, R.of_some, List.set_cons_succ, List.set_cons_zero, n2, x_for, x_lkv, lk0, x_lk, x_ex, x_var, List.getElem?_cons_zero, x_wt]
    all_goals
      show ((forGo (fun _ => true) (tgSet (.nm 2)) (dSs [s__law_turns] qbody) (s.map tI) (qEnv (.tup (s.map tI)) h none none none none none none) (N1 h (sgD []) [])).bind _).bind _ = _
      generalize forGo _ _ _ _ _ _ = r
      cases r with
      | ok o g => cases o <;> rfl
      | exc e g => rfl
      | bad => rfl
  rw [pre]
  revert ov
  cases outer (nb s) s.length s [] with
  | error r =>
    rintro ⟨t, q⟩
    rw [q]
    dsimp only [R.bind_ok]
    exact finish_ext (v := .non) rfl
  | ok S' =>
    rintro ⟨G', y2, y3, y4, y5, y6, y7, w, q⟩
    dsimp only
    rw [q]
    simp only [R.bind_ok, x_scons, x_ret, x_var, List.getElem?_cons_succ, List.getElem?_cons_zero]
    have e : sgD S' = dc (sgs S') := by
      unfold sgD dc sgs
      rw [List.map_map]
      rfl
    rw [N1, e]
    refine finish_dctT fun e he => ?_
    obtain ⟨p, _, rfl⟩ := List.mem_map.mp he
    exact ⟨below_tI' _ _, rfl⟩
end
end K13
namespace K13
open PySem HW
/-! what a chain is, the judge's and the law's *)-/
def cpO : PV → Option (Fc × Int)
  | .tup [.tup xs, .int n] => (asInts xs).map fun f => (f, n)
  | _ => none
def okP (s : List Fc) (v : PV) : Bool := match cpO v with
  | some p => decide (p.1 ∈ s) && decide (p.2 ≠ 0)
  | none => false
def chO (s : List Fc) : PV → Option Tb
  | .tup xs => if xs.all (okP s) then (xs.mapM cpO).bind fun T => if incF (T.map (·.1)) then some T else none else none
  | _ => none
theorem cpO_eq {v : PV} {p : Fc × Int} (h : cpO v = some p) : v = cp p := by
  unfold cpO at h
  split at h
  · obtain ⟨f, h1, rfl⟩ := Option.map_eq_some_iff.mp h
    rw [asInts_eq h1]
    rfl
  · cases h
theorem all_okP {s : List Fc} : ∀ {xs : List PV}, xs.all (okP s) = true → ∃ T : Tb, xs.mapM cpO = some T ∧ xs = T.map cp ∧ ∀ p ∈ T, p.1 ∈ s ∧ p.2 ≠ 0
  | [], _ => ⟨[], rfl, rfl, by simp⟩
  | x :: xs, h => by
    rw [List.all_cons, Bool.and_eq_true] at h
    obtain ⟨T, h1, h2, h3⟩ := all_okP h.2
    have h4 := h.1
    unfold okP at h4
    cases e : cpO x with
    | none => rw [e] at h4; cases h4
    | some p =>
      rw [e] at h4
      simp only [Bool.and_eq_true, decide_eq_true_eq] at h4
      refine ⟨p :: T, by rw [List.mapM_cons, e, h1]; rfl, by rw [List.map_cons, ← cpO_eq e, ← h2], fun q hq => ?_⟩
      rcases List.mem_cons.mp hq with rfl | hq
      · exact h4
      · exact h3 q hq
theorem face_as {s : List Fc} (S : Shp s) {f : Fc} (hf : f ∈ s) : asFace (tI f) = some f := by
  have e := asInts_map f
  unfold tI asFace
  simp only [e]
  rw [if_pos]
  have h1 := (S.f f hf).1
  rw [Bool.and_eq_true, Bool.and_eq_true]
  refine ⟨⟨by simpa using h1, List.all_eq_true.mpr fun x hx => decide_eq_true (S.nn f hf x hx)⟩, (incI_iff f).mpr (S.inc f hf)⟩
section
variable {h : PHeap}
theorem okP_face {s : List Fc} (S : Shp s) {a b : PV} (ha : asFace a = none) : okP s (.tup [a, b]) = false := by
  unfold okP
  cases e : cpO (.tup [a, b]) with
  | none => rfl
  | some p =>
    dsimp only
    by_cases q : p.1 ∈ s
    · have := cpO_eq e
      simp only [cp, PV.tup.injEq, List.cons.injEq] at this
      rw [this.1, face_as S q] at ha
      cases ha
    · simp [q]
theorem okP_some (s : List Fc) (f : Fc) (n : Int) : okP s (.tup [tI f, .int n]) = (decide (f ∈ s) && decide (n ≠ 0)) := by
  have : cpO (.tup [tI f, .int n]) = some (f, n) := by
    show (asInts (f.map .int)).map _ = _
    rw [asInts_map]
    rfl
  unfold okP
  rw [this]
theorem okP_int {s : List Fc} {a b : PV} (hb : isI b = false) : okP s (.tup [a, b]) = false := by
  unfold okP
  cases e : cpO (.tup [a, b]) with
  | none => rfl
  | some p =>
    have := cpO_eq e
    simp only [cp, PV.tup.injEq, List.cons.injEq] at this
    rw [this.2.1] at hb
    cases hb
abbrev cbody : ISs := .cons (.ifs (.or (.not (.blt (.isi "tuple") (.cons (.var 2) .nil))) (.or (.cmp .ne (.blt .len (.cons (.var 2) .nil)) (.cst (.int 2))) (.or (.not (.call 0 (.cons (.sub (.var 2) (.cst (.int 0))) .nil))) (.cmp .notin (.sub (.var 2) (.cst (.int 0))) (.var 1))))) (.cons (.ret (.cst (.bl false))) .nil) .nil) (.cons (.ifs (.or (.not (.call 1 (.cons (.sub (.var 2) (.cst (.int 1))) .nil))) (.cmp .eq (.sub (.var 2) (.cst (.int 1))) (.cst (.int 0)))) (.cons (.ret (.cst (.bl false))) .nil) .nil) .nil)
theorem pair_ev {s : List Fc} (S : Shp s) {sF sI : Sem} {kn : PV} {lf : PV → Bool} (hF : ∀ a, lf a = false → ∀ b, okP s (.tup [a, b]) = false) (hT : ∀ a, lf a = true → ∃ f, a = tI f) (hin : ∀ f : Fc, isIn h (tI f) kn = some (decide (f ∈ s)))
    {m n : Nat} (eF : ∀ a, good m n a = true → sF [a] h = .ok (.bl (lf a)) h) (eI : ∀ v, plainV v = true → sI [v] h = .ok (.bl (isI v)) h) {x : PV} (hx : good m (n + 1) x = true) {v : PV} {r : List (Option PV)} :
    (okP s x = false → dSs [sF, sI] cbody (some v :: some kn :: some x :: r) h = .ok (.rt (.bl false)) h) ∧ (okP s x = true → dSs [sF, sI] cbody (some v :: some kn :: some x :: r) h = .ok (.nx (some v :: some kn :: some x :: r)) h) := by
  cases x with
  | tup xs =>
    by_cases hl : (xs.length : Int) = 2
    · have hl' : xs.length = 2 := by omega
      match xs, hl' with
      | [a, b], _ =>
        have ga := (good_items hx).2 a (by simp)
        have gb := (good_items hx).2 b (by simp)
        have ea := eF a ga
        have eb := eI b (good_plain gb)
        cases la : lf a with
        | false =>
          rw [la] at ea
          rw [hF a la b]
          refine ⟨fun _ => ?_, fun e => by cases e⟩
          simp [eq_int, ea]
        | true =>
          rw [la] at ea
          obtain ⟨f, rfl⟩ := hT a la
          have nin : cmpop .notin (tI f) kn h = some (!decide (f ∈ s)) := by simp [cmpop, hin]
          by_cases hf : f ∈ s
          · cases ib : isI b with
            | false =>
              rw [ib] at eb
              rw [okP_int ib]
              refine ⟨fun _ => ?_, fun e => by cases e⟩
              simp [eq_int, ea, nin, hf, eb]
            | true =>
              rw [ib] at eb
              cases b with
              | int k =>
                rw [okP_some]
                by_cases k0 : k = 0
                · subst k0
                  refine ⟨fun _ => ?_, fun e => by simp at e⟩
                  simp [eq_int, ea, nin, hf, eb]
                · refine ⟨fun e => by simp [k0, hf] at e, fun _ => ?_⟩
                  simp [eq_int, ea, nin, hf, eb, k0]
              | _ => cases ib
          · have : okP s (.tup [tI f, b]) = false := by
              cases ib : isI b with
              | false => exact okP_int ib
              | true =>
                cases b with
                | int k => rw [okP_some]; simp [hf]
                | _ => cases ib
            rw [this]
            refine ⟨fun _ => ?_, fun e => by cases e⟩
            simp [eq_int, ea, nin, hf]
    · have : okP s (.tup xs) = false := by
        unfold okP
        cases e : cpO (.tup xs) with
        | none => rfl
        | some p =>
          have := cpO_eq e
          simp only [cp, PV.tup.injEq] at this
          rw [this] at hl
          simp at hl
      rw [this]
      refine ⟨fun _ => ?_, fun e => by cases e⟩
      simp [eq_int, hl]
  | non => exact ⟨fun _ => by simp, fun e => by cases e⟩
  | bl b => exact ⟨fun _ => by simp, fun e => by cases e⟩
  | int b => exact ⟨fun _ => by simp, fun e => by cases e⟩
  | str b => exact ⟨fun _ => by simp, fun e => by cases e⟩
  | lst b => exact ⟨fun _ => by simp, fun e => by cases e⟩
  | _ => simp [good] at hx
def lfV : PV → Bool
  | .tup xs => !xs.isEmpty && xs.all isNatV
  | _ => false
theorem law_is_face_ev {m n : Nat} (hm : m ≤ 60) {v : PV} (hv : good m n v = true) : s__law_is_face [v] h = .ok (.bl (lfV v)) h := by
  cases v with
  | tup xs =>
    cases n with
    | zero => simp [good] at hv
    | succ n =>
      obtain ⟨hl, hg⟩ := good_items hv
      have nc := nats_comp (h := h) (sem := s__law_is_int) (env := [some (.tup xs), none]) (i := 1) (by simp) (fun v => law_is_int_ev) (fun x hx => good_plain (hg x hx)) (by simp [LIM]; omega)
      have ce : convop .all false (.lst (xs.map fun x => .bl (isNatV x))) h = .ok (.bl (xs.all isNatV)) h := all_map isNatV xs
      by_cases e : xs = []
      · subst e
        simp [s__law_is_face, runFn, if__law_is_face, lfV]
        exact finish_same (v := .bl false) rfl
      · have l0 : 0 < xs.length := List.length_pos_iff.mpr e
        simp [s__law_is_face, runFn, if__law_is_face, lockV, l0, nc, ce]
        have le : lfV (.tup xs) = xs.all isNatV := by
          cases xs with
          | nil => exact absurd rfl e
          | cons _ _ => rfl
        rw [le]
        exact finish_same (v := .bl _) rfl
  | _ =>
    cases n <;> simp [good] at hv <;> simp [s__law_is_face, runFn, if__law_is_face, lfV] <;> exact finish_same (v := .bl false) rfl
theorem lfV_eq {v : PV} (hv : lfV v = true) : ∃ f : Fc, v = tI f := by
  cases v with
  | tup xs =>
    unfold lfV at hv
    rw [Bool.and_eq_true] at hv
    obtain ⟨f, hf, _⟩ := natA hv.2
    exact ⟨f, by rw [asInts_eq hf, tI]⟩
  | _ => cases hv
theorem lfV_s {s : List Fc} (S : Shp s) {f : Fc} (hf : f ∈ s) : lfV (tI f) = true := by
  unfold tI lfV
  rw [Bool.and_eq_true]
  have h1 := (S.f f hf).1
  exact ⟨by simpa using h1, natB (List.all_eq_true.mpr fun x hx => decide_eq_true (S.nn f hf x hx))⟩
theorem okP_lf {s : List Fc} (S : Shp s) {a : PV} (ha : lfV a = false) (b : PV) : okP s (.tup [a, b]) = false := by
  unfold okP
  cases e : cpO (.tup [a, b]) with
  | none => rfl
  | some p =>
    dsimp only
    by_cases q : p.1 ∈ s
    · have := cpO_eq e
      simp only [cp, PV.tup.injEq, List.cons.injEq] at this
      rw [this.1, lfV_s S q] at ha
      cases ha
    · simp [q]
theorem zip_cps (T : Tb) : zipOf (T.map cp) ((T.map cp).drop 1) = (T.zip (T.drop 1)).map fun p => .tup [cp p.1, cp p.2] := by
  unfold zipOf
  rw [← List.map_drop, List.zipWith_map, ← List.map_uncurry_zip_eq_zipWith]
  rfl
theorem incF_map (T : Tb) : incF (T.map (·.1)) = (T.zip (T.drop 1)).all fun p => decide (p.1.1 < p.2.1) := by
  unfold incF
  rw [← List.map_drop, List.zip_map, List.all_map]
  rfl
theorem good_cp (m n : Nat) (hm : 10 ≤ m) {p : Fc × Int} (hp : p.1.length ≤ 10) : good m (n + 2) (cp p) = true :=
  good_tup (by simp; omega) fun x hx => by
    simp only [List.mem_cons, List.not_mem_nil, or_false] at hx
    rcases hx with rfl | rfl
    · exact good_tup (by simp; omega) fun y hy => by
        obtain ⟨i, _, rfl⟩ := List.mem_map.mp hy
        exact good_int _ _ _
    · exact good_int _ _ _
theorem is_chain_ev {s : List Fc} (S : Shp s) {m n : Nat} (hm : m ≤ 60) {v : PV} (hv : good m (n + 2) v = true) : s_is_chain [v, .dct (db s)] h = .ok (.bl (chO s v).isSome) h := by
  cases v with
  | tup xs =>
    obtain ⟨hl, hg⟩ := good_items hv
    have xl : xs.length ≤ LIM := by simp [LIM]; omega
    have pe : ∀ x ∈ xs, ∀ env, (∃ y3 y4 : Option PV, ∃ y2, env = [some (.tup xs), some (.dct (db s)), y2, y3, y4]) → ∃ e1, tgSet (.nm 2) x env = some e1 ∧ (okP s x = false → dSs [s_is_face, s_is_integer] cbody e1 h = .ok (.rt (.bl false)) h) ∧ (okP s x = true → ∃ e2, dSs [s_is_face, s_is_integer] cbody e1 h = .ok (.nx e2) h ∧ ∃ y3 y4 : Option PV, ∃ y2, e2 = [some (.tup xs), some (.dct (db s)), y2, y3, y4]) := by
      rintro x hx env ⟨y3, y4, y2, rfl⟩
      refine ⟨[some (.tup xs), some (.dct (db s)), some x, y3, y4], by simp, ?_⟩
      have gx : good m (n + 1) x = true := hg x hx
      obtain ⟨q1, q2⟩ := pair_ev (h := h) S (sF := s_is_face) (sI := s_is_integer) (kn := .dct (db s)) (lf := fun a => (asFace a).isSome) (fun a ha b => okP_face S (by simpa using ha)) (fun a ha => by
        obtain ⟨f, hf⟩ := Option.isSome_iff_exists.mp ha
        exact ⟨f, (asFace_eq hf).1⟩) (fun f => in_db f s) (fun a ha => is_face_ev hm ha) (fun v hv => is_integer_ev hv) gx (v := .tup xs) (r := [y3, y4])
      exact ⟨q1, fun e => ⟨_, q2 e, _, _, _, rfl⟩⟩
    have fa := for_all2 (enc := id) (chk := fun _ => true) (v := .bl false) (okP s) (fun env => ∃ y3 y4 : Option PV, ∃ y2, env = [some (.tup xs), some (.dct (db s)), y2, y3, y4]) rfl xs [some (.tup xs), some (.dct (db s)), none, none, none] pe ⟨_, _, _, rfl⟩
    rw [List.map_id] at fa
    cases q : xs.all (okP s) with
    | false =>
      have r := fa.1 q
      simp [s_is_chain, runFn, if_is_chain, lockV, chO, q]
      rw [r]
      exact finish_same (v := .bl false) rfl
    | true =>
      obtain ⟨env', r, ⟨y3, y4, y2, rfl⟩⟩ := fa.2 q
      obtain ⟨T, h1, h2, h3⟩ := all_okP q
      have c : (chO s (.tup xs)).isSome = incF (T.map (·.1)) := by
        simp only [chO, q, if_true, h1, Option.bind_some]
        cases incF (T.map (·.1)) <;> rfl
      have hlT : T.length ≤ 60 := by rw [h2] at hl; simp at hl; omega
      have cc : compGo (fun _ => true) (tgSet (.tp [.nm 3, .nm 4])) (dIfs [s_is_face, s_is_integer] .nil) (dE [s_is_face, s_is_integer] (.cmp .lt (.sub (.var 3) (.cst (.int 0))) (.sub (.var 4) (.cst (.int 0))))) [some (.tup (T.map cp)), some (.dct (db s)), y2, none, none] (zipOf (T.map cp) ((T.map cp).drop 1)) h [] = .ok ((T.zip (T.drop 1)).map fun p => .bl (decide (p.1.1 < p.2.1))) h := by
        rw [zip_cps]
        exact comp_map (fun p : (Fc × Int) × Fc × Int => .bl (decide (p.1.1 < p.2.1))) rfl _ (fun p hp => ⟨_, by simp; rfl, by simp [lt_tI]⟩) (by simp [LIM]; omega)
      have ce : convop .all false (.lst ((T.zip (T.drop 1)).map fun p => .bl (decide (p.1.1 < p.2.1)))) h = .ok (.bl (incF (T.map (·.1)))) h := by rw [all_enc (fun p : (Fc × Int) × Fc × Int => decide (p.1.1 < p.2.1)) _, incF_map]
      rw [c]
      simp [s_is_chain, runFn, if_is_chain, lockV]
      rw [r, h2]
      simp only [List.drop_one] at cc ce
      simp [lockV, cut_tail, cc, ce]
      exact finish_same (v := .bl _) rfl
  | _ =>
    simp [good] at hv <;> simp [s_is_chain, runFn, if_is_chain, chO] <;> exact finish_same (v := .bl false) rfl
theorem eq_lsts {g : PHeap} (a b : List Fc) : pyEq g (.lst (a.map tI)) (.lst (b.map tI)) = some (decide (a = b)) := by
  obtain ⟨d, e, h1, h2, h3⟩ := eq_tame (n := 2) (g := g) (by omega) (a := .lst (a.map tI)) (b := .lst (b.map tI)) (by rw [tame]; exact tame_tIs 0 a) (by rw [tame]; exact tame_tIs 0 b)
  rw [toD, toD_tIs] at h1 h2
  cases h1
  cases h2
  rw [h3, PyData.eqv, eqv_tIs]
theorem set_faces {v : PV} {f : List Fc} (hv : asSeq h v = some (f.map tI)) (hl : f.length < 64) (hne : ∀ x ∈ f, x ≠ []) {rows : List Fc} (h1 : rows.Pairwise (· < ·)) (h2 : ∀ k, k ∈ rows ↔ k ∈ f) : convop .sortedSet false v h = .ok (.lst (rows.map tI)) h := by
  obtain ⟨r, r1, r2, r3⟩ := rows_F f
  have e : r = rows := uniqF r2 h1 fun k => (r3 k).trans (h2 k).symm
  subst e
  simp only [convop, hv, R.of_some, R.bind_ok]
  rw [plainSet_tI, sortOk_tI hne]
  simp [hl, r1]
theorem law_is_chain_ev {s : List Fc} (S : Shp s) {m n : Nat} (hm : m ≤ 60) {v : PV} (hv : good m (n + 2) v = true) : s__law_is_chain [v, .tup (s.map tI)] h = .ok (.bl (chO s v).isSome) h := by
  cases v with
  | tup xs =>
    obtain ⟨hl, hg⟩ := good_items hv
    have xl : xs.length ≤ LIM := by simp [LIM]; omega
    have pe : ∀ x ∈ xs, ∀ env, (∃ y2 : Option PV, env = [some (.tup xs), some (.tup (s.map tI)), y2]) → ∃ e1, tgSet (.nm 2) x env = some e1 ∧ (okP s x = false → dSs [s__law_is_face, s__law_is_int] cbody e1 h = .ok (.rt (.bl false)) h) ∧ (okP s x = true → ∃ e2, dSs [s__law_is_face, s__law_is_int] cbody e1 h = .ok (.nx e2) h ∧ ∃ y2 : Option PV, e2 = [some (.tup xs), some (.tup (s.map tI)), y2]) := by
      rintro x hx env ⟨y2, rfl⟩
      refine ⟨[some (.tup xs), some (.tup (s.map tI)), some x], by simp, ?_⟩
      have gx : good m (n + 1) x = true := hg x hx
      obtain ⟨q1, q2⟩ := pair_ev (h := h) S (sF := s__law_is_face) (sI := s__law_is_int) (kn := .tup (s.map tI)) (lf := lfV) (fun a ha b => okP_lf S ha b) (fun a ha => lfV_eq ha) (fun f => in_tup f s) (fun a ha => law_is_face_ev hm ha) (fun v hv => law_is_int_ev hv) gx (v := .tup xs) (r := [])
      exact ⟨q1, fun e => ⟨_, q2 e, _, rfl⟩⟩
    have fa := for_all2 (enc := id) (chk := fun _ => true) (v := .bl false) (okP s) (fun env => ∃ y2 : Option PV, env = [some (.tup xs), some (.tup (s.map tI)), y2]) rfl xs [some (.tup xs), some (.tup (s.map tI)), none] pe ⟨_, rfl⟩
    rw [List.map_id] at fa
    cases q : xs.all (okP s) with
    | false =>
      have r := fa.1 q
      simp [s__law_is_chain, runFn, if__law_is_chain, lockV, chO, q]
      rw [r]
      exact finish_same (v := .bl false) rfl
    | true =>
      obtain ⟨env', r, ⟨y2, rfl⟩⟩ := fa.2 q
      obtain ⟨T, h1, h2, h3⟩ := all_okP q
      have c : (chO s (.tup xs)).isSome = incF (T.map (·.1)) := by
        simp only [chO, q, if_true, h1, Option.bind_some]
        cases incF (T.map (·.1)) <;> rfl
      have hlT : T.length ≤ 60 := by rw [h2] at hl; simp at hl; omega
      have cc : ∀ y2, compGo (fun _ => true) (tgSet (.nm 2)) (dIfs [s__law_is_face, s__law_is_int] .nil) (dE [s__law_is_face, s__law_is_int] (.sub (.var 2) (.cst (.int 0)))) [some (.tup (T.map cp)), some (.tup (s.map tI)), y2] (T.map cp) h [] = .ok ((T.map (·.1)).map tI) h := fun y2 => by
        rw [List.map_map]
        exact comp_map (fun p : Fc × Int => tI p.1) rfl _ (fun p hp => ⟨_, by simp; rfl, by simp⟩) (by simp [LIM]; omega)
      obtain ⟨rows, _, r2, r3⟩ := rows_F (T.map (·.1))
      have ss : convop .sortedSet false (.lst ((T.map (·.1)).map tI)) h = .ok (.lst (rows.map tI)) h := set_faces rfl (by simp; omega) (fun x hx => by
        obtain ⟨p, hp, rfl⟩ := List.mem_map.mp hx
        exact (S.f _ (h3 p hp).1).1) r2 r3
      have eq : decide (T.map (·.1) = rows) = incF (T.map (·.1)) := by
        rw [Bool.eq_iff_iff, decide_eq_true_eq, incF_iff]
        constructor
        · intro e
          rw [e]
          exact r2
        · intro e
          exact uniqF e r2 fun k => (r3 k).symm
      have pq : pyEq h (.lst ((T.map (·.1)).map tI)) (.lst (rows.map tI)) = some (incF (T.map (·.1))) := by rw [eq_lsts, eq]
      have lk0 : ∀ {env : HW.Env} {g : PHeap} {x : List PV}, lockV 0 (some (.tup x) :: env) g = none := fun {env g x} => rfl
      rw [c]
      simp only [s__law_is_chain, runFn, if__law_is_chain]
      simp [lk0]
      rw [r, h2]
      generalize (T.map (·.1)) = ks at *
      simp [lk0, cc, ss, pq]
      exact finish_same (v := .bl _) rfl
  | _ =>
    simp [good] at hv <;> simp [s__law_is_chain, runFn, if__law_is_chain, chO] <;> exact finish_same (v := .bl false) rfl
end
end K13
namespace K13
open PySem HW
/-! tables by faces *)-/
section
variable {h : PHeap} {α : Type} (key : α → Fc) (val : α → PV)
def entG (a : α) : PV × PV := (tI (key a), val a)
theorem entG_keys (A : List α) : ∀ e ∈ A.map (entG key val), ∃ f, e.1 = tI f := fun e he => by
  obtain ⟨a, _, rfl⟩ := List.mem_map.mp he
  exact ⟨key a, rfl⟩
theorem entG_any (A : List α) (x : Fc) : (A.map (entG key val)).any (fun e => decide (e.1 = tI x)) = decide (x ∈ A.map key) := by
  rw [List.any_map, Bool.eq_iff_iff, List.any_eq_true, decide_eq_true_eq, List.mem_map]
  constructor
  · rintro ⟨a, h1, h2⟩
    exact ⟨a, h1, tI_inj (of_decide_eq_true h2)⟩
  · rintro ⟨a, h1, h2⟩
    exact ⟨a, h1, decide_eq_true (by simp [entG, h2])⟩
theorem entG_put (A : List α) (a : α) (h : key a ∉ A.map key) : dPut (A.map (entG key val)) (tI (key a)) (val a) = (A ++ [a]).map (entG key val) := by
  unfold dPut
  rw [entG_any, if_neg (by simpa using h), List.map_append]
  rfl
theorem entG_find : ∀ {A : List α}, (A.map key).Nodup → ∀ {a : α}, a ∈ A → dFind (A.map (entG key val)) (tI (key a)) = some (val a)
  | [], _, a, h => by simp at h
  | b :: A, hn, a, h => by
    rw [List.map_cons, List.nodup_cons] at hn
    unfold dFind
    rcases List.mem_cons.mp h with rfl | h
    · simp [entG]
    · have ne : tI (key b) ≠ tI (key a) := fun e => hn.1 (by rw [tI_inj e]; exact List.mem_map.mpr ⟨a, h, rfl⟩)
      rw [List.map_cons, List.find?_cons_of_neg (by simpa [entG] using ne)]
      exact entG_find hn.2 h
theorem entG_putAll : ∀ (A acc : List α), ((acc ++ A).map key).Nodup → acc.length + A.length ≤ LIM → putAll (acc.map (entG key val)) (A.map (entG key val)) = some ((acc ++ A).map (entG key val))
  | [], acc, _, _ => by simp [putAll]
  | a :: A, acc, hn, hl => by
    simp only [List.length_cons] at hl
    have ih := entG_putAll A (acc ++ [a]) (by simpa using hn) (by simp; omega)
    have no : key a ∉ acc.map key := fun hx => by
      rw [List.map_append, List.nodup_append] at hn
      exact hn.2.2 _ hx (key a) (by simp) rfl
    have l : (acc.map (entG key val)).length < LIM := by simp; omega
    rw [List.map_cons]
    show putAll _ ((tI (key a), val a) :: _) = _
    rw [putAll, keyOk_tI (entG_keys key val acc), entG_put key val acc a no]
    simp only [l, decide_true, Bool.and_self, if_true, ih]
    simp
theorem entG_dict {al : Bool} {A : List α} (hn : (A.map key).Nodup) (hl : A.length ≤ LIM) : convop .dict al (.lst (A.map fun a => .tup [tI (key a), val a])) h = mkDict al (A.map (entG key val)) h := by
  have e : ∀ A : List α, (A.map fun a => PV.tup [tI (key a), val a]).mapM pairOf = some (A.map (entG key val)) := by
    intro A
    induction A with
    | nil => rfl
    | cons a A ih => rw [List.map_cons, List.mapM_cons, ih]; rfl
  have p := entG_putAll key val A [] (by simpa using hn) (by simpa using hl)
  simp only [List.map_nil, List.nil_append] at p
  show (R.of (((A.map fun a => PV.tup [tI (key a), val a]).mapM pairOf).bind (putAll [])) h).bind (fun es h => mkDict al es h) = _
  rw [e, Option.bind_some, p]
  rfl
theorem entG_item {A : List α} (hn : (A.map key).Nodup) {a : α} (ha : a ∈ A) : itemOf h (.dct (A.map (entG key val))) (tI (key a)) = some (val a) := by
  show (if keyOk (A.map (entG key val)) (tI (key a)) then dFind (A.map (entG key val)) (tI (key a)) else none) = _
  rw [if_pos (keyOk_tI (entG_keys key val A) _), entG_find key val hn ha]
theorem entG_in (A : List α) (x : Fc) : isIn h (tI x) (.dct (A.map (entG key val))) = some (decide (x ∈ A.map key)) := by
  show (if keyOk (A.map (entG key val)) (tI x) then some ((A.map (entG key val)).any fun e => decide (e.1 = tI x)) else none) = _
  rw [if_pos (keyOk_tI (entG_keys key val A) _), entG_any]
end
/-! plain values *)-/
def plO : PV → Option Fc
  | .tup xs => asInts xs
  | _ => none
theorem isI_ints : ∀ xs : List PV, xs.all isI = (asInts xs).isSome
  | [] => rfl
  | x :: xs => by
    rw [List.all_cons, isI_ints xs]
    cases x <;> simp [isI, asInts]
theorem plO_eq {v : PV} {f : Fc} (h : plO v = some f) : v = tI f := by
  cases v with
  | tup xs => rw [asInts_eq h, tI]
  | _ => cases h
theorem plO_tI (f : Fc) : plO (tI f) = some f := asInts_map f
section
variable {h : PHeap}
theorem is_plain_ev {m n : Nat} (hm : m ≤ 60) {v : PV} (hv : good m n v = true) : s_is_plain [v] h = .ok (.bl (plO v).isSome) h := by
  cases v with
  | tup xs =>
    cases n with
    | zero => simp [good] at hv
    | succ n =>
      obtain ⟨hl, hg⟩ := good_items hv
      have cc : compGo (fun _ => true) (tgSet (.nm 1)) (dIfs [] .nil) (dE [] (.and (.blt (.isi "int") (.cons (.var 1) .nil)) (.not (.blt (.isi "bool") (.cons (.var 1) .nil))))) [some (.tup xs), none] xs h [] = .ok (xs.map fun x => .bl (isI x)) h := by
        rw [comp_gen (fun _ => true) (fun x => .bl (isI x)) rfl xs [] (fun x q => ⟨[some (.tup xs), some x], by simp, by simp, fun _ => by
          have q := good_plain (hg x q)
          cases x <;> simp [plainV] at q <;> simp [isI, x_isi, tyNames, tyOf, isTy, asList]⟩) (by simp [LIM]; omega), List.filter_eq_self.mpr (fun _ _ => rfl)]
        rfl
      have ce : convop .all false (.lst (xs.map fun x => .bl (isI x))) h = .ok (.bl (plO (.tup xs)).isSome) h := by rw [all_map isI xs, isI_ints]; rfl
      simp [s_is_plain, runFn, if_is_plain, lockV, cc, ce]
      exact finish_same (v := .bl _) rfl
  | _ =>
    cases n <;> simp [good] at hv <;> simp [s_is_plain, runFn, if_is_plain, plO] <;> exact finish_same (v := .bl false) rfl
theorem law_is_plain_ev {m n : Nat} (hm : m ≤ 60) {v : PV} (hv : good m n v = true) : s__law_is_plain [v] h = .ok (.bl (plO v).isSome) h := by
  cases v with
  | tup xs =>
    cases n with
    | zero => simp [good] at hv
    | succ n =>
      obtain ⟨hl, hg⟩ := good_items hv
      have cc : compGo (fun _ => true) (tgSet (.nm 1)) (dIfs [s__law_is_int] .nil) (dE [s__law_is_int] (.call 0 (.cons (.var 1) .nil))) [some (.tup xs), none] xs h [] = .ok (xs.map fun x => .bl (isI x)) h := by
        rw [comp_gen (fun _ => true) (fun x => .bl (isI x)) rfl xs [] (fun x q => ⟨[some (.tup xs), some x], by simp, by simp, fun _ => by
          have q := law_is_int_ev (h := h) (good_plain (hg x q))
          simp [q]⟩) (by simp [LIM]; omega), List.filter_eq_self.mpr (fun _ _ => rfl)]
        rfl
      have ce : convop .all false (.lst (xs.map fun x => .bl (isI x))) h = .ok (.bl (plO (.tup xs)).isSome) h := by rw [all_map isI xs, isI_ints]; rfl
      simp [s__law_is_plain, runFn, if__law_is_plain, lockV, cc, ce]
      exact finish_same (v := .bl _) rfl
  | _ =>
    cases n <;> simp [good] at hv <;> simp [s__law_is_plain, runFn, if__law_is_plain, plO] <;> exact finish_same (v := .bl false) rfl
theorem all_plO : ∀ {xs : List PV}, (xs.all fun x => (plO x).isSome) = true → ∃ fs : List Fc, xs = fs.map tI
  | [], _ => ⟨[], rfl⟩
  | x :: xs, q => by
    rw [List.all_cons, Bool.and_eq_true] at q
    obtain ⟨fs, rfl⟩ := all_plO q.2
    obtain ⟨f, hf⟩ := Option.isSome_iff_exists.mp q.1
    exact ⟨f :: fs, by rw [plO_eq hf]; rfl⟩
theorem plO_all (fs : List Fc) : ((fs.map tI).all fun x => (plO x).isSome) = true := by
  rw [List.all_map, List.all_eq_true]
  intro f _
  simp [Function.comp, plO_tI]
/-! rows *)-/
theorem row_at {r : List Fc} {i : Nat} {a : Fc} (ha : r[i]? = some a) : itemOf h (.tup (r.map tI)) (.int (i : Int)) = some (tI a) := by
  refine L2.atI_nat (j := i) ?_
  rw [List.getElem?_map, ha]
  rfl
theorem row_last {r : List Fc} {a : Fc} (ha : r.getLast? = some a) : itemOf h (.tup (r.map tI)) (.int (-1)) = some (tI a) := by
  show L2.atI (r.map tI) (-1) = _
  have hr : r ≠ [] := fun e => by rw [e] at ha; simp at ha
  have e : r.map tI = r.dropLast.map tI ++ [tI (r.getLast hr)] := by
    rw [← List.map_singleton, ← List.map_append, List.dropLast_concat_getLast]
  rw [List.getLast?_eq_some_getLast hr] at ha
  rw [e, L2.atI_last, ← Option.some.inj ha]
theorem stp_zip : ∀ r : List Fc, stp r = (r.zip (r.drop 1)).map fun p => turns p.1 p.2
  | [] => rfl
  | [a] => rfl
  | a :: b :: r => by
    have := stp_zip (b :: r)
    rw [stp, this]
    rfl
def rowB (r : List Fc) : Bool := decide (2 ≤ r.length) && decide (r.head? = r.getLast?) && decide (none ∉ stp r) && decide ((stp r).count (some true) % 2 = 1)
end
end K13
namespace K13
open PySem HW
/-! the judge of turned rows *)-/
section
variable {h : PHeap}
abbrev bd (s : List Fc) (x : Fc) : List (PV × PV) := (nb s x).map (entG (·.1) fun p => .bl p.2)
abbrev ndE (s : List Fc) (x : Fc) : PV × PV := (tI x, .dct (bd s x))
def ndD (s : List Fc) : List (PV × PV) := s.map (entG id fun x => .dct (bd s x))
theorem nb_keys {s : List Fc} {n : Nat} (P : Pur s n) (x : Fc) : ((nb s x).map (·.1)).Nodup := by
  rw [List.Nodup, List.pairwise_map]
  exact List.Pairwise.imp (S := fun p q : Fc × Bool => p.1 ≠ q.1) (fun {a b} h e => by rw [e] at h; exact flt_irrefl _ h) (nb_lt P.sh.srt x)
theorem nb_len (s : List Fc) (x : Fc) : (nb s x).length ≤ s.length := List.length_filterMap_le _ _
theorem nb_dict {s : List Fc} {n : Nat} (P : Pur s n) (x : Fc) : convop .dict false (.lst ((nb s x).map encT)) h = .ok (.dct (bd s x)) h :=
  entG_dict (fun p : Fc × Bool => p.1) (fun p => .bl p.2) (nb_keys P x) (by have := nb_len s x; have := P.few; simp [LIM]; omega)
theorem near_made {ctx : List Sem} {s : List Fc} {n : Nat} (P : Pur s n) {env : HW.Env} (he : env.length = 8) : ∀ (B A : List Fc), s = A ++ B →
    dcompGo (fun _ => true) (tgSet (.tp [.nm 6, .nm 7])) (dIfs ctx .nil) (dE ctx (.var 6)) (dE ctx (.conv .dict false (.var 7))) env (B.map fun x => .tup [tI x, .lst ((nb s x).map encT)]) h (A.map (ndE s)) = .ok (ndD s) h
  | [], A, e => by
    simp only [List.map_nil, dcompGo, if_true]
    rw [e]
    simp [ndD, entG, Function.comp_def]
  | x :: B, A, e => by
    have ih := near_made (ctx := ctx) P he B (A ++ [x]) (by rw [e]; simp)
    have ko : keyOk (A.map (ndE s)) (tI x) = true := keyOk_tI (fun e he => by
      obtain ⟨y, _, rfl⟩ := List.mem_map.mp he
      exact ⟨y, rfl⟩) x
    have lA : A.length < LIM := by
      have := P.few
      rw [e] at this
      simp at this
      simp [LIM]
      omega
    have put : dPut (A.map (ndE s)) (tI x) (.dct (bd s x)) = (A ++ [x]).map (ndE s) := by
      unfold dPut
      rw [if_neg]
      · rw [List.map_append]
        rfl
      · intro c
        obtain ⟨y, hy, e'⟩ := List.any_eq_true.mp c
        obtain ⟨z, hz, rfl⟩ := List.mem_map.mp hy
        have : z = x := tI_inj (of_decide_eq_true e')
        subst this
        have := P.nd
        rw [e, List.nodup_append] at this
        exact this.2.2 z hz z (by simp) rfl
    have nd := nb_dict (h := h) P x
    rw [List.map_cons, dcompGo]
    simp only [if_true]
    simp [he, nd, ko, lA, put]
    simpa using ih
theorem near_it {s : List Fc} {n : Nat} (P : Pur s n) {a : Fc} (ha : a ∈ s) : itemOf h (.dct (ndD s)) (tI a) = some (.dct (bd s a)) :=
  entG_item id (fun x => .dct (bd s x)) (by simpa using P.nd) ha
theorem bd_in {s : List Fc} {a b : Fc} (hb : b ∈ s) : isIn h (tI b) (.dct (bd s a)) = some (turns a b).isSome := by
  rw [entG_in]
  congr 1
  rw [Bool.eq_iff_iff, decide_eq_true_eq, List.mem_map]
  constructor
  · rintro ⟨p, h1, rfl⟩
    rw [(mem_nb.mp h1).2]
    rfl
  · intro e
    obtain ⟨t, ht⟩ := Option.isSome_iff_exists.mp e
    exact ⟨(b, t), mem_nb.mpr ⟨hb, ht⟩, rfl⟩
theorem bd_it {s : List Fc} {n : Nat} (P : Pur s n) {a b : Fc} (hb : b ∈ s) {t : Bool} (ht : turns a b = some t) : itemOf h (.dct (bd s a)) (tI b) = some (.bl t) :=
  entG_item (fun p : Fc × Bool => p.1) (fun p => .bl p.2) (nb_keys P a) (a := (b, t)) (mem_nb.mpr ⟨hb, ht⟩)
abbrev ubody : ISs := .cons (.ifs (.cmp .notin (.var 5) (.sub (.var 2) (.var 4))) (.cons (.ret (.cst (.bl false))) .nil) .nil) (.cons (.aug 3 .add (.blt .int (.cons (.sub (.sub (.var 2) (.var 4)) (.var 5)) .nil))) .nil)
abbrev uEnv (sh rw : PV) (s : List Fc) (k : Nat) (x4 x5 x6 x7 : Option PV) : HW.Env := [some sh, some rw, some (.dct (ndD s)), some (.int k), x4, x5, x6, x7]
def prF (p : Fc × Fc) : PV := .tup [tI p.1, tI p.2]
theorem turn_loop {ctx : List Sem} {s : List Fc} {n : Nat} (P : Pur s n) {sh rw : PV} {x6 x7 : Option PV} : ∀ (L : List (Fc × Fc)) (k : Nat) (x4 x5 : Option PV), (∀ p ∈ L, p.1 ∈ s ∧ p.2 ∈ s) →
    (none ∈ L.map (fun p => turns p.1 p.2) → forGo (fun _ => true) (tgSet (.tp [.nm 4, .nm 5])) (dSs ctx ubody) (L.map prF) (uEnv sh rw s k x4 x5 x6 x7) h = .ok (.rt (.bl false)) h) ∧
    (none ∉ L.map (fun p => turns p.1 p.2) → ∃ y4 y5, forGo (fun _ => true) (tgSet (.tp [.nm 4, .nm 5])) (dSs ctx ubody) (L.map prF) (uEnv sh rw s k x4 x5 x6 x7) h = .ok (.nx (uEnv sh rw s (k + (L.map fun p => turns p.1 p.2).count (some true)) y4 y5 x6 x7)) h)
  | [], k, x4, x5, _ => ⟨fun e => by simp at e, fun _ => ⟨x4, x5, by simp [forGo]⟩⟩
  | p :: L, k, x4, x5, hL => by
    obtain ⟨h1, h2⟩ := hL p List.mem_cons_self
    have et : tgSet (.tp [.nm 4, .nm 5]) (prF p) (uEnv sh rw s k x4 x5 x6 x7) = some (uEnv sh rw s k (some (tI p.1)) (some (tI p.2)) x6 x7) := by simp [prF]
    have step := for_step (chk := fun _ => true) (body := dSs ctx ubody) (xs := L.map prF) (g := h) rfl et
    have i1 := near_it (h := h) P h1
    have i2 := bd_in (h := h) (a := p.1) h2
    rw [List.map_cons, List.map_cons]
    cases ht : turns p.1 p.2 with
    | none =>
      rw [ht] at i2
      have body : dSs ctx ubody (uEnv sh rw s k (some (tI p.1)) (some (tI p.2)) x6 x7) h = .ok (.rt (.bl false)) h := by
        simp only [ubody, x_scons, x_ifs, x_T, x_cmp, x_var, List.getElem?_cons_succ, List.getElem?_cons_zero, R.bind_ok, x_sub, i1, R.of_some, cmpop, i2, Option.isSome_none, Option.map_some, Bool.not_false, x_trb, if_true, x_ret, x_cst]
      rw [body] at step
      exact ⟨fun _ => step, fun e => absurd List.mem_cons_self e⟩
    | some t =>
      rw [ht] at i2
      have i3 := bd_it (h := h) P h2 ht
      have add : ∀ z : Int, binop .add (.int (k : Int)) (.int z) h = some (.int ((k : Int) + z)) := fun z => rfl
      have body : dSs ctx ubody (uEnv sh rw s k (some (tI p.1)) (some (tI p.2)) x6 x7) h = .ok (.nx (uEnv sh rw s (k + if t then 1 else 0) (some (tI p.1)) (some (tI p.2)) x6 x7)) h := by
        simp only [ubody, x_scons, x_ifs, x_T, x_cmp, x_var, List.getElem?_cons_succ, List.getElem?_cons_zero, R.bind_ok, x_sub, i1, R.of_some, cmpop, i2, Option.isSome_some, Option.map_some, Bool.not_true, x_trb, Bool.false_eq_true, if_false, x_snil, x_aug, x_blt, x_cons, x_nil, i3, x_in2, add, List.set_cons_succ, List.set_cons_zero]
        cases t <;> rfl
      rw [body] at step
      obtain ⟨q1, q2⟩ := turn_loop (ctx := ctx) P (sh := sh) (rw := rw) (x6 := x6) (x7 := x7) L (k + if t then 1 else 0) (some (tI p.1)) (some (tI p.2)) fun q hq => hL q (List.mem_cons_of_mem _ hq)
      refine ⟨fun e => step.trans (q1 ((List.mem_cons.mp e).resolve_left (by simp))), fun e => ?_⟩
      obtain ⟨y4, y5, q⟩ := q2 fun e' => e (List.mem_cons_of_mem _ e')
      refine ⟨y4, y5, step.trans ?_⟩
      dsimp only [R.bind_ok]
      rw [q, List.count_cons]
      cases t
      · simp
      · simp
        omega
theorem zip_prF (r : List Fc) : zipOf (r.map tI) ((r.map tI).drop 1) = (r.zip (r.drop 1)).map prF := zip_faces r
theorem mod2 (k : Nat) : binop .mod (.int (k : Int)) (.int 2) h = some (.int ((k % 2 : Nat) : Int)) := by
  rw [ev_mod (by decide)]
  congr 2
  rw [Int.fmod_eq_emod_of_nonneg _ (by decide)]
  omega
theorem is_turned_ev {s : List Fc} {n : Nat} (P : Pur s n) (T : Two s n) {r : List Fc} (hl : r.length ≤ 1000) : s_is_turned [.tup (s.map tI), .tup (r.map tI)] h = .ok (.bl ((r.all fun f => decide (f ∈ s)) && rowB r)) h := by
  have st : ∀ g : PHeap, s_steps_of [.tup (s.map tI)] g = .ok (.dct (nrD s)) g := fun g => steps_ev P T
  have lk1 : ∀ {env : HW.Env} {g : PHeap} {x : Option PV} {y : List PV}, lockV 1 (x :: some (.tup y) :: env) g = none := fun {env g x y} => rfl
  have c0 : compGo (fun _ => true) (tgSet (.nm 4)) (dIfs [s_steps_of] .nil) (dE [s_steps_of] (.and (.blt (.isi "tuple") (.cons (.var 4) .nil)) (.cmp .isin (.var 4) (.var 0)))) [some (.tup (s.map tI)), some (.tup (r.map tI)), none, none, none, none, none, none] (r.map tI) h [] = .ok (r.map fun f => .bl (decide (f ∈ s))) h :=
    comp_map (fun f : Fc => .bl (decide (f ∈ s))) rfl _ (fun f hf => ⟨_, by simp; rfl, by simp [in_tup]⟩) (by simp [LIM]; omega)
  have ce : convop .all false (.lst (r.map fun f => .bl (decide (f ∈ s)))) h = .ok (.bl (r.all fun f => decide (f ∈ s))) h := all_enc (fun f : Fc => decide (f ∈ s)) r
  by_cases l2 : 2 ≤ r.length
  · have l2' : ¬ ((r.length : Int) < 2) := by omega
    cases al : r.all fun f => decide (f ∈ s) with
    | false =>
      rw [al] at ce
      simp -implicitDefEqProofs [s_is_turned, runFn, if_is_turned, lk1, l2', c0, ce]
      exact finish_same (v := .bl false) rfl
    | true =>
      rw [al] at ce
      have hr : ∀ f ∈ r, f ∈ s := fun f hf => of_decide_eq_true (List.all_eq_true.mp al f hf)
      match r, l2 with
      | a :: b :: r', _ =>
        obtain ⟨z, hz⟩ : ∃ z, (a :: b :: r').getLast? = some z := ⟨_, List.getLast?_eq_some_getLast (by simp)⟩
        have i0 : itemOf h (.tup ((a :: b :: r').map tI)) (.int 0) = some (tI a) := row_at (i := 0) rfl
        have i1 := row_last (h := h) hz
        generalize hrr : a :: b :: r' = r at *
        have hd : r.head? = some a := by rw [← hrr]; rfl
        have rb : rowB r = (decide (a = z) && (decide (none ∉ stp r) && decide ((stp r).count (some true) % 2 = 1))) := by
          unfold rowB
          rw [hd, hz, decide_eq_true (by rw [← hrr]; simp)]
          simp [Bool.and_assoc]
        rw [rb]
        by_cases e : a = z
        · have nm := near_made (h := h) (ctx := [s_steps_of]) P (env := [some (.tup (s.map tI)), some (.tup (r.map tI)), none, none, none, none, none, none]) rfl s [] rfl
          rw [List.map_nil] at nm
          have it : (nrD s).map (fun e => PV.tup [e.1, e.2]) = s.map fun x => .tup [tI x, .lst ((nb s x).map encT)] := by
            unfold nrD
            rw [List.map_map]
            rfl
          have tl := turn_loop (h := h) (ctx := [s_steps_of]) P (sh := .tup (s.map tI)) (rw := .tup (r.map tI)) (x6 := none) (x7 := none) (r.zip (r.drop 1)) 0 none none (fun p hp => by
            have := List.of_mem_zip (a := p.1) (b := p.2) hp
            exact ⟨hr _ this.1, hr _ (List.mem_of_mem_drop this.2)⟩)
          rw [← stp_zip] at tl
          have zz : zipOf (r.map tI) (cut (r.map tI) (some 1) none) = (r.zip r.tail).map prF := by rw [cut_tail, zip_prF, List.drop_one]
          have we : uEnv (.tup (s.map tI)) (.tup (r.map tI)) s 0 none none none none = [some (.tup (s.map tI)), some (.tup (r.map tI)), some (.dct (ndD s)), some (.int 0), none, none, none, none] := rfl
          rw [List.drop_one, we] at tl
          subst e
          by_cases hn : none ∈ stp r
          · have q := tl.1 hn
            simp -implicitDefEqProofs [s_is_turned, runFn, if_is_turned, lk1, l2', c0, ce, i0, i1, eq_tI, st, it, nm, zz, hn]
            rw [q]
            exact finish_same (v := .bl false) rfl
          · obtain ⟨y4, y5, q⟩ := tl.2 hn
            simp -implicitDefEqProofs [s_is_turned, runFn, if_is_turned, lk1, l2', c0, ce, i0, i1, eq_tI, st, it, nm, zz, hn]
            rw [q]
            simp -implicitDefEqProofs [mod2, eq_int]
            have ee : decide (((stp r).count (some true) : Int) % 2 = 1) = decide ((stp r).count (some true) % 2 = 1) := decide_eq_decide.mpr (by omega)
            rw [ee]
            exact finish_same (v := .bl _) rfl
        · simp -implicitDefEqProofs [s_is_turned, runFn, if_is_turned, lk1, l2', c0, ce, i0, i1, eq_tI, e]
          exact finish_same (v := .bl false) rfl
  · have l2' : (r.length : Int) < 2 := by omega
    have rb : rowB r = false := by unfold rowB; rw [decide_eq_false l2]; rfl
    rw [rb, Bool.and_false]
    simp -implicitDefEqProofs [s_is_turned, runFn, if_is_turned, l2']
    exact finish_same (v := .bl false) rfl
end
end K13
namespace K13
open PySem HW
/-! the law's rows, and small things *)-/
section
variable {h : PHeap}
theorem rangeOf_one {n : Nat} (hn : n ≤ 1000000) : rangeOf 1 (n : Int) = some ((List.range (n - 1)).map fun (i : Nat) => PV.int (1 + i)) := by
  unfold rangeOf wide62
  have h1 : (decide (-(2 ^ 62) ≤ (1 : Int) ∧ (1 : Int) < 2 ^ 62)) = true := by decide
  have h2 : (decide (-(2 ^ 62) ≤ (n : Int) ∧ (n : Int) < 2 ^ 62)) = true := by
    rw [decide_eq_true_eq]
    omega
  have e : ((n : Int) - 1).toNat = n - 1 := by omega
  rw [h1, h2, e]
  rfl
theorem rng2_ev {n : Nat} (hn : n ≤ 1000000) : rngV2 (.int 1) (.int n) h = .ok ((List.range (n - 1)).map fun (i : Nat) => PV.int ((i : Int) + 1)) h := by
  unfold rngV2
  rw [intOf, Option.bind_some, intOf, Option.bind_some, rangeOf_one hn, R.of_some]
  refine congrArg (fun x => R.ok x h) (List.map_congr_left fun i _ => ?_)
  rw [Int.add_comm]
theorem x_lkr2 {a b : IE} {env : HW.Env} : lockI (.rng2 a b) env h = none := rfl
theorem steps_list (r : List Fc) (g : Nat → PV) (hg : ∀ (i : Nat) (a b : Fc), r[i]? = some a → r[i + 1]? = some b → g i = turnV (turns a b)) : (List.range (r.length - 1)).map g = (stp r).map turnV := by
  rw [stp_zip, List.map_map]
  refine List.ext_getElem (by simp) fun n h1 h2 => ?_
  simp only [List.length_map, List.length_range] at h1
  rw [List.getElem_map, List.getElem_map, List.getElem_range, List.getElem_zip, List.getElem_drop]
  refine hg n _ _ (List.getElem?_eq_getElem _) ?_
  rw [Nat.add_comm n 1]
  exact List.getElem?_eq_getElem _
theorem step_comp {ctx : List Sem} {s : List Fc} {k : Nat} (P : Pur s k) {r : List Fc} (hr : ∀ f ∈ r, f ∈ s) {env : HW.Env} (he : env.length = 9) (h3 : env[3]? = some (some (.tup (r.map tI)))) (hl : r.length ≤ 1000) (hc : ctx[4]? = some s__law_turns) :
    compGo (fun _ => true) (tgSet (.nm 5)) (dIfs ctx .nil) (dE ctx (.call 4 (.cons (.sub (.var 3) (.bin .sub (.var 5) (.cst (.int 1)))) (.cons (.sub (.var 3) (.var 5)) .nil)))) env ((List.range (r.length - 1)).map fun (i : Nat) => PV.int ((i : Int) + 1)) h [] = .ok ((stp r).map turnV) h := by
  have key : ∀ (i : Nat), i < r.length - 1 → ∃ a b, r[i]? = some a ∧ r[i + 1]? = some b := fun i hi => ⟨r[i], r[i + 1], List.getElem?_eq_getElem _, List.getElem?_eq_getElem _⟩
  rw [comp_map (fun i : Nat => turnV (turns ((r[i]?).getD []) ((r[i + 1]?).getD []))) rfl _ (fun i hi => ⟨env.set 5 (some (.int ((i : Int) + 1))), by simp [he], by
    obtain ⟨a, b, ha, hb⟩ := key i (List.mem_range.mp hi)
    have q3 : (env.set 5 (some (.int ((i : Int) + 1))))[3]? = some (some (.tup (r.map tI))) := by
      rw [List.getElem?_set_ne (by decide), h3]
    have q5 : (env.set 5 (some (.int ((i : Int) + 1))))[5]? = some (some (.int ((i : Int) + 1))) := by
      rw [List.getElem?_set_self (by omega)]
    have i1 : itemOf h (.tup (r.map tI)) (.int (i : Int)) = some (tI a) := row_at ha
    have i2 : itemOf h (.tup (r.map tI)) (.int ((i : Int) + 1)) = some (tI b) := row_at (i := i + 1) hb
    have as := hr a (List.mem_of_getElem? ha)
    have bs := hr b (List.mem_of_getElem? hb)
    have la := P.len a as
    have l5 := (P.sh.f a as).2
    have n2 := P.n2
    have te := turns_ev (h := h) (P.sh.inc a as) (P.sh.inc b bs) (by rw [la, P.len b bs]) (by omega) (by omega)
    have g4 : ctx.getD 4 (fun _ _ => .bad) = s__law_turns := by rw [List.getD_eq_getElem?_getD, hc]; rfl
    simp only [x_call, x_cons, x_nil, x_sub, x_bin, x_var, x_cst, q3, q5, R.bind_ok, x_subi, R.of_some, Int.add_sub_cancel, i1, i2, ha, hb, Option.getD_some, g4, te]⟩) (by simp [LIM]; omega)]
  congr 1
  exact steps_list r _ fun i a b ha hb => by rw [ha, hb]; rfl
def turnD : Option Bool → PyData
  | none => .none
  | some t => .bool t
theorem toD_turns : ∀ L : List (Option Bool), toDs (L.map turnV) = some (L.map turnD)
  | [] => rfl
  | o :: L => by rw [List.map_cons, toDs, toD_turns L]; cases o <;> rfl
theorem tame_turns (L : List (Option Bool)) : tame 1 (.lst (L.map turnV)) = true := by
  rw [tame]
  exact tames_iff.mpr fun x hx => by
    obtain ⟨o, _, rfl⟩ := List.mem_map.mp hx
    cases o <;> rfl
theorem shaped_turns (L : List (Option Bool)) : SeqAt.shaped (.list (L.map turnD)) = true := shaped_of (n := 1) (by omega) (tame_turns L) (by rw [toD, toD_turns]; rfl)
theorem none_in (L : List (Option Bool)) : isIn h .non (.lst (L.map turnV)) = some (decide (none ∈ L)) := by
  have h1 : SeqAt.shaped .none = true := shaped_of (n := 0) (by omega) (v := .non) rfl rfl
  show (match toD (res h .non), toDs (L.map turnV) with
      | some d, some ds => if SeqAt.shaped d && SeqAt.shaped (.list ds) then some (ds.any fun e => PyData.eqv e d) else none
      | _, _ => none) = _
  rw [toD_turns]
  show (if SeqAt.shaped .none && SeqAt.shaped (.list (L.map turnD)) then some _ else none) = _
  rw [h1, shaped_turns]
  simp only [Bool.and_self, if_true]
  congr 1
  rw [List.any_map, Bool.eq_iff_iff, List.any_eq_true, decide_eq_true_eq]
  constructor
  · rintro ⟨o, ho, e⟩
    cases o with
    | none => exact ho
    | some t => simp [turnD, PyData.eqv] at e
  · intro e
    exact ⟨none, e, by simp [turnD, PyData.eqv]⟩
theorem true_count (L : List (Option Bool)) : methop .lcount (.lst (L.map turnV)) [.bl true] h = .ok (.int (L.count (some true) : Nat)) h := by
  have h1 : SeqAt.shaped (.bool true) = true := shaped_of (n := 0) (by omega) (v := .bl true) rfl rfl
  show mCnt (.lst (L.map turnV)) [.bl true] h = _
  have a : asList h (.lst (L.map turnV)) = some (L.map turnV) := rfl
  have b : toD (res h (.bl true)) = some (.bool true) := rfl
  simp only [mCnt, a, toD_turns, b, shaped_turns, h1, Bool.and_self, if_true]
  congr 3
  rw [List.countP_map, List.count_eq_countP]
  refine List.countP_congr fun o _ => ?_
  cases o with
  | none => simp [turnD, PyData.eqv]
  | some t => cases t <;> simp [turnD, PyData.eqv]
theorem eq_strs {a b : Str} (ha : PyData.strOk a = true) (hb : PyData.strOk b = true) : pyEq h (.str a) (.str b) = some (decide (a = b)) := by
  obtain ⟨d, e, q1, q2, q⟩ := eq_tame (n := 0) (g := h) (by omega) (a := .str a) (b := .str b) (by simpa [tame] using ha) (by simpa [tame] using hb)
  cases q1
  cases q2
  rw [q]
  congr 1
theorem eq_nil (T : Tb) : pyEq h (ch T) (.tup []) = some (decide (T = [])) := by
  obtain ⟨d, e, q1, q2, q⟩ := eq_tame (n := 3) (g := h) (by omega) (a := ch T) (b := .tup []) (tame_ch T) rfl
  unfold ch at q1
  rw [toD, toD_cps] at q1
  cases q1
  cases q2
  rw [q]
  cases T <;> simp [PyData.eqv, PyData.eqvAll]
def chainB (s : List Fc) (T : Tb) : Bool := decide (T.length = s.length) && (T.all fun p => decide (p.2 ∈ [1, -1])) && decide (tld (bnd T) = [])
theorem chO_tup (s : List Fc) (xs : List PV) : chO s (.tup xs) = if xs.all (okP s) then (xs.mapM cpO).bind fun T => if incF (T.map (·.1)) then some T else none else none := rfl
theorem chO_eq {s : List Fc} {v : PV} {T : Tb} (e : chO s v = some T) : v = ch T ∧ (∀ p ∈ T, p.1 ∈ s ∧ p.2 ≠ 0) ∧ (T.map (·.1)).Pairwise (· < ·) := by
  cases v with
  | tup xs =>
    rw [chO_tup] at e
    split at e
    · rename_i q
      obtain ⟨U, h1, h2, h3⟩ := all_okP q
      rw [h1, Option.bind_some] at e
      split at e
      · rename_i i
        cases e
        exact ⟨by rw [h2]; rfl, h3, (incF_iff _).mp i⟩
      · cases e
    · cases e
  | _ => cases e
theorem chO_ch {s : List Fc} {T : Tb} (h3 : ∀ p ∈ T, p.1 ∈ s ∧ p.2 ≠ 0) (hi : (T.map (·.1)).Pairwise (· < ·)) : chO s (ch T) = some T := by
  have m : ∀ T : Tb, (T.map cp).mapM cpO = some T := by
    intro T
    induction T with
    | nil => rfl
    | cons p T ih =>
      rw [List.map_cons, List.mapM_cons, ih]
      have : cpO (cp p) = some p := by
        show (asInts (p.1.map .int)).map _ = _
        rw [asInts_map]
        rfl
      rw [this]
      rfl
  unfold ch
  rw [chO_tup, if_pos, m, Option.bind_some, if_pos ((incF_iff _).mpr hi)]
  rw [List.all_map, List.all_eq_true]
  intro p hp
  have := h3 p hp
  show okP s (cp p) = true
  unfold cp
  rw [okP_some]
  simp [this]
end
end K13
namespace K13
open PySem HW
/-! what a right paper is; the judge's word and the law's *)-/
abbrev wO : Str := Str.ofString "open"
abbrev wC : Str := Str.ofString "cycle"
abbrev wT : Str := Str.ofString "turned"
theorem okO : PyData.strOk wO = true := by decide +kernel
theorem okC : PyData.strOk wC = true := by decide +kernel
theorem okT : PyData.strOk wT = true := by decide +kernel
theorem co : wC ≠ wO := by decide +kernel
theorem to : wT ≠ wO := by decide +kernel
theorem tc : wT ≠ wC := by decide +kernel
def rowO : PV → Option (List Fc)
  | .tup xs => xs.mapM plO
  | _ => none
def tB (s : List Fc) : Option (List Fc) → Bool
  | some r => (r.all fun f => decide (f ∈ s)) && rowB r
  | none => false
def isP (s : List Fc) (a : Str) (x : PV) : Bool :=
  if a = wO then (match plO x with
    | some f => decide (f ∈ opn s)
    | none => false)
  else if opn s ≠ [] then false
  else if a = wC then (match chO s x with
    | some T => chainB s T
    | none => false)
  else if a = wT then tB s (rowO x)
  else false
def isPV (s : List Fc) : PV → Bool
  | .tup [.str a, x] => isP s a x
  | _ => false
theorem rowO_fs (fs : List Fc) : rowO (.tup (fs.map tI)) = some fs := by
  show (fs.map tI).mapM plO = some fs
  induction fs with
  | nil => rfl
  | cons f fs ih => rw [List.map_cons, List.mapM_cons, ih, plO_tI]; rfl
theorem rowO_none : ∀ {xs : List PV}, (xs.all fun x => (plO x).isSome) = false → xs.mapM plO = none
  | [], h => by simp at h
  | x :: xs, h => by
    rw [List.mapM_cons]
    cases q : plO x with
    | none => rfl
    | some f =>
      rw [List.all_cons, q] at h
      rw [rowO_none (by simpa using h)]
      rfl
section
variable {h : PHeap}
abbrev LP : List Sem := [s__law_open, s__law_is_plain, s__law_is_chain, s__law_boundary, s__law_turns]
def lp1 : ISs := match if__law_is_paper.body with | .cons _ r => r | _ => .nil
theorem lp_not {s : List Fc} {v : PV} (h1 : bltop (.isi "tuple") [v] h = some (.bl false)) : s__law_is_paper [.tup (s.map tI), v] h = .ok (.bl false) h := by
  simp -implicitDefEqProofs [s__law_is_paper, runFn, if__law_is_paper, h1]
  exact finish_same (v := .bl false) rfl
theorem lp_len {s : List Fc} {xs : List PV} (hl : ¬ (xs.length : Int) = 2) : s__law_is_paper [.tup (s.map tI), .tup xs] h = .ok (.bl false) h := by
  simp -implicitDefEqProofs [s__law_is_paper, runFn, if__law_is_paper, eq_int, hl]
  exact finish_same (v := .bl false) rfl
theorem lp_str {s : List Fc} {a x : PV} (hv : bltop (.isi "str") [a] h = some (.bl false)) : s__law_is_paper [.tup (s.map tI), .tup [a, x]] h = .ok (.bl false) h := by
  simp -implicitDefEqProofs [s__law_is_paper, runFn, if__law_is_paper, eq_int, hv]
  exact finish_same (v := .bl false) rfl
theorem jc_not {s : List Fc} {v : PV} (h1 : bltop (.isi "tuple") [v] h = some (.bl false)) : s_judge_closed [.tup (s.map tI), v] h = .ok (.bl false) h := by
  simp -implicitDefEqProofs [s_judge_closed, runFn, if_judge_closed, h1]
  exact finish_same (v := .bl false) rfl
theorem jc_len {s : List Fc} {xs : List PV} (hl : ¬ (xs.length : Int) = 2) : s_judge_closed [.tup (s.map tI), .tup xs] h = .ok (.bl false) h := by
  simp -implicitDefEqProofs [s_judge_closed, runFn, if_judge_closed, eq_int, hl]
  exact finish_same (v := .bl false) rfl
theorem jc_str {s : List Fc} {a x : PV} (hv : bltop (.isi "str") [a] h = some (.bl false)) : s_judge_closed [.tup (s.map tI), .tup [a, x]] h = .ok (.bl false) h := by
  simp -implicitDefEqProofs [s_judge_closed, runFn, if_judge_closed, eq_int, hv]
  exact finish_same (v := .bl false) rfl
theorem any_pm {T : Tb} (hl : T.length ≤ 1000) {i j : Nat} {env : HW.Env} {ctx : List Sem} {c : IE} (hij : i ≠ j) (hi : i < env.length) (hj : j < env.length) (hc : ∀ n : Int, ∀ env : HW.Env, env[j]? = some (some (.int n)) → dE ctx c env h = .ok (.bl (!decide (n ∈ [1, -1]))) h) :
    compGo (fun _ => true) (tgSet (.tp [.nm i, .nm j])) (dIfs ctx .nil) (dE ctx c) env (T.map cp) h [] = .ok (T.map fun p => .bl (!decide (p.2 ∈ [1, -1]))) h :=
  comp_map (fun p : Fc × Int => .bl (!decide (p.2 ∈ [1, -1]))) rfl _ (fun p hp => ⟨(env.set i (some (tI p.1))).set j (some (.int p.2)), by simp [hi, hj], hc _ _ (List.getElem?_set_self (by simpa using hj))⟩) (by simp [LIM]; omega)
theorem lp_open {s : List Fc} (S : Shp s) {m n : Nat} (hm : m ≤ 60) {x : PV} (hx : good m n x = true) : s__law_is_paper [.tup (s.map tI), .tup [.str wO, x]] h = .ok (.bl (isP s wO x)) h := by
  have e1 : pyEq h (.str wO) (.str wO) = some true := by rw [eq_strs okO okO]; simp
  have pl := law_is_plain_ev (h := h) hm hx
  have op := law_open_ev (h := h) S
  unfold isP
  rw [if_pos rfl]
  cases q : plO x with
  | none =>
    rw [q] at pl
    simp -implicitDefEqProofs [s__law_is_paper, runFn, if__law_is_paper, eq_int, op, e1, pl]
    exact finish_same (v := .bl false) rfl
  | some f =>
    rw [q] at pl
    obtain rfl := plO_eq q
    have i := in_tIs (g := h) f (opn s)
    simp -implicitDefEqProofs [s__law_is_paper, runFn, if__law_is_paper, eq_int, op, e1, pl, i]
    exact finish_same (v := .bl _) rfl
theorem jc_open {s : List Fc} (S : Shp s) {m n : Nat} (hm : m ≤ 60) {x : PV} (hx : good m n x = true) : s_judge_closed [.tup (s.map tI), .tup [.str wO, x]] h = .ok (.bl (isP s wO x)) h := by
  have e1 : pyEq h (.str wO) (.str wO) = some true := by rw [eq_strs okO okO]; simp
  have pl := is_plain_ev (h := h) hm hx
  unfold isP
  rw [if_pos rfl]
  cases q : plO x with
  | none =>
    rw [q] at pl
    simp -implicitDefEqProofs [s_judge_closed, runFn, if_judge_closed, eq_int, e1, pl]
    exact finish_same (v := .bl false) rfl
  | some f =>
    rw [q] at pl
    obtain rfl := plO_eq q
    have i := is_opening_ev (h := h) S f
    simp -implicitDefEqProofs [s_judge_closed, runFn, if_judge_closed, eq_int, e1, pl, i]
    exact finish_same (v := .bl _) rfl
theorem lp_faces {s : List Fc} (S : Shp s) {a : Str} (ha : PyData.strOk a = true) (h1 : a ≠ wO) (ho : opn s ≠ []) {x : PV} : s__law_is_paper [.tup (s.map tI), .tup [.str a, x]] h = .ok (.bl false) h := by
  have e1 : pyEq h (.str a) (.str wO) = some false := by rw [eq_strs ha okO, decide_eq_false h1]
  have op := law_open_ev (h := h) S
  have tr : tru h (.lst ((opn s).map tI)) = some true := by rw [tru_faces]; simpa using ho
  simp -implicitDefEqProofs [s__law_is_paper, runFn, if__law_is_paper, eq_int, op, e1, tr, ho]
  exact finish_same (v := .bl false) rfl
theorem jc_faces {s : List Fc} (S : Shp s) {a : Str} (ha : PyData.strOk a = true) (h1 : a ≠ wO) (ho : opn s ≠ []) {x : PV} : s_judge_closed [.tup (s.map tI), .tup [.str a, x]] h = .ok (.bl false) h := by
  have e1 : pyEq h (.str a) (.str wO) = some false := by rw [eq_strs ha okO, decide_eq_false h1]
  have op := opening_ev (h := h) S
  have nn : cmpop .isnot (headV (opn s)) .non h = some true := by
    cases e : opn s with
    | nil => exact absurd e ho
    | cons y r => simp [cmpop, headV, tI]
  simp -implicitDefEqProofs [s_judge_closed, runFn, if_judge_closed, eq_int, op, e1, nn]
  exact finish_same (v := .bl false) rfl
theorem lp_cycle {s : List Fc} (S : Shp s) (ho : opn s = []) {m n : Nat} (hm : m ≤ 60) {x : PV} (hx : good m (n + 2) x = true) : s__law_is_paper [.tup (s.map tI), .tup [.str wC, x]] h = .ok (.bl (isP s wC x)) h := by
  have e1 : pyEq h (.str wC) (.str wO) = some false := by rw [eq_strs okC okO, decide_eq_false co]
  have e2 : pyEq h (.str wC) (.str wC) = some true := by rw [eq_strs okC okC]; simp
  have op := law_open_ev (h := h) S
  rw [ho] at op
  have lc := law_is_chain_ev (h := h) S hm hx
  unfold isP
  rw [if_neg co, if_neg (by simpa using ho), if_pos rfl]
  cases q : chO s x with
  | none =>
    rw [q] at lc
    simp -implicitDefEqProofs [s__law_is_paper, runFn, if__law_is_paper, eq_int, op, e1, e2, lc]
    exact finish_same (v := .bl false) rfl
  | some T =>
    rw [q] at lc
    obtain ⟨rfl, h3, h4⟩ := chO_eq q
    have Tl : T.length ≤ 60 := by
      have := (good_items (n := n + 1) (xs := T.map cp) hx).1
      simp at this
      omega
    have f12 : ∀ p ∈ T, p.1.length ≤ 12 := fun p hp => by have := (S.f _ (h3 p hp).1).2; omega
    have bv := law_boundary_ev (h := h) (T := T) (by omega) f12
    have ln : bltop .len [ch T] h = some (.int T.length) := by simp [ch]
    have wk : walkSrc h (ch T) = some (T.map cp, fun _ => true) := rfl
    by_cases l1 : T.length = s.length
    · have l1' : (T.length : Int) = s.length := by omega
      have ac := any_pm (h := h) (T := T) (by omega) (i := 7) (j := 8) (env := [some (.tup (s.map tI)), some (.tup [.str wC, ch T]), some (.lst []), none, none, none, none, none, none]) (ctx := LP) (c := .cmp .notin (.var 8) (.lst false (.cons (.cst (.int 1)) (.cons (.neg (.cst (.int 1))) .nil)))) (by decide) (by simp) (by simp) fun n env he => by
        have := in_tI (g := h) n [1, -1]
        have i : isIn h (.int n) (.lst [.int 1, .int (-1)]) = some (decide (n ∈ [1, -1])) := this
        simp only [x_cmp, x_var, he, R.bind_ok, x_lst, x_cons, x_cst, x_neg, x_intOf, Option.map_some, R.of_some, x_nil, x_mkf, cmpop, i]
      have ce : convop .any false (.lst (T.map fun p => .bl (!decide (p.2 ∈ [1, -1])))) h = .ok (.bl (!T.all fun p => decide (p.2 ∈ [1, -1]))) h := by
        rw [any_enc (fun p : Fc × Int => !decide (p.2 ∈ [1, -1])) T]
        congr 2
        rw [List.not_all_eq_any_not]
      have dn : dE LP (.conv .any false (.comp false [7, 8] (.tp [(.nm 7), (.nm 8)]) (.ex (.sub (.var 1) (.cst (.int 1)))) .nil (.cmp .notin (.var 8) (.lst false (.cons (.cst (.int 1)) (.cons (.neg (.cst (.int 1))) .nil)))))) [some (.tup (s.map tI)), some (.tup [.str wC, ch T]), some (.lst []), none, none, none, none, none, none] h = .ok (.bl (!T.all fun p => decide (p.2 ∈ [1, -1]))) h := by
        simp only [x_conv, x_comp, x_lksb, x_lk, x_ex, x_sub, x_var, x_cst, List.getElem?_cons_succ, List.getElem?_cons_zero, R.bind_ok, x_it1, R.of_some, wk, x_w, x_w0, List.set_cons_succ, List.set_cons_zero, ac, x_mkf, ce]
      cases al : T.all fun p => decide (p.2 ∈ [1, -1]) with
      | false =>
        rw [al] at dn
        have cb : chainB s T = false := by unfold chainB; rw [al, Bool.and_false, Bool.false_and]
        dsimp only
        rw [cb]
        simp -implicitDefEqProofs [s__law_is_paper, runFn, if__law_is_paper, eq_int, op, e1, e2, lc, ln, l1', dn, -x_conv]
        exact finish_same (v := .bl false) rfl
      | true =>
        rw [al] at dn
        have cb : chainB s T = decide (tld (bnd T) = []) := by unfold chainB; rw [al, decide_eq_true l1]; rfl
        have en := eq_nil (h := h) (tld (bnd T))
        dsimp only
        rw [cb]
        simp -implicitDefEqProofs [s__law_is_paper, runFn, if__law_is_paper, eq_int, op, e1, e2, lc, ln, l1', dn, -x_conv, bv, en]
        exact finish_same (v := .bl _) rfl
    · have l1' : ¬ (T.length : Int) = s.length := by omega
      have cb : chainB s T = false := by unfold chainB; rw [decide_eq_false l1]; rfl
      dsimp only
      rw [cb]
      simp -implicitDefEqProofs [s__law_is_paper, runFn, if__law_is_paper, eq_int, op, e1, e2, lc, ln, l1']
      exact finish_same (v := .bl false) rfl
theorem jc_cycle {s : List Fc} (S : Shp s) (ho : opn s = []) {m n : Nat} (hm : m ≤ 60) {x : PV} (hx : good m (n + 2) x = true) : s_judge_closed [.tup (s.map tI), .tup [.str wC, x]] h = .ok (.bl (isP s wC x)) h := by
  have e1 : pyEq h (.str wC) (.str wO) = some false := by rw [eq_strs okC okO, decide_eq_false co]
  have e2 : pyEq h (.str wC) (.str wC) = some true := by rw [eq_strs okC okC]; simp
  have e3 : pyEq h (.str wC) (.str wT) = some false := by rw [eq_strs okC okT, decide_eq_false fun e => tc e.symm]
  have op : s_opening [.tup (s.map tI)] h = .ok .non h := by rw [opening_ev S, ho]; rfl
  have nn : cmpop .isnot .non .non h = some false := by simp [cmpop]
  have lc := is_chain_ev (h := h) S hm hx
  have nd : s.Nodup := nodup_lt S.srt
  have lim : s.length < LIM := by have := S.n; simp [LIM]; omega
  have kn : ∀ (B A : List Fc), s = A ++ B → dcompGo (fun _ => true) (tgSet (.nm 3)) (dIfs [s_is_opening, s_is_plain, s_opening, s_is_turned, s_is_chain, s_boundary] .nil) (dE [s_is_opening, s_is_plain, s_opening, s_is_turned, s_is_chain, s_boundary] (.var 3)) (dE [s_is_opening, s_is_plain, s_opening, s_is_turned, s_is_chain, s_boundary] (.cst (.bl true))) [some (.tup (s.map tI)), some (.tup [.str wC, x]), none, none, none] (B.map tI) h (db A) = .ok (db s) h := by
    intro B
    induction B with
    | nil => intro A e; simp [dcompGo, e]
    | cons y B ih =>
      intro A e
      have ih := ih (A ++ [y]) (by rw [e]; simp)
      have hy : y ∉ A := fun hy => by
        rw [e, List.nodup_append] at nd
        exact nd.2.2 y hy y (by simp) rfl
      have put : dPut (db A) (tI y) (.bl true) = db (A ++ [y]) := by
        rw [db_put]
        unfold ins
        rw [if_neg]
        intro c
        obtain ⟨z, hz, e'⟩ := List.any_eq_true.mp c
        exact hy ((of_decide_eq_true e') ▸ hz)
      have lA : (db A).length < LIM := by
        rw [e] at lim
        simp [db] at lim ⊢
        omega
      rw [List.map_cons, dcompGo]
      simp [keyOk_tI (db_keys A) y, lA, put]
      simpa using ih
  have kn0 := kn s [] rfl
  rw [show db ([] : List Fc) = [] from rfl] at kn0
  have lk0 : ∀ {env : HW.Env} {g : PHeap}, lockV 0 (some (.tup (s.map tI)) :: env) g = none := fun {env g} => rfl
  have dk : dE [s_is_opening, s_is_plain, s_opening, s_is_turned, s_is_chain, s_boundary] (.dcomp false [3] (.nm 3) (.ex (.var 0)) .nil (.var 3) (.cst (.bl true))) [some (.tup (s.map tI)), some (.tup [.str wC, x]), none, none, none] h = .ok (.dct (db s)) h := by
    simp only [x_dcomp, x_lkv, lk0, x_lk, x_ex, x_var, List.getElem?_cons_zero, R.bind_ok, x_wt, R.of_some, x_w, x_w0, List.set_cons_succ, List.set_cons_zero, kn0, x_mdf]
  unfold isP
  rw [if_neg co, if_neg (by simpa using ho), if_pos rfl]
  cases q : chO s x with
  | none =>
    rw [q] at lc
    simp -implicitDefEqProofs [s_judge_closed, runFn, if_judge_closed, eq_int, op, nn, e1, e2, e3, dk, -x_dcomp, lc]
    exact finish_same (v := .bl false) rfl
  | some T =>
    rw [q] at lc
    obtain ⟨rfl, h3, h4⟩ := chO_eq q
    have Tl : T.length ≤ 60 := by
      have := (good_items (n := n + 1) (xs := T.map cp) hx).1
      simp at this
      omega
    have f12 : ∀ p ∈ T, p.1.length ≤ 12 := fun p hp => by have := (S.f _ (h3 p hp).1).2; omega
    have bv := boundary_ev (h := h) (T := T) (by omega) f12
    have ln : bltop .len [ch T] h = some (.int T.length) := by simp [ch]
    have wk : walkSrc h (ch T) = some (T.map cp, fun _ => true) := rfl
    by_cases l1 : T.length = s.length
    · have l1' : (T.length : Int) = s.length := by omega
      have ac := any_pm (h := h) (T := T) (by omega) (i := 3) (j := 4) (env := [some (.tup (s.map tI)), some (.tup [.str wC, ch T]), none, none, none]) (ctx := [s_is_opening, s_is_plain, s_opening, s_is_turned, s_is_chain, s_boundary]) (c := .cmp .notin (.var 4) (.tup (.cons (.cst (.int 1)) (.cons (.neg (.cst (.int 1))) .nil)))) (by decide) (by simp) (by simp) fun n env he => by
        have := in_tI (g := h) n [1, -1]
        have i : isIn h (.int n) (.tup [.int 1, .int (-1)]) = some (decide (n ∈ [1, -1])) := this
        simp only [x_cmp, x_var, he, R.bind_ok, x_tup, x_cons, x_cst, x_neg, x_intOf, Option.map_some, R.of_some, x_nil, cmpop, i]
      have ce : convop .any false (.lst (T.map fun p => .bl (!decide (p.2 ∈ [1, -1])))) h = .ok (.bl (!T.all fun p => decide (p.2 ∈ [1, -1]))) h := by
        rw [any_enc (fun p : Fc × Int => !decide (p.2 ∈ [1, -1])) T]
        congr 2
        rw [List.not_all_eq_any_not]
      have dn : dE [s_is_opening, s_is_plain, s_opening, s_is_turned, s_is_chain, s_boundary] (.conv .any false (.comp false [3, 4] (.tp [(.nm 3), (.nm 4)]) (.ex (.sub (.var 1) (.cst (.int 1)))) .nil (.cmp .notin (.var 4) (.tup (.cons (.cst (.int 1)) (.cons (.neg (.cst (.int 1))) .nil)))))) [some (.tup (s.map tI)), some (.tup [.str wC, ch T]), none, none, none] h = .ok (.bl (!T.all fun p => decide (p.2 ∈ [1, -1]))) h := by
        simp only [x_conv, x_comp, x_lksb, x_lk, x_ex, x_sub, x_var, x_cst, List.getElem?_cons_succ, List.getElem?_cons_zero, R.bind_ok, x_it1, R.of_some, wk, x_w, x_w0, List.set_cons_succ, List.set_cons_zero, ac, x_mkf, ce]
      cases al : T.all fun p => decide (p.2 ∈ [1, -1]) with
      | false =>
        rw [al] at dn
        have cb : chainB s T = false := by unfold chainB; rw [al, Bool.and_false, Bool.false_and]
        dsimp only
        rw [cb]
        simp -implicitDefEqProofs [s_judge_closed, runFn, if_judge_closed, eq_int, op, nn, e1, e2, e3, dk, -x_dcomp, lc, ln, l1', dn, -x_conv]
        exact finish_same (v := .bl false) rfl
      | true =>
        rw [al] at dn
        have cb : chainB s T = decide (tld (bnd T) = []) := by unfold chainB; rw [al, decide_eq_true l1]; rfl
        have en := eq_nil (h := h) (tld (bnd T))
        dsimp only
        rw [cb]
        simp -implicitDefEqProofs [s_judge_closed, runFn, if_judge_closed, eq_int, op, nn, e1, e2, e3, dk, -x_dcomp, lc, ln, l1', dn, -x_conv, bv, en]
        exact finish_same (v := .bl _) rfl
    · have l1' : ¬ (T.length : Int) = s.length := by omega
      have cb : chainB s T = false := by unfold chainB; rw [decide_eq_false l1]; rfl
      dsimp only
      rw [cb]
      simp -implicitDefEqProofs [s_judge_closed, runFn, if_judge_closed, eq_int, op, nn, e1, e2, e3, dk, -x_dcomp, lc, ln, l1']
      exact finish_same (v := .bl false) rfl
end
end K13
namespace K13
open PySem HW
section
variable {h : PHeap}
theorem lp_other {s : List Fc} (S : Shp s) (ho : opn s = []) {a : Str} (ha : PyData.strOk a = true) (h1 : a ≠ wO) (h2 : a ≠ wC) (h3 : a ≠ wT) {x : PV} : s__law_is_paper [.tup (s.map tI), .tup [.str a, x]] h = .ok (.bl false) h := by
  have e1 : pyEq h (.str a) (.str wO) = some false := by rw [eq_strs ha okO, decide_eq_false h1]
  have e2 : pyEq h (.str a) (.str wC) = some false := by rw [eq_strs ha okC, decide_eq_false h2]
  have e3 : pyEq h (.str a) (.str wT) = some false := by rw [eq_strs ha okT, decide_eq_false h3]
  have op := law_open_ev (h := h) S
  rw [ho] at op
  simp -implicitDefEqProofs [s__law_is_paper, runFn, if__law_is_paper, eq_int, op, e1, e2, e3]
  exact finish_same (v := .bl false) rfl
theorem jc_other {s : List Fc} (S : Shp s) (ho : opn s = []) {a : Str} (ha : PyData.strOk a = true) (h1 : a ≠ wO) (h2 : a ≠ wC) (h3 : a ≠ wT) {x : PV} : s_judge_closed [.tup (s.map tI), .tup [.str a, x]] h = .ok (.bl false) h := by
  have e1 : pyEq h (.str a) (.str wO) = some false := by rw [eq_strs ha okO, decide_eq_false h1]
  have e2 : pyEq h (.str a) (.str wC) = some false := by rw [eq_strs ha okC, decide_eq_false h2]
  have e3 : pyEq h (.str a) (.str wT) = some false := by rw [eq_strs ha okT, decide_eq_false h3]
  have op : s_opening [.tup (s.map tI)] h = .ok .non h := by rw [opening_ev S, ho]; rfl
  have nn : cmpop .isnot .non .non h = some false := by simp [cmpop]
  simp -implicitDefEqProofs [s_judge_closed, runFn, if_judge_closed, eq_int, op, nn, e1, e2, e3]
  exact finish_same (v := .bl false) rfl
def rsV (s : List Fc) (x : PV) : Bool := match plO x with
  | some f => decide (f ∈ s)
  | none => false
theorem rs_all {s : List Fc} : ∀ {xs : List PV}, xs.all (rsV s) = true → ∃ fs : List Fc, xs = fs.map tI ∧ ∀ f ∈ fs, f ∈ s
  | [], _ => ⟨[], rfl, by simp⟩
  | x :: xs, q => by
    rw [List.all_cons, Bool.and_eq_true] at q
    obtain ⟨fs, rfl, h2⟩ := rs_all q.2
    have q1 := q.1
    unfold rsV at q1
    cases e : plO x with
    | none => rw [e] at q1; cases q1
    | some f =>
      rw [e] at q1
      refine ⟨f :: fs, by rw [plO_eq e]; rfl, fun g hg => ?_⟩
      rcases List.mem_cons.mp hg with rfl | hg
      · exact of_decide_eq_true q1
      · exact h2 g hg
theorem rs_no {s : List Fc} {xs : List PV} (q : xs.all (rsV s) = false) : tB s (rowO (.tup xs)) = false := by
  cases a : xs.all fun x => (plO x).isSome with
  | false => rw [show rowO (.tup xs) = xs.mapM plO from rfl, rowO_none a]; rfl
  | true =>
    obtain ⟨fs, rfl⟩ := all_plO a
    rw [rowO_fs]
    have : (fs.all fun f => decide (f ∈ s)) = (fs.map tI).all (rsV s) := by
      rw [List.all_map]
      refine congrArg (fun p => fs.all p) (funext fun f => ?_)
      simp [Function.comp, rsV, plO_tI]
    show ((fs.all fun f => decide (f ∈ s)) && rowB fs) = false
    rw [this, q]
    rfl
theorem lp_turned {s : List Fc} (S : Shp s) (ho : opn s = []) {m n : Nat} (hm : m ≤ 60) {x : PV} (hx : good m (n + 1) x = true) : s__law_is_paper [.tup (s.map tI), .tup [.str wT, x]] h = .ok (.bl (isP s wT x)) h := by
  have e1 : pyEq h (.str wT) (.str wO) = some false := by rw [eq_strs okT okO, decide_eq_false to]
  have e2 : pyEq h (.str wT) (.str wC) = some false := by rw [eq_strs okT okC, decide_eq_false tc]
  have e3 : pyEq h (.str wT) (.str wT) = some true := by rw [eq_strs okT okT]; simp
  have op := law_open_ev (h := h) S
  rw [ho] at op
  obtain ⟨P, T⟩ := closed_of S ho
  have ip : isP s wT x = tB s (rowO x) := by
    unfold isP
    rw [if_neg to, if_neg (by simpa using ho), if_neg tc, if_pos rfl]
  rw [ip]
  cases x with
  | tup xs =>
    obtain ⟨hl, hg⟩ := good_items hx
    by_cases l2 : (xs.length : Int) < 2
    · have rn : tB s (rowO (.tup xs)) = false := by
        cases a : xs.all fun x => (plO x).isSome with
        | false => rw [show rowO (.tup xs) = xs.mapM plO from rfl, rowO_none a]; rfl
        | true =>
          obtain ⟨fs, rfl⟩ := all_plO a
          rw [rowO_fs]
          have : ¬ 2 ≤ fs.length := by simp at l2; omega
          show ((fs.all fun f => decide (f ∈ s)) && rowB fs) = false
          unfold rowB
          rw [decide_eq_false this]
          simp
      rw [rn]
      simp -implicitDefEqProofs [s__law_is_paper, runFn, if__law_is_paper, eq_int, op, e1, e2, e3, l2]
      exact finish_same (v := .bl false) rfl
    · have cc : compGo (fun _ => true) (tgSet (.nm 6)) (dIfs LP .nil) (dE LP (.and (.call 1 (.cons (.var 6) .nil)) (.cmp .isin (.var 6) (.var 0)))) [some (.tup (s.map tI)), some (.tup [.str wT, .tup xs]), some (.lst []), some (.tup xs), none, none, none, none, none] xs h [] = .ok (xs.map fun x => .bl (rsV s x)) h := by
        rw [comp_gen (fun _ => true) (fun x => .bl (rsV s x)) rfl xs [] (fun x q => ⟨[some (.tup (s.map tI)), some (.tup [.str wT, .tup xs]), some (.lst []), some (.tup xs), none, none, some x, none, none], by simp, by simp, fun _ => by
          have pl := law_is_plain_ev (h := h) hm (hg x q)
          cases e : plO x with
          | none =>
            rw [e] at pl
            simp [pl, rsV, e]
          | some f =>
            rw [e] at pl
            obtain rfl := plO_eq e
            simp [pl, rsV, e, in_tup]⟩) (by simp [LIM]; omega), List.filter_eq_self.mpr (fun _ _ => rfl)]
        rfl
      have ce : convop .all false (.lst (xs.map fun x => .bl (rsV s x))) h = .ok (.bl (xs.all (rsV s))) h := all_map (rsV s) xs
      have lk3 : ∀ {a b c : Option PV} {env : HW.Env} {g : PHeap} {y : List PV}, lockV 3 (a :: b :: c :: some (.tup y) :: env) g = none := fun {a b c env g y} => rfl
      cases al : xs.all (rsV s) with
      | false =>
        rw [al] at ce
        rw [rs_no al]
        simp -implicitDefEqProofs [s__law_is_paper, runFn, if__law_is_paper, eq_int, op, e1, e2, e3, l2, lk3, cc, ce]
        exact finish_same (v := .bl false) rfl
      | true =>
        rw [al] at ce
        obtain ⟨r, rfl, hr⟩ := rs_all al
        have l2n : 2 ≤ r.length := by simp at l2; omega
        have l2' : ¬ ((r.length : Int) < 2) := by omega
        have rl : r.length ≤ 60 := by simp at hl; omega
        have ra : (r.all fun f => decide (f ∈ s)) = true := List.all_eq_true.mpr fun f hf => decide_eq_true (hr f hf)
        rw [rowO_fs, show tB s (some r) = ((r.all fun f => decide (f ∈ s)) && rowB r) from rfl, ra, Bool.true_and]
        rw [List.map_map] at ce
        have r2 := rng2_ev (h := h) (n := r.length) (by omega)
        have sc := step_comp (h := h) (ctx := LP) P hr (env := [some (.tup (s.map tI)), some (.tup [.str wT, .tup (r.map tI)]), some (.lst []), some (.tup (r.map tI)), none, none, none, none, none]) rfl rfl (by omega) rfl
        obtain ⟨a, ha⟩ : ∃ a, r.head? = some a := by
          cases r with
          | nil => simp at l2n
          | cons a r => exact ⟨a, rfl⟩
        obtain ⟨z, hz⟩ : ∃ z, r.getLast? = some z := ⟨_, List.getLast?_eq_some_getLast (fun e => by rw [e] at l2n; simp at l2n)⟩
        have i0 : itemOf h (.tup (r.map tI)) (.int 0) = some (tI a) := row_at (i := 0) (by rw [← List.head?_eq_getElem?]; exact ha)
        have i1 := row_last (h := h) hz
        have ni : cmpop .notin .non (.lst ((stp r).map turnV)) h = some (!decide (none ∈ stp r)) := by simp [cmpop, none_in]
        have rb : rowB r = (decide (a = z) && (decide (none ∉ stp r) && decide ((stp r).count (some true) % 2 = 1))) := by
          unfold rowB
          rw [ha, hz, decide_eq_true l2n]
          simp [Bool.and_assoc]
        have ee : decide (((stp r).count (some true) : Int) % 2 = 1) = decide ((stp r).count (some true) % 2 = 1) := decide_eq_decide.mpr (by omega)
        have rv : recv .lcount h (.lst ((stp r).map turnV)) = true := rfl
        rw [rb]
        simp -implicitDefEqProofs [s__law_is_paper, runFn, if__law_is_paper, eq_int, op, e1, e2, e3, l2', lk3, cc, ce, x_lkr2, r2, sc, i0, i1, eq_tI]
        by_cases q : a = z
        · by_cases w : none ∈ stp r
          · simp -implicitDefEqProofs [q, ni, w]
            exact finish_same (v := .bl false) rfl
          · simp -implicitDefEqProofs [q, ni, w, rv, true_count, mod2, eq_int, ee]
            exact finish_same (v := .bl _) rfl
        · simp -implicitDefEqProofs [q]
          exact finish_same (v := .bl false) rfl
  | _ =>
    simp [good] at hx <;> simp -implicitDefEqProofs [s__law_is_paper, runFn, if__law_is_paper, eq_int, op, e1, e2, e3, rowO, tB] <;> exact finish_same (v := .bl false) rfl
end
end K13
namespace K13
open PySem HW
section
variable {h : PHeap}
abbrev JP : List Sem := [s_is_opening, s_is_plain, s_opening, s_is_turned, s_is_chain, s_boundary]
theorem jc_turned {s : List Fc} (S : Shp s) (ho : opn s = []) {m n : Nat} (hm : m ≤ 60) {x : PV} (hx : good m (n + 1) x = true) : s_judge_closed [.tup (s.map tI), .tup [.str wT, x]] h = .ok (.bl (isP s wT x)) h := by
  have e1 : pyEq h (.str wT) (.str wO) = some false := by rw [eq_strs okT okO, decide_eq_false to]
  have e3 : pyEq h (.str wT) (.str wT) = some true := by rw [eq_strs okT okT]; simp
  have op : s_opening [.tup (s.map tI)] h = .ok .non h := by rw [opening_ev S, ho]; rfl
  have nn : cmpop .isnot .non .non h = some false := by simp [cmpop]
  obtain ⟨P, T⟩ := closed_of S ho
  have ip : isP s wT x = tB s (rowO x) := by
    unfold isP
    rw [if_neg to, if_neg (by simpa using ho), if_neg tc, if_pos rfl]
  rw [ip]
  cases x with
  | tup xs =>
    obtain ⟨hl, hg⟩ := good_items hx
    have cc : compGo (fun _ => true) (tgSet (.nm 2)) (dIfs JP .nil) (dE JP (.call 1 (.cons (.var 2) .nil))) [some (.tup (s.map tI)), some (.tup [.str wT, .tup xs]), none, none, none] xs h [] = .ok (xs.map fun x => .bl (plO x).isSome) h := by
      rw [comp_gen (fun _ => true) (fun x => .bl (plO x).isSome) rfl xs [] (fun x q => ⟨[some (.tup (s.map tI)), some (.tup [.str wT, .tup xs]), some x, none, none], by simp, by simp, fun _ => by
        have pl := is_plain_ev (h := h) hm (hg x q)
        simp [pl]⟩) (by simp [LIM]; omega), List.filter_eq_self.mpr (fun _ _ => rfl)]
      rfl
    have ce : convop .all false (.lst (xs.map fun x => .bl (plO x).isSome)) h = .ok (.bl (xs.all fun x => (plO x).isSome)) h := all_map (fun x => (plO x).isSome) xs
    cases al : xs.all fun x => (plO x).isSome with
    | false =>
      rw [al] at ce
      rw [show rowO (.tup xs) = xs.mapM plO from rfl, rowO_none al]
      simp -implicitDefEqProofs [s_judge_closed, runFn, if_judge_closed, eq_int, op, nn, e1, e3, cc, ce]
      exact finish_same (v := .bl false) rfl
    | true =>
      rw [al] at ce
      obtain ⟨r, rfl⟩ := all_plO al
      rw [rowO_fs, show tB s (some r) = ((r.all fun f => decide (f ∈ s)) && rowB r) from rfl]
      rw [List.map_map] at ce
      have it := is_turned_ev (h := h) P T (r := r) (by simp at hl; omega)
      simp -implicitDefEqProofs [s_judge_closed, runFn, if_judge_closed, eq_int, op, nn, e1, e3, cc, ce, it]
      exact finish_same (v := .bl _) rfl
  | _ =>
    simp [good] at hx <;> simp -implicitDefEqProofs [s_judge_closed, runFn, if_judge_closed, eq_int, op, nn, e1, e3, rowO, tB] <;> exact finish_same (v := .bl false) rfl
theorem both_ev {s : List Fc} (S : Shp s) {m n : Nat} (hm : m ≤ 60) {v : PV} (hv : good m (n + 4) v = true) : s_judge_closed [.tup (s.map tI), v] h = .ok (.bl (isPV s v)) h ∧ s__law_is_paper [.tup (s.map tI), v] h = .ok (.bl (isPV s v)) h := by
  cases v with
  | tup xs =>
    obtain ⟨hl, hg⟩ := good_items hv
    by_cases l2 : (xs.length : Int) = 2
    · have l2' : xs.length = 2 := by omega
      match xs, l2' with
      | [a, x], _ =>
        have ga := hg a (by simp)
        have gx := hg x (by simp)
        cases a with
        | str w =>
          have wk : PyData.strOk w = true := by
            have := ga
            simpa [good] using this
          show _ = HW.R.ok (PV.bl (isP s w x)) h ∧ _ = HW.R.ok (PV.bl (isP s w x)) h
          by_cases h1 : w = wO
          · subst h1
            exact ⟨jc_open S hm gx, lp_open S hm gx⟩
          · by_cases ho : opn s = []
            · by_cases h2 : w = wC
              · subst h2
                exact ⟨jc_cycle S ho hm (n := n + 1) gx, lp_cycle S ho hm (n := n + 1) gx⟩
              · by_cases h3 : w = wT
                · subst h3
                  exact ⟨jc_turned S ho hm (n := n + 2) gx, lp_turned S ho hm (n := n + 2) gx⟩
                · have : isP s w x = false := by
                    unfold isP
                    rw [if_neg h1, if_neg (by simpa using ho), if_neg h2, if_neg h3]
                  rw [this]
                  exact ⟨jc_other S ho wk h1 h2 h3, lp_other S ho wk h1 h2 h3⟩
            · have : isP s w x = false := by
                unfold isP
                rw [if_neg h1, if_pos ho]
              rw [this]
              exact ⟨jc_faces S wk h1 ho, lp_faces S wk h1 ho⟩
        | non => exact ⟨jc_str rfl, lp_str rfl⟩
        | bl b => exact ⟨jc_str rfl, lp_str rfl⟩
        | int b => exact ⟨jc_str rfl, lp_str rfl⟩
        | tup b => exact ⟨jc_str rfl, lp_str rfl⟩
        | lst b => exact ⟨jc_str rfl, lp_str rfl⟩
        | _ => simp [good] at ga
    · have : isPV s (.tup xs) = false := by
        unfold isPV
        split
        · rename_i e
          cases e
          simp at l2
        · rfl
      rw [this]
      exact ⟨jc_len l2, lp_len l2⟩
  | non => exact ⟨jc_not rfl, lp_not rfl⟩
  | bl b => exact ⟨jc_not rfl, lp_not rfl⟩
  | int b => exact ⟨jc_not rfl, lp_not rfl⟩
  | str b => exact ⟨jc_not rfl, lp_not rfl⟩
  | lst b => exact ⟨jc_not rfl, lp_not rfl⟩
  | _ => simp [good] at hv
end
/-! the program's own paper *)-/
theorem chain_right {s : List Fc} {k : Nat} (ho : opn s = []) (P : Pur s k) (W : Two s k) {T : Tb} (h : Sgn s T) : isPV s (cycleV (tld T)) = true ∧ (tld T).length = s.length ∧ ∀ p ∈ tld T, p.1 ∈ s := by
  have nz' : T.filter nz = T := List.filter_eq_self.mpr fun p hp => by
    have := h.pm p hp
    simp only [nz, decide_eq_true_eq]
    omega
  have pm : (tld T).Perm T := by
    have := tld_perm T
    rwa [nz'] at this
  have len : T.length = s.length := by
    have := (h.perm P.nd).length_eq
    rwa [List.length_map] at this
  have ms : ∀ p ∈ tld T, p.1 ∈ s := fun p hp => (h.mem _).mp (List.mem_map.mpr ⟨p, pm.subset hp, rfl⟩)
  have pms : ∀ p ∈ tld T, p.2 = 1 ∨ p.2 = -1 := fun p hp => h.pm p (pm.subset hp)
  have inc : ((tld T).map (·.1)).Pairwise (· < ·) := by
    have e : tld T = s.map fun f => (f, get T f) := by
      have h1 := sortV_key cp (·.1) (fun p => [.int p.2]) (fun p => dOf_of (by unfold cp; rw [toD, toDs, toDs, toDs, toD_tI]; rfl)) (h.perm P.nd) (by
        rw [List.pairwise_map]
        exact P.sh.srt)
      rw [sortV_cp] at h1
      have inj : ∀ a b : Fc × Int, cp a = cp b → a = b := by
        intro a b e
        unfold cp at e
        simp only [PV.tup.injEq, List.cons.injEq, PV.int.injEq, and_true] at e
        exact Prod.ext (tI_inj (show tI a.1 = tI b.1 from congrArg PV.tup e.1)) e.2
      have h2 := (List.map_inj_right inj).mp h1
      unfold tld
      rw [nz', h2]
    rw [e, List.map_map]
    simpa [Function.comp_def] using P.sh.srt
  refine ⟨?_, by rw [pm.length_eq, len], ms⟩
  show isP s wC (ch (tld T)) = true
  unfold isP
  rw [if_neg co, if_neg (by simpa using ho), if_pos rfl, chO_ch (fun p hp => ⟨ms p hp, by have := pms p hp; omega⟩) inc]
  dsimp only
  unfold chainB
  rw [pm.length_eq, len, bnd_zero P W h]
  simp only [decide_true, Bool.true_and, Bool.and_true]
  rw [List.all_eq_true]
  intro p hp
  have := pms p hp
  simpa using this
theorem opn_len {s : List Fc} (S : Shp s) {x : Fc} (hx : x ∈ opn s) : x.length ≤ 5 := by
  unfold opn at hx
  split at hx
  · exact (S.f x (List.mem_filter.mp hx).1).2
  · rename_i h1
    split at hx
    · exact (S.f x hx).2
    · rename_i h2
      have P := pur_of S (by simpa using h1) h2
      obtain ⟨⟨f, hf, hs⟩, _⟩ := (mem_Lv P.n2).mp (List.mem_filter.mp hx).1
      have := hs.length_le
      have := (S.f f hf).2
      omega
theorem good_tI {m n : Nat} {f : Fc} (h : f.length ≤ m) : good m (n + 1) (tI f) = true := good_tup (by simpa using h) fun y hy => by
  obtain ⟨i, _, rfl⟩ := List.mem_map.mp hy
  exact good_int _ _ _
theorem good_pap {w : Str} (hw : PyData.strOk w = true) {x : PV} (hx : good 40 4 x = true) : good 40 5 (.tup [.str w, x]) = true := good_tup (by simp) fun y hy => by
  simp only [List.mem_cons, List.not_mem_nil, or_false] at hy
  rcases hy with rfl | rfl
  · exact good_str _ _ hw
  · exact hx
theorem good_ch {s : List Fc} (S : Shp s) {T : Tb} (hl : T.length ≤ 40) (hs : ∀ p ∈ T, p.1 ∈ s) : good 40 4 (ch T) = true := good_tup (by simpa using hl) fun y hy => by
  obtain ⟨p, hp, rfl⟩ := List.mem_map.mp hy
  exact good_cp 40 1 (by omega) (by have := (S.f _ (hs p hp)).2; omega)
theorem good_row {s : List Fc} (S : Shp s) {r : List Fc} (hl : r.length ≤ 40) (hs : ∀ f ∈ r, f ∈ s) : good 40 4 (.tup (r.map tI)) = true := good_tup (by simpa using hl) fun y hy => by
  obtain ⟨f, hf, rfl⟩ := List.mem_map.mp hy
  exact good_tI (n := 2) (by have := (S.f _ (hs f hf)).2; omega)
/-- what comes of a closed complex *)-/
theorem end_of {s : List Fc} (S : Shp s) (ho : opn s = []) : match outer (nb s) s.length s [] with
    | .ok N => Sgn s (sgs N)
    | .error r => GoodRow s r ∧ r.length ≤ 40 := by
  obtain ⟨P, W⟩ := closed_of S ho
  have oo := outer_ok (nb_Nbs P) (Nat.le_refl s.length) s [] (fun f hf => hf) (fun f hf => .inl hf) (BI.nil [])
  have fw := P.few
  revert oo
  cases outer (nb s) s.length s [] with
  | ok N => exact fun F => F.sgn
  | error r => exact fun ⟨a, b⟩ => ⟨a, by omega⟩
theorem row_right {s : List Fc} (ho : opn s = []) {r : List Fc} (g : GoodRow s r) : isPV s (turnedV r) = true := by
  show isP s wT (.tup (r.map tI)) = true
  unfold isP
  rw [if_neg to, if_neg (by simpa using ho), if_neg tc, if_pos rfl, rowO_fs]
  show ((r.all fun f => decide (f ∈ s)) && rowB r) = true
  rw [Bool.and_eq_true]
  refine ⟨List.all_eq_true.mpr fun f hf => decide_eq_true (g.mem f hf), ?_⟩
  unfold rowB
  rw [decide_eq_true g.two, decide_eq_true g.ends, decide_eq_true g.st, decide_eq_true g.odd]
  rfl
theorem paper_right {s : List Fc} (S : Shp s) : isPV s (paperV s) = true ∧ good 40 5 (paperV s) = true := by
  unfold paperV
  cases e : opn s with
  | cons x r =>
    dsimp only
    refine ⟨?_, good_pap okO (good_tI (n := 3) (by have := opn_len S (x := x) (by rw [e]; simp); omega))⟩
    show isP s wO (tI x) = true
    unfold isP
    rw [if_pos rfl, plO_tI, e]
    simp
  | nil =>
    obtain ⟨P, W⟩ := closed_of S e
    have eo := end_of S e
    have fw := P.few
    dsimp only
    revert eo
    cases outer (nb s) s.length s [] with
    | ok N =>
      intro g
      obtain ⟨a, b, c⟩ := chain_right e P W g
      exact ⟨a, good_pap okC (good_ch S (by omega) c)⟩
    | error r =>
      rintro ⟨g, l⟩
      exact ⟨row_right e g, good_pap okT (good_row S l g.mem)⟩
end K13
namespace K13
open PySem HW
/-! the law's statements *)-/
def m0 : IS := (.asg (.tg (.nm 1)) (.call 0 (.cons (.var 0) .nil)))
def m1 : IS := (.asg (.tg (.nm 2)) (.call 1 (.cons (.var 1) .nil)))
def m2 : IS := (.asg (.tg (.nm 3)) (.call 2 (.cons (.var 2) .nil)))
def m3 : IS := (.asg (.tg (.nm 4)) (.call 3 (.cons (.var 2) .nil)))
def m4 : IS := (.asg (.tg (.nm 5)) (.ife (.var 4) (.cst .non) (.call 4 (.cons (.var 2) .nil))))
def m5 : IS := (.ifs (.or (.not (.call 5 (.cons (.var 2) (.cons (.var 3) .nil)))) (.cmp .ne (.cmp .eq (.sub (.var 3) (.cst (.int 0))) (.cst (.str (Str.ofString "open")))) (.cmp .gt (.blt .len (.cons (.var 4) .nil)) (.cst (.int 0))))) (.cons (.ret (.cst (.bl false))) .nil) .nil)
def m6 : IS := (.ifs (.and (.var 4) (.cmp .ne (.var 3) (.tup (.cons (.cst (.str (Str.ofString "open"))) (.cons (.sub (.var 4) (.cst (.int 0))) .nil))))) (.cons (.ret (.cst (.bl false))) .nil) .nil)
def m7 : IS := (.ifs (.or (.and (.not (.var 4)) (.cmp .ne (.cmp .eq (.sub (.var 3) (.cst (.int 0))) (.cst (.str (Str.ofString "cycle")))) (.cmp .isnot (.var 5) (.cst .non)))) (.and (.cmp .isnot (.var 5) (.cst .non)) (.cmp .ne (.var 3) (.tup (.cons (.cst (.str (Str.ofString "cycle"))) (.cons (.call 6 (.cons (.var 5) .nil)) .nil)))))) (.cons (.ret (.cst (.bl false))) .nil) .nil)
def m8 : IS := (.for_ (.nm 6) (.rng1 (.cst (.int 8))) (.cons (.asg (.tg (.nm 8)) (.call 7 (.cons (.var 1) (.cons (.var 3) (.cons (.var 6) .nil))))) (.cons (.ifs (.cmp .eq (.var 6) (.cst (.int 6))) (.cons (.asg (.tg (.nm 8)) (.tup (.cons (.cst (.str (Str.ofString "open"))) (.cons (.sub (.call 8 (.cons (.var 2) .nil)) (.call 9 (.cons (.var 1) (.cons (.blt .len (.cons (.call 8 (.cons (.var 2) .nil)) .nil)) .nil)))) .nil)))) .nil) .nil) (.cons (.ifs (.cmp .eq (.var 6) (.cst (.int 7))) (.cons (.asg (.tg (.nm 10)) (.comp false [11] (.nm 11) (.rng1 (.bin .add (.cst (.int 1)) (.call 9 (.cons (.var 1) (.cons (.cst (.int 4)) .nil))))) .nil (.sub (.var 2) (.call 9 (.cons (.var 1) (.cons (.blt .len (.cons (.var 2) .nil)) .nil)))))) (.cons (.asg (.tg (.nm 8)) (.tup (.cons (.cst (.str (Str.ofString "turned"))) (.cons (.conv .tuple false (.bin .add (.var 10) (.slice (.var 10) .none (.some (.cst (.int 1)))))) .nil)))) .nil)) .nil) (.cons (.asg (.tg (.nm 9)) (.call 10 (.cons (.var 2) (.cons (.var 8) .nil)))) (.cons (.ifs (.or (.not (.blt (.isi "bool") (.cons (.var 9) .nil))) (.cmp .ne (.var 9) (.call 5 (.cons (.var 2) (.cons (.var 8) .nil))))) (.cons (.ret (.cst (.bl false))) .nil) .nil) .nil))))))
def m9 : IS := (.ifs (.cmp .is (.var 5) (.cst .non)) (.cons (.ret (.cst (.bl true))) .nil) .nil)
def m10 : IS := (.asg (.tg (.nm 7)) (.call 6 (.cons (.conv .dict false (.comp false [12] (.nm 12) (.ex (.var 5)) .nil (.tup (.cons (.var 12) (.cons (.bin .sub (.cst (.int 0)) (.sub (.var 5) (.var 12))) .nil))))) .nil)))
def m11 : IS := (.ret (.cmp .is (.call 10 (.cons (.var 2) (.cons (.tup (.cons (.cst (.str (Str.ofString "cycle"))) (.cons (.var 7) .nil))) .nil))) (.cst (.bl true))))
def mB : ISs := (.cons m0 (.cons m1 (.cons m2 (.cons m3 (.cons m4 (.cons m5 (.cons m6 (.cons m7 (.cons m8 (.cons m9 (.cons m10 (.cons m11 .nil))))))))))))
def LC : List Sem := [s__law_start, s__law_shape, s_closed_paper, s__law_open, s__law_signs, s__law_is_paper, s__law_chain, s__law_bent, s__law_faces, s__law_take, s_judge_closed]
theorem s_law_eq : s_law = runFn ⟨1, 13, mB, false⟩ LC := rfl
def m8B : ISs := match m8 with | .for_ _ _ b => b | _ => .nil
def b1 : IS := match m8B with | .cons a _ => a | _ => .pass
def b2 : IS := match m8B with | .cons _ (.cons a _) => a | _ => .pass
def b3 : IS := match m8B with | .cons _ (.cons _ (.cons a _)) => a | _ => .pass
def b4 : IS := match m8B with | .cons _ (.cons _ (.cons _ (.cons a _))) => a | _ => .pass
def b5 : IS := match m8B with | .cons _ (.cons _ (.cons _ (.cons _ (.cons a _)))) => a | _ => .pass
theorem m8B_eq : m8B = .cons b1 (.cons b2 (.cons b3 (.cons b4 (.cons b5 .nil)))) := rfl
section
variable {h : PHeap}
abbrev wE (sc : PV) (s : List Fc) (p f g : PV) (x6 x7 x8 x9 x10 : Option PV) : HW.Env := [some sc, some (.ref 0), some (.tup (s.map tI)), some p, some f, some g, x6, x7, x8, x9, x10, none, none]
theorem draw_t {ns : List Int} {t g : PHeap} (b : Bx ns t g) {C : List Fc} (hn : C ≠ []) (hl : C.length ≤ 1000000) : ∃ d g', Bx ns t g' ∧ s__law_take [.ref 0, .int C.length] g = .ok (.int d) g' ∧ ∃ c ∈ C, ∀ k, itemOf k (.lst (C.map tI)) (.int d) = some (tI c) ∧ itemOf k (.tup (C.map tI)) (.int d) = some (tI c) := by
  have pos := List.length_pos_iff.mpr hn
  obtain ⟨d, g1, d1, d2, b1, e⟩ := take_bx b (many := C.length) (by omega) (by omega)
  obtain ⟨v, v1, v2⟩ := item_mem (g := g1) (xs := C.map tI) d1 (by simpa using d2)
  obtain ⟨c, hc, rfl⟩ := List.mem_map.mp v1
  exact ⟨d, g1, b1, e, c, hc, fun k => ⟨v2, v2⟩⟩
theorem pick_comp {ns : List Int} {t : PHeap} {s : List Fc} (S : Shp s) {sc p f g0 : PV} {x6 x7 x8 x9 x10 : Option PV} : ∀ (ks : List Nat) (acc : List PV) (g : PHeap), Bx ns t g → acc.length + ks.length ≤ 1000 →
    ∃ (T : List Fc) (g' : PHeap), T.length = ks.length ∧ (∀ f ∈ T, f ∈ s) ∧ Bx ns t g' ∧
      compGo (fun _ => true) (tgSet (.nm 11)) (dIfs LC .nil) (dE LC (.sub (.var 2) (.call 9 (.cons (.var 1) (.cons (.blt .len (.cons (.var 2) .nil)) .nil))))) (wE sc s p f g0 x6 x7 x8 x9 x10) (ks.map fun (i : Nat) => PV.int i) g acc = .ok (acc ++ T.map tI) g'
  | [], acc, g, b, _ => ⟨[], g, rfl, by simp, b, by simp [compGo]⟩
  | k :: ks, acc, g, b, hl2 => by
    simp only [List.length_cons] at hl2
    obtain ⟨d, g1, b1, e, c, hc, it⟩ := draw_t b S.e (by have := S.n; omega)
    obtain ⟨T, g2, t1, t2, b2, q⟩ := pick_comp S (sc := sc) (p := p) (f := f) (g0 := g0) (x6 := x6) (x7 := x7) (x8 := x8) (x9 := x9) (x10 := x10) ks (acc ++ [tI c]) g1 b1 (by simp; omega)
    refine ⟨c :: T, g2, by simp [t1], ?_, b2, ?_⟩
    · intro p hp
      rcases List.mem_cons.mp hp with r | r
      · rw [r]
        exact hc
      · exact t2 p r
    · have lim : acc.length < LIM := by simp [LIM]; omega
      have i2 := (it g1).2
      rw [List.map_cons]
      simp [compGo, LC, e, i2, lim]
      rw [show ([s__law_start, s__law_shape, s_closed_paper, s__law_open, s__law_signs, s__law_is_paper, s__law_chain, s__law_bent, s__law_faces, s__law_take, s_judge_closed] : List Sem) = LC from rfl, q]
      simp
theorem x_sll {xs : List PV} {lo hi : Option Int} : sliceOf h (.lst xs) lo hi = some (.lst (cut xs lo hi)) := rfl
theorem cv_tup {al : Bool} {x : List PV} : convop .tuple al (.lst x) h = .ok (.tup x) h := rfl
theorem allF_five {s : List Fc} (S : Shp s) {f : Fc} (hf : f ∈ allF s) : f.length ≤ 5 := by
  obtain ⟨g, g1, _, g3⟩ := mem_allF.mp hf
  have := g3.length_le
  have := (S.f g g1).2
  omega
/-- what is judged in a turn *)-/
theorem bend {ns : List Int} {s : List Fc} (S : Shp s) {sc f g0 : PV} {x7 x8 x9 x10 : Option PV} {k : Nat} (hk : k < 8) (b : Bx ns [] h) : ∃ (v : PV) (y10 : Option PV) (h' : PHeap), good 60 5 v = true ∧ Bx ns [] h' ∧
    dSs LC (.cons b1 (.cons b2 (.cons b3 .nil))) (wE sc s (paperV s) f g0 (some (.int k)) x7 x8 x9 x10) h = .ok (.nx (wE sc s (paperV s) f g0 (some (.int k)) x7 (some v) x9 y10)) h' := by
  obtain ⟨v, g, hv, b', r⟩ := bent_ev (turn := k) (by omega) (by omega) (paper_right S).2 b
  have hv' : good 60 5 v = true := good_mono (by omega) hv
  have L9 : LC[9]? = some s__law_take := rfl
  have L8 : LC[8]? = some s__law_faces := rfl
  have L7 : LC[7]? = some s__law_bent := rfl
  by_cases k6 : k = 6
  · subst k6
    obtain ⟨d, g2, b2', e, c, hc, it⟩ := draw_t b' (C := sortF (allF s)) (fun e => by
      obtain ⟨f, hf⟩ := List.exists_mem_of_ne_nil s S.e
      have : f ∈ sortF (allF s) := mem_sortF.mpr (mem_allF.mpr ⟨f, hf, (S.f f hf).1, List.Sublist.refl _⟩)
      rw [e] at this
      simp at this) (by
      rw [(sortF_perm _).length_eq]
      have := allF_small S.sm
      omega)
    have fe := fun g => law_faces_ev (h := g) S.sm
    have lf : ((sortF (allF s)).map tI).length = (sortF (allF s)).length := by simp
    refine ⟨.tup [.str wO, tI c], x10, g2, ?_, b2', ?_⟩
    · have c5 := allF_five S (mem_sortF.mp hc)
      exact good_mono (by omega) (good_pap okO (good_tI (n := 3) (by omega)))
    · have i1 := fun g => (it g).1
      have r6 : s__law_bent [.ref 0, paperV s, .int 6] h = .ok v g := r
      simp -implicitDefEqProofs [b1, b2, b3, m8B, m8, r6, fe, eq_int, L7, L8, L9, e, i1]
  · by_cases k7 : k = 7
    · subst k7
      obtain ⟨d, g2, d1, d2, b2', e⟩ := take_bx b' (many := 4) (by omega) (by omega)
      obtain ⟨n, hn, hn2⟩ : ∃ n : Nat, 1 + d = n ∧ n ≤ 4 := ⟨(1 + d).toNat, by omega, by omega⟩
      obtain ⟨T, g3, t1, t2, b3', q⟩ := pick_comp S (sc := sc) (p := paperV s) (f := f) (g0 := g0) (x6 := some (.int 7)) (x7 := x7) (x8 := some v) (x9 := x9) (x10 := x10) (List.range n) [] g2 b2' (by simp; omega)
      rw [List.length_range] at t1
      rw [List.nil_append] at q
      have rg := rngV_nat (n := n) (h := g2) (by omega)
      have ct : cut (T.map tI) none (some 1) = (T.take 1).map tI := by
        have := cut_take (T.map tI) 1
        rw [List.map_take]
        exact this
      have ad : binop .add (.lst (T.map tI)) (.lst ((T.take 1).map tI)) g3 = some (.lst ((T ++ T.take 1).map tI)) := by
        rw [x_addl (by simp [LIM]; omega), List.map_append]
      refine ⟨turnedV (T ++ T.take 1), some (.lst (T.map tI)), g3, ?_, b3', ?_⟩
      · refine good_mono (by omega) (good_pap okT (good_row S (by simp; omega) fun f hf => ?_))
        rcases List.mem_append.mp hf with h | h
        · exact t2 f h
        · exact t2 f (List.mem_of_mem_take h)
      · have L9g : LC.getD 9 (fun _ _ => .bad) = s__law_take := rfl
        have D : dE LC (.comp false [11] (.nm 11) (.rng1 (.bin .add (.cst (.int 1)) (.call 9 (.cons (.var 1) (.cons (.cst (.int 4)) .nil))))) .nil (.sub (.var 2) (.call 9 (.cons (.var 1) (.cons (.blt .len (.cons (.var 2) .nil)) .nil))))) (wE sc s (paperV s) f g0 (some (.int 7)) x7 (some v) x9 x10) g = .ok (.lst (T.map tI)) g3 := by
          simp -implicitDefEqProofs only [x_comp, x_lkr, x_lk, x_rng1, x_bin, x_cst, R.bind_ok, x_call, x_cons, x_var, x_nil, List.getElem?_cons_succ, List.getElem?_cons_zero, L9g, e, x_add, R.of_some, hn, rg, x_w, x_w0, List.set_cons_succ, List.set_cons_zero, q, x_mkf]
        have r7 : s__law_bent [.ref 0, paperV s, .int 7] h = .ok v g := r
        have L7g : LC.getD 7 (fun _ _ => .bad) = s__law_bent := rfl
        have B1 : dS LC b1 (wE sc s (paperV s) f g0 (some (.int 7)) x7 x8 x9 x10) h = .ok (.nx (wE sc s (paperV s) f g0 (some (.int 7)) x7 (some v) x9 x10)) g := by
          simp -implicitDefEqProofs [b1, m8B, m8, L7, r7]
        have B2 : dS LC b2 (wE sc s (paperV s) f g0 (some (.int 7)) x7 (some v) x9 x10) g = .ok (.nx (wE sc s (paperV s) f g0 (some (.int 7)) x7 (some v) x9 x10)) g := by
          simp -implicitDefEqProofs [b2, m8B, m8, eq_int]
        have B3 : dS LC b3 (wE sc s (paperV s) f g0 (some (.int 7)) x7 (some v) x9 x10) g = .ok (.nx (wE sc s (paperV s) f g0 (some (.int 7)) x7 (some (turnedV (T ++ T.take 1))) x9 (some (.lst (T.map tI))))) g3 := by
          simp -implicitDefEqProofs [b3, m8B, m8, eq_int, -x_comp, D, x_sll, ct, ad, cv_tup, -List.map_append, -List.map_take]
        have fin : dSs LC (.cons b1 (.cons b2 (.cons b3 .nil))) (wE sc s (paperV s) f g0 (some (.int 7)) x7 x8 x9 x10) h = .ok (.nx (wE sc s (paperV s) f g0 (some (.int 7)) x7 (some (turnedV (T ++ T.take 1))) x9 (some (.lst (T.map tI))))) g3 := by
          simp -implicitDefEqProofs only [x_scons, B1, B2, B3, R.bind_ok, x_snil]
        exact fin
    · refine ⟨v, x10, g, hv', b', ?_⟩
      have n6 : ¬ ((k : Int) = 6) := by omega
      have n7 : ¬ ((k : Int) = 7) := by omega
      simp -implicitDefEqProofs [b1, b2, b3, m8B, m8, r, eq_int, n6, n7, L7]
end
end K13
namespace K13
open PySem HW
section
variable {h : PHeap}
theorem is_bool {v : Bool} : bltop (.isi "bool") [.bl v] h = some (.bl true) := rfl
theorem rng8 : rngV (.int 8) h = .ok ((List.range 8).map fun (i : Nat) => PV.int i) h := rngV_nat (n := 8) (by decide)
theorem turn8 {ns : List Int} {s : List Fc} (S : Shp s) {sc f g0 : PV} {x7 x8 x9 x10 : Option PV} {k : Nat} (hk : k < 8) (b : Bx ns [] h) : ∃ (y8 y9 y10 : Option PV) (h' : PHeap), Bx ns [] h' ∧
    dSs LC m8B (wE sc s (paperV s) f g0 (some (.int k)) x7 x8 x9 x10) h = .ok (.nx (wE sc s (paperV s) f g0 (some (.int k)) x7 y8 y9 y10)) h' := by
  obtain ⟨v, y10, h', gv, b', q⟩ := bend (f := f) (g0 := g0) (sc := sc) (x7 := x7) (x8 := x8) (x9 := x9) (x10 := x10) S hk b
  obtain ⟨q1, q2⟩ := both_ev (h := h') (n := 1) S (by omega) gv
  refine ⟨some v, some (.bl (isPV s v)), y10, h', b', ?_⟩
  have e4 : dS LC b4 (wE sc s (paperV s) f g0 (some (.int k)) x7 (some v) x9 y10) h' = .ok (.nx (wE sc s (paperV s) f g0 (some (.int k)) x7 (some v) (some (.bl (isPV s v))) y10)) h' := by
    simp -implicitDefEqProofs [b4, m8B, m8, LC, q1]
  have e5 : dS LC b5 (wE sc s (paperV s) f g0 (some (.int k)) x7 (some v) (some (.bl (isPV s v))) y10) h' = .ok (.nx (wE sc s (paperV s) f g0 (some (.int k)) x7 (some v) (some (.bl (isPV s v))) y10)) h' := by
    simp -implicitDefEqProofs [b5, m8B, m8, LC, q2, is_bool, eq_bool]
  have sp : dSs LC m8B (wE sc s (paperV s) f g0 (some (.int k)) x7 x8 x9 x10) h = (dSs LC (.cons b1 (.cons b2 (.cons b3 .nil))) (wE sc s (paperV s) f g0 (some (.int k)) x7 x8 x9 x10) h).bind fun o h1 => match o with
      | .nx env => dSs LC (.cons b4 (.cons b5 .nil)) env h1
      | o => .ok o h1 := by
    rw [m8B_eq]
    simp only [x_scons]
    generalize dS LC b1 _ _ = r
    cases r with
    | ok o g =>
      cases o with
      | nx e =>
        simp only [R.bind_ok]
        generalize dS LC b2 _ _ = r
        cases r with
        | ok o g =>
          cases o with
          | nx e =>
            simp only [R.bind_ok]
            generalize dS LC b3 _ _ = r
            cases r with
            | ok o g => cases o <;> simp
            | exc e g => rfl
            | bad => rfl
          | _ => rfl
        | exc e g => rfl
        | bad => rfl
      | _ => rfl
    | exc e g => rfl
    | bad => rfl
  rw [sp, q]
  simp only [R.bind_ok, x_scons, e4, e5, x_snil]
theorem loop8 {ns : List Int} {s : List Fc} (S : Shp s) {sc f g0 : PV} {x6 x7 x8 x9 x10 : Option PV} (b : Bx ns [] h) : ∃ (y6 y8 y9 y10 : Option PV) (h' : PHeap), Bx ns [] h' ∧
    dS LC m8 (wE sc s (paperV s) f g0 x6 x7 x8 x9 x10) h = .ok (.nx (wE sc s (paperV s) f g0 y6 x7 y8 y9 y10)) h' := by
  obtain ⟨env', h', r, b', ⟨y6, y8, y9, y10, rfl⟩, _⟩ := for_inv (enc := fun (i : Nat) => PV.int i) (chk := fun _ => true) (tg := tgSet (.nm 6)) (body := dSs LC m8B) (step := fun (_ : Unit) _ => ())
    (I := fun ts _ e g => Bx ns [] g ∧ (∃ x6 x8 x9 x10, e = wE sc s (paperV s) f g0 x6 x7 x8 x9 x10) ∧ ∀ k ∈ ts, k < 8) (fun _ _ _ _ _ => rfl) (by
      rintro n ts _ e g ⟨b, ⟨x6, x8, x9, x10, rfl⟩, k⟩
      obtain ⟨y8, y9, y10, h', b', q⟩ := turn8 S (sc := sc) (f := f) (g0 := g0) (x7 := x7) (x8 := x8) (x9 := x9) (x10 := x10) (k n List.mem_cons_self) b
      exact ⟨wE sc s (paperV s) f g0 (some (.int n)) x7 x8 x9 x10, by simp, _, h', q, b', ⟨_, _, _, _, rfl⟩, fun m hm => k m (List.mem_cons_of_mem _ hm)⟩) (List.range 8) () (wE sc s (paperV s) f g0 x6 x7 x8 x9 x10) h ⟨b, ⟨_, _, _, _, rfl⟩, fun k hk => List.mem_range.mp hk⟩
  refine ⟨y6, y8, y9, y10, h', b', ?_⟩
  have m : m8 = .for_ (.nm 6) (.rng1 (.cst (.int 8))) m8B := rfl
  simp only [m, x_for, x_lkr, x_lk, x_rng1, x_cst, R.bind_ok, rng8, r]
end
end K13
namespace K13
open PySem HW
section
variable {h : PHeap}
theorem eq_pap {v : PV} (hv : good 40 5 v = true) : pyEq h v v = some true := eq_same (n := 5) (by omega) (good_tame hv)
theorem eqO : pyEq h (.str wO) (.str wO) = some true := by rw [eq_strs okO okO]; simp
theorem eqCO : pyEq h (.str wC) (.str wO) = some false := by rw [eq_strs okC okO, decide_eq_false co]
theorem eqTO : pyEq h (.str wT) (.str wO) = some false := by rw [eq_strs okT okO, decide_eq_false to]
theorem eqOC : pyEq h (.str wO) (.str wC) = some false := by rw [eq_strs okO okC, decide_eq_false fun e => co e.symm]
theorem eqC : pyEq h (.str wC) (.str wC) = some true := by rw [eq_strs okC okC]; simp
theorem eqTC : pyEq h (.str wT) (.str wC) = some false := by rw [eq_strs okT okC, decide_eq_false tc]
def tailR : ISs := .cons m8 (.cons m9 (.cons m10 (.cons m11 .nil)))
theorem law_pap {s : List Fc} (S : Shp s) : s__law_is_paper [.tup (s.map tI), paperV s] h = .ok (.bl true) h := by
  have := (both_ev (h := h) (m := 40) (n := 1) S (by omega) (paper_right S).2).2
  rwa [(paper_right S).1] at this
theorem nn0 : cmpop .isnot .non .non h = some false := by simp [cmpop]
theorem is0 : cmpop .is .non .non h = some true := by simp [cmpop]
theorem nnD {es : List (PV × PV)} : cmpop .isnot (.dct es) .non h = some true := by simp [cmpop]
theorem isD {es : List (PV × PV)} : cmpop .is (.dct es) .non h = some false := by simp [cmpop]
theorem isT : cmpop .is (.bl true) (.bl true) h = some true := by simp [cmpop]
/-- the first words: open *)-/
theorem caseA {ns : List Int} {s : List Fc} (S : Shp s) (b : Bx ns [] h) {sc : PV} {x : Fc} {r : List Fc} (e : opn s = x :: r) : ∃ g, dSs LC (.cons m5 (.cons m6 (.cons m7 tailR))) (wE sc s (paperV s) (.lst ((opn s).map tI)) .non none none none none none) h = .ok (.rt (.bl true)) g := by
  have pp : paperV s = openV x := by unfold paperV; rw [e]
  have q := law_pap (h := h) S
  have es := eq_pap (h := h) (paper_right S).2
  obtain ⟨y6, y8, y9, y10, h', b', q8⟩ := loop8 (h := h) S (sc := sc) (f := .lst ((opn s).map tI)) (g0 := .non) (x6 := none) (x7 := none) (x8 := none) (x9 := none) (x10 := none) b
  rw [pp] at q es q8
  rw [e] at q8
  have M5 : dS LC m5 (wE sc s (openV x) (.lst ((x :: r).map tI)) .non none none none none none) h = .ok (.nx (wE sc s (openV x) (.lst ((x :: r).map tI)) .non none none none none none)) h := by
    have p0 : (0 : Int) < (r.length : Int) + 1 := by omega
    simp -implicitDefEqProofs [m5, LC, q, eqO, eq_bool, p0]
  have M6 : dS LC m6 (wE sc s (openV x) (.lst ((x :: r).map tI)) .non none none none none none) h = .ok (.nx (wE sc s (openV x) (.lst ((x :: r).map tI)) .non none none none none none)) h := by
    simp -implicitDefEqProofs [m6, LC, es]
  have M7 : dS LC m7 (wE sc s (openV x) (.lst ((x :: r).map tI)) .non none none none none none) h = .ok (.nx (wE sc s (openV x) (.lst ((x :: r).map tI)) .non none none none none none)) h := by
    simp -implicitDefEqProofs [m7, LC, nn0]
  have M9 : dS LC m9 (wE sc s (openV x) (.lst ((x :: r).map tI)) .non y6 none y8 y9 y10) h' = .ok (.rt (.bl true)) h' := by
    simp -implicitDefEqProofs [m9, is0]
  rw [pp, e]
  exact ⟨h', by simp -implicitDefEqProofs only [tailR, x_scons, M5, M6, M7, q8, M9, R.bind_ok]⟩
/-- turned *)-/
theorem caseC {ns : List Int} {s : List Fc} (S : Shp s) (b : Bx ns [] h) {sc : PV} (e : opn s = []) {r : List Fc} (er : outer (nb s) s.length s [] = .error r) : ∃ g, dSs LC (.cons m5 (.cons m6 (.cons m7 tailR))) (wE sc s (paperV s) (.lst ((opn s).map tI)) .non none none none none none) h = .ok (.rt (.bl true)) g := by
  have pp : paperV s = turnedV r := by unfold paperV; rw [e, er]
  have q := law_pap (h := h) S
  obtain ⟨y6, y8, y9, y10, h', b', q8⟩ := loop8 (h := h) S (sc := sc) (f := .lst ((opn s).map tI)) (g0 := .non) (x6 := none) (x7 := none) (x8 := none) (x9 := none) (x10 := none) b
  rw [pp] at q q8
  rw [e] at q8
  have M5 : dS LC m5 (wE sc s (turnedV r) (.lst (([] : List Fc).map tI)) .non none none none none none) h = .ok (.nx (wE sc s (turnedV r) (.lst (([] : List Fc).map tI)) .non none none none none none)) h := by
    simp -implicitDefEqProofs [m5, LC, q, eqTO, eq_bool]
  have M6 : dS LC m6 (wE sc s (turnedV r) (.lst (([] : List Fc).map tI)) .non none none none none none) h = .ok (.nx (wE sc s (turnedV r) (.lst (([] : List Fc).map tI)) .non none none none none none)) h := by
    simp -implicitDefEqProofs [m6, LC]
  have M7 : dS LC m7 (wE sc s (turnedV r) (.lst (([] : List Fc).map tI)) .non none none none none none) h = .ok (.nx (wE sc s (turnedV r) (.lst (([] : List Fc).map tI)) .non none none none none none)) h := by
    simp -implicitDefEqProofs [m7, LC, nn0, eqTC, eq_bool]
  have M9 : dS LC m9 (wE sc s (turnedV r) (.lst (([] : List Fc).map tI)) .non y6 none y8 y9 y10) h' = .ok (.rt (.bl true)) h' := by
    simp -implicitDefEqProofs [m9, is0]
  rw [pp, e]
  exact ⟨h', by simp -implicitDefEqProofs only [tailR, x_scons, M5, M6, M7, q8, M9, R.bind_ok]⟩
/-- cycle *)-/
theorem caseB {ns : List Int} {s : List Fc} (S : Shp s) (b : Bx ns [] h) {sc : PV} (e : opn s = []) {N : List Node} (er : outer (nb s) s.length s [] = .ok N) : ∃ g, dSs LC (.cons m5 (.cons m6 (.cons m7 tailR))) (wE sc s (paperV s) (.lst ((opn s).map tI)) (.dct (dc (sgs N))) none none none none none) h = .ok (.rt (.bl true)) g := by
  have pp : paperV s = cycleV (tld (sgs N)) := by unfold paperV; rw [e, er]
  have q := law_pap (h := h) S
  have es := eq_pap (h := h) (paper_right S).2
  obtain ⟨P, W⟩ := closed_of S e
  have eo := end_of S e
  rw [er] at eo
  have sg : Sgn s (sgs N) := eo
  have fw := P.few
  have len : (sgs N).length = s.length := by
    have := (sg.perm P.nd).length_eq
    rwa [List.length_map] at this
  obtain ⟨y6, y8, y9, y10, h', b', q8⟩ := loop8 (h := h) S (sc := sc) (f := .lst ((opn s).map tI)) (g0 := .dct (dc (sgs N))) (x6 := none) (x7 := none) (x8 := none) (x9 := none) (x10 := none) b
  rw [pp] at q q8 es
  rw [e] at q8
  have ce := chain_ev (h := h) sg.nd (by rw [len]; simp [LIM]; omega)
  have ln : sg.neg.nd = sg.neg.nd := rfl
  have nl : ((sgs N).map fun p => (p.1, 0 - p.2)).length ≤ LIM := by rw [List.length_map, len]; simp [LIM]; omega
  obtain ⟨c1, c2, c3⟩ := chain_right e P W sg.neg
  have M5 : dS LC m5 (wE sc s (cycleV (tld (sgs N))) (.lst (([] : List Fc).map tI)) (.dct (dc (sgs N))) none none none none none) h = .ok (.nx (wE sc s (cycleV (tld (sgs N))) (.lst (([] : List Fc).map tI)) (.dct (dc (sgs N))) none none none none none)) h := by
    simp -implicitDefEqProofs [m5, LC, q, eqCO, eq_bool]
  have M6 : dS LC m6 (wE sc s (cycleV (tld (sgs N))) (.lst (([] : List Fc).map tI)) (.dct (dc (sgs N))) none none none none none) h = .ok (.nx (wE sc s (cycleV (tld (sgs N))) (.lst (([] : List Fc).map tI)) (.dct (dc (sgs N))) none none none none none)) h := by
    simp -implicitDefEqProofs [m6, LC]
  have M7 : dS LC m7 (wE sc s (cycleV (tld (sgs N))) (.lst (([] : List Fc).map tI)) (.dct (dc (sgs N))) none none none none none) h = .ok (.nx (wE sc s (cycleV (tld (sgs N))) (.lst (([] : List Fc).map tI)) (.dct (dc (sgs N))) none none none none none)) h := by
    simp -implicitDefEqProofs [m7, LC, nnD, eqC, eq_bool, ce, es]
  have M9 : dS LC m9 (wE sc s (cycleV (tld (sgs N))) (.lst (([] : List Fc).map tI)) (.dct (dc (sgs N))) y6 none y8 y9 y10) h' = .ok (.nx (wE sc s (cycleV (tld (sgs N))) (.lst (([] : List Fc).map tI)) (.dct (dc (sgs N))) y6 none y8 y9 y10)) h' := by
    simp -implicitDefEqProofs [m9, isD]
  have cc : compGo (fun _ => true) (tgSet (.nm 12)) (dIfs LC .nil) (dE LC (.tup (.cons (.var 12) (.cons (.bin .sub (.cst (.int 0)) (.sub (.var 5) (.var 12))) .nil)))) (wE sc s (cycleV (tld (sgs N))) (.lst (([] : List Fc).map tI)) (.dct (dc (sgs N))) y6 none y8 y9 y10) ((sgs N).map fun p => tI p.1) h' [] = .ok (((sgs N).map fun p => (p.1, 0 - p.2)).map cp) h' := by
    rw [List.map_map]
    exact comp_map (enc := fun p : Fc × Int => tI p.1) (fun p : Fc × Int => cp (p.1, 0 - p.2)) rfl _ (fun p hp => ⟨_, by simp; rfl, by simp [dc_item (h := h') sg.nd hp, cp]⟩) (by rw [len]; simp [LIM]; omega)
  have dl : convop .dict false (.lst (((sgs N).map fun p => (p.1, 0 - p.2)).map cp)) h' = .ok (.dct (dc ((sgs N).map fun p => (p.1, 0 - p.2)))) h' := dict_l sg.neg.nd nl
  have ce2 := chain_ev (h := h') sg.neg.nd nl
  have wk : (dc (sgs N)).map (fun x => x.1) = (sgs N).map (fun p => tI p.1) := by simp [dc, Function.comp_def]
  have M10 : dS LC m10 (wE sc s (cycleV (tld (sgs N))) (.lst (([] : List Fc).map tI)) (.dct (dc (sgs N))) y6 none y8 y9 y10) h' = .ok (.nx (wE sc s (cycleV (tld (sgs N))) (.lst (([] : List Fc).map tI)) (.dct (dc (sgs N))) y6 (some (ch (tld ((sgs N).map fun p => (p.1, 0 - p.2))))) y8 y9 y10)) h' := by
    have D : dE LC (.conv .dict false (.comp false [12] (.nm 12) (.ex (.var 5)) .nil (.tup (.cons (.var 12) (.cons (.bin .sub (.cst (.int 0)) (.sub (.var 5) (.var 12))) .nil))))) (wE sc s (cycleV (tld (sgs N))) (.lst (([] : List Fc).map tI)) (.dct (dc (sgs N))) y6 none y8 y9 y10) h' = .ok (.dct (dc ((sgs N).map fun p => (p.1, 0 - p.2)))) h' := by
      have lk : lockV 5 (wE sc s (cycleV (tld (sgs N))) (.lst (([] : List Fc).map tI)) (.dct (dc (sgs N))) y6 none y8 y9 y10) h' = none := rfl
      simp only [x_conv, x_comp, x_lkv, lk, x_lk, x_ex, x_var, List.getElem?_cons_succ, List.getElem?_cons_zero, R.bind_ok, x_wd, R.of_some, wk, x_w, x_w0, List.set_cons_succ, List.set_cons_zero, cc, x_mkf, dl]
    have c6 : LC.getD 6 (fun _ _ => .bad) = s__law_chain := rfl
    simp -implicitDefEqProofs only [m10, x_asg, x_call, x_cons, x_nil, D, R.bind_ok, c6, ce2, x_tg, x_tnm, List.length_cons, List.length_nil, Nat.reduceAdd, Nat.reduceLT, if_true, R.of_some, List.set_cons_succ, List.set_cons_zero]
  have jc := (both_ev (h := h') (m := 40) (n := 1) S (by omega) (good_pap okC (good_ch S (T := tld ((sgs N).map fun p => (p.1, 0 - p.2))) (by rw [c2]; omega) c3))).1
  rw [c1] at jc
  have M11 : dS LC m11 (wE sc s (cycleV (tld (sgs N))) (.lst (([] : List Fc).map tI)) (.dct (dc (sgs N))) y6 (some (ch (tld ((sgs N).map fun p => (p.1, 0 - p.2))))) y8 y9 y10) h' = .ok (.rt (.bl true)) h' := by
    simp -implicitDefEqProofs [m11, LC, jc, isT, -Int.zero_sub]
  rw [pp, e]
  exact ⟨h', by simp -implicitDefEqProofs only [tailR, x_scons, M5, M6, M7, q8, M9, M10, M11, R.bind_ok]⟩
theorem math (ns : List Int) (hl : ns.length ≤ 63) (_ : ∀ z ∈ ns, Builtin.Int.intBits z ≤ 1048576) : ∃ h, s_law [.scr ns] [] = .ok (.bl true) h := by
  have st := start_ev ns hl
  have b0 : Bx ns [] [box ns 0 0 0] := ⟨0, 0, 0, by omega, by omega, by omega, by omega, rfl⟩
  obtain ⟨s, g1, S, b1, sh⟩ := shape_ev b0
  have cp1 := closed_ev (h := g1) S
  have op := law_open_ev (h := g1) S
  have pre : ∃ g0, (dSs LC mB (some (.scr ns) :: List.replicate 12 none) [] = dSs LC (.cons m5 (.cons m6 (.cons m7 tailR))) (wE (.scr ns) s (paperV s) (.lst ((opn s).map tI)) g0 none none none none none) g1) ∧ (∀ x r, opn s = x :: r → g0 = .non) ∧ (opn s = [] → g0 = signsV s) := by
    cases e : opn s with
    | cons x r =>
      rw [e] at op
      refine ⟨.non, ?_, (fun _ _ _ => rfl), (fun c => by simp at c)⟩
      simp only [mB, x_scons, tailR]
      simp -implicitDefEqProofs [m0, m1, m2, m3, m4, LC, st, sh, cp1, op, -x_scons]
    | nil =>
      rw [e] at op
      obtain ⟨P, W⟩ := closed_of S e
      have ls := law_signs_ev (h := g1) P
      refine ⟨signsV s, ?_, (fun _ _ c => by simp at c), fun _ => rfl⟩
      simp only [mB, x_scons, tailR]
      simp -implicitDefEqProofs [m0, m1, m2, m3, m4, LC, st, sh, cp1, op, ls, -x_scons]
  obtain ⟨g0, p1, p2, p3⟩ := pre
  have run : ∃ g, dSs LC mB (some (.scr ns) :: List.replicate 12 none) [] = .ok (.rt (.bl true)) g := by
    rw [p1]
    cases e : opn s with
    | cons x r =>
      rw [p2 x r e, ← e]
      exact caseA S b1 e
    | nil =>
      have g := p3 e
      unfold signsV at g
      cases er : outer (nb s) s.length s [] with
      | error r =>
        rw [er] at g
        rw [g, ← e]
        exact caseC S b1 e er
      | ok N =>
        rw [er] at g
        rw [g, ← e]
        exact caseB S b1 e er
  obtain ⟨g, q2⟩ := run
  refine ⟨[], ?_⟩
  rw [s_law_eq]
  show (dSs LC mB (some (.scr ns) :: List.replicate 12 none) []).bind _ = _
  rw [q2]
  have := finish_ext (h := []) (t := g) (v := .bl true) rfl
  simpa using this
end
end K13
namespace K13
open PySem PySem.Spec PyProof.Rows L2 C8 HW
theorem head {P : Program} {w : World} {K : PySem.W.Frag} {mg : Str → Option Value} {fa : Addr} (T : Top K mg) (F : LawAt K mg (topS 51) "script") (hmg : mg "law" = some (.ref fa)) :
    ∃ fd : FuncData, (∀ (s : Shared) (u : Value), BindsTo s fd ⟨[u], []⟩ [("script", u)]) ∧ ∀ base : Heap, K.In base → base.Ns mainGlobals mg → FnOk P w K mg base L2.CX0 11 fa fd ["script"] (spS ⟨P, w, K⟩ 1 s_law) :=
  law_fn (k := 10) (G := ck_law) F hmg T.b (fun base => (.cons ⟨_, (by decide), (c__law_start T)⟩ (.cons ⟨_, (by decide), (c__law_shape T)⟩ (.cons ⟨_, (by decide), (c_closed_paper T)⟩ (.cons ⟨_, (by decide), (c__law_open T)⟩ (.cons ⟨_, (by decide), (c__law_signs T)⟩ (.cons ⟨_, (by decide), (c__law_is_paper T)⟩ (.cons ⟨_, (by decide), (c__law_chain T)⟩ (.cons ⟨_, (by decide), (c__law_bent T)⟩ (.cons ⟨_, (by decide), (c__law_faces T)⟩ (.cons ⟨_, (by decide), (c__law_take T)⟩ (.cons ⟨_, (by decide), (c_judge_closed T)⟩ .nil)))))))))))) .nil kf_law
theorem blt_none {K : PySem.W.Frag} {mg : Str → Option Value} {h : Heap} (X : K.In h) (G : h.Ns mainGlobals mg) (z0 : PySem.W.nsIn K mainGlobals "len" = some none) (z1 : PySem.W.nsIn K mainGlobals "abs" = some none) (z2 : PySem.W.nsIn K mainGlobals "max" = some none) (z3 : PySem.W.nsIn K mainGlobals "min" = some none) (z4 : PySem.W.nsIn K mainGlobals "int" = some none) (z5 : PySem.W.nsIn K mainGlobals "isinstance" = some none) (z6 : PySem.W.nsIn K mainGlobals "sorted" = some none) (z7 : PySem.W.nsIn K mainGlobals "list" = some none) (z8 : PySem.W.nsIn K mainGlobals "tuple" = some none) (z9 : PySem.W.nsIn K mainGlobals "sum" = some none) (z10 : PySem.W.nsIn K mainGlobals "all" = some none) (z11 : PySem.W.nsIn K mainGlobals "any" = some none) (z12 : PySem.W.nsIn K mainGlobals "dict" = some none) (z13 : PySem.W.nsIn K mainGlobals "set" = some none) (z14 : PySem.W.nsIn K mainGlobals "range" = some none) (z15 : PySem.W.nsIn K mainGlobals "enumerate" = some none) (z16 : PySem.W.nsIn K mainGlobals "zip" = some none) (z17 : PySem.W.nsIn K mainGlobals "bool" = some none) (z18 : PySem.W.nsIn K mainGlobals "str" = some none) : ∀ x ∈ bltNm, mg x = none := by
  simp only [bltNm, List.forall_mem_cons, List.not_mem_nil, false_implies, implies_true, and_true]
  exact ⟨PySem.W.mg_none_of X G z0, PySem.W.mg_none_of X G z1, PySem.W.mg_none_of X G z2, PySem.W.mg_none_of X G z3, PySem.W.mg_none_of X G z4, PySem.W.mg_none_of X G z5, PySem.W.mg_none_of X G z6, PySem.W.mg_none_of X G z7, PySem.W.mg_none_of X G z8, PySem.W.mg_none_of X G z9, PySem.W.mg_none_of X G z10, PySem.W.mg_none_of X G z11, PySem.W.mg_none_of X G z12, PySem.W.mg_none_of X G z13, PySem.W.mg_none_of X G z14, PySem.W.mg_none_of X G z15, PySem.W.mg_none_of X G z16, PySem.W.mg_none_of X G z17, PySem.W.mg_none_of X G z18⟩

end K13
open PySem PySem.W PyProof.Rows
set_option maxHeartbeats 0 in
theorem PySem.Challenge.cw_hollowstead_k13_closed_complexes_holds : PySem.Challenge.rw_hollowstead_k13_closed_complexes.Holds := by
  w_on; o_law; k_head; (case hw => w_witness2)
  k_fill
  refine L2.walk_ofB (l := PySem.Challenge.rw_hollowstead_k13_closed_complexes) (n := 63) (k := 11) (x := "script") (CX := fun _ => L2.CX0) (sp := fun w => HW.spS ⟨(PySem.Challenge.rw_hollowstead_k13_closed_complexes).prog, w, _⟩ 1 K13.s_law) rfl (by decide) rfl ⟨rfl, by decide, by decide⟩ (fun w h Y => PySem.W.kIn_of Y) ?F (fun _ _ a ns hl hb hO hS => (K13.math ns hl hb).elim fun h m => HW.law_sp hO hS m) (fun _ _ _ _ _ h => h)
  case F =>
    intro w mg fa h KX G hmg
    refine' K13.head ⟨?d0, ?d1, ?d2, ?d3, ?d4, ?d5, ?d6, ?d7, ?d8, ?d9, ?d10, ?d11, ?d12, ?d13, ?d14, ?d15, ?d16, ?d17, ?d18, ?d19, ?d20, ?d21, ?d22, ?d23, ?d24, ?d25, ?d26, ?d27, ?d28, ?d29, ?d30, ?d31, ?d32, ?d33, ?d34, ?d35, ?d36, ?d37, ?d38, ?d39, ?d40, ?d41, ?d42, K13.blt_none KX G ?z0 ?z1 ?z2 ?z3 ?z4 ?z5 ?z6 ?z7 ?z8 ?z9 ?z10 ?z11 ?z12 ?z13 ?z14 ?z15 ?z16 ?z17 ?z18⟩ ?law hmg
    (case z0 => k_is); (case z1 => k_is); (case z2 => k_is); (case z3 => k_is); (case z4 => k_is); (case z5 => k_is); (case z6 => k_is); (case z7 => k_is); (case z8 => k_is); (case z9 => k_is); (case z10 => k_is); (case z11 => k_is); (case z12 => k_is); (case z13 => k_is); (case z14 => k_is); (case z15 => k_is); (case z16 => k_is); (case z17 => k_is); (case z18 => k_is)
    (case d0 => refine' HW.mkDef KX G ?hb ?a ?l ?c ?k; (case hb => exact fun _ _ _ _ _ _ us hl => match us, hl with | [_], _ => rfl); (case a => k_is); (case l => k_is); (case c => k_is); (case k => k_is))
    (case d1 => refine' HW.mkDef KX G ?hb ?a ?l ?c ?k; (case hb => exact fun _ _ _ _ _ _ us hl => match us, hl with | [_], _ => rfl); (case a => k_is); (case l => k_is); (case c => k_is); (case k => k_is))
    (case d2 => refine' HW.mkDef KX G ?hb ?a ?l ?c ?k; (case hb => exact fun _ _ _ _ _ _ us hl => match us, hl with | [_], _ => rfl); (case a => k_is); (case l => k_is); (case c => k_is); (case k => k_is))
    (case d3 => refine' HW.mkDef KX G ?hb ?a ?l ?c ?k; (case hb => exact fun _ _ _ _ _ _ us hl => match us, hl with | [_], _ => rfl); (case a => k_is); (case l => k_is); (case c => k_is); (case k => k_is))
    (case d4 => refine' HW.mkDef KX G ?hb ?a ?l ?c ?k; (case hb => exact fun _ _ _ _ _ _ us hl => match us, hl with | [_, _], _ => rfl); (case a => k_is); (case l => k_is); (case c => k_is); (case k => k_is))
    (case d5 => refine' HW.mkDef KX G ?hb ?a ?l ?c ?k; (case hb => exact fun _ _ _ _ _ _ us hl => match us, hl with | [_], _ => rfl); (case a => k_is); (case l => k_is); (case c => k_is); (case k => k_is))
    (case d6 => refine' HW.mkDef KX G ?hb ?a ?l ?c ?k; (case hb => exact fun _ _ _ _ _ _ us hl => match us, hl with | [_], _ => rfl); (case a => k_is); (case l => k_is); (case c => k_is); (case k => k_is))
    (case d7 => refine' HW.mkDef KX G ?hb ?a ?l ?c ?k; (case hb => exact fun _ _ _ _ _ _ us hl => match us, hl with | [_, _], _ => rfl); (case a => k_is); (case l => k_is); (case c => k_is); (case k => k_is))
    (case d8 => refine' HW.mkDef KX G ?hb ?a ?l ?c ?k; (case hb => exact fun _ _ _ _ _ _ us hl => match us, hl with | [_], _ => rfl); (case a => k_is); (case l => k_is); (case c => k_is); (case k => k_is))
    (case d9 => refine' HW.mkDef KX G ?hb ?a ?l ?c ?k; (case hb => exact fun _ _ _ _ _ _ us hl => match us, hl with | [_], _ => rfl); (case a => k_is); (case l => k_is); (case c => k_is); (case k => k_is))
    (case d10 => refine' HW.mkDef KX G ?hb ?a ?l ?c ?k; (case hb => exact fun _ _ _ _ _ _ us hl => match us, hl with | [_], _ => rfl); (case a => k_is); (case l => k_is); (case c => k_is); (case k => k_is))
    (case d11 => refine' HW.mkDef KX G ?hb ?a ?l ?c ?k; (case hb => exact fun _ _ _ _ _ _ us hl => match us, hl with | [_], _ => rfl); (case a => k_is); (case l => k_is); (case c => k_is); (case k => k_is))
    (case d12 => refine' HW.mkDef KX G ?hb ?a ?l ?c ?k; (case hb => exact fun _ _ _ _ _ _ us hl => match us, hl with | [_], _ => rfl); (case a => k_is); (case l => k_is); (case c => k_is); (case k => k_is))
    (case d13 => refine' HW.mkDef KX G ?hb ?a ?l ?c ?k; (case hb => exact fun _ _ _ _ _ _ us hl => match us, hl with | [_], _ => rfl); (case a => k_is); (case l => k_is); (case c => k_is); (case k => k_is))
    (case d14 => refine' HW.mkDef KX G ?hb ?a ?l ?c ?k; (case hb => exact fun _ _ _ _ _ _ us hl => match us, hl with | [_, _], _ => rfl); (case a => k_is); (case l => k_is); (case c => k_is); (case k => k_is))
    (case d15 => refine' HW.mkDef KX G ?hb ?a ?l ?c ?k; (case hb => exact fun _ _ _ _ _ _ us hl => match us, hl with | [_, _], _ => rfl); (case a => k_is); (case l => k_is); (case c => k_is); (case k => k_is))
    (case d16 => refine' HW.mkDef KX G ?hb ?a ?l ?c ?k; (case hb => exact fun _ _ _ _ _ _ us hl => match us, hl with | [_], _ => rfl); (case a => k_is); (case l => k_is); (case c => k_is); (case k => k_is))
    (case d17 => refine' HW.mkDef KX G ?hb ?a ?l ?c ?k; (case hb => exact fun _ _ _ _ _ _ us hl => match us, hl with | [_, _], _ => rfl); (case a => k_is); (case l => k_is); (case c => k_is); (case k => k_is))
    (case d18 => refine' HW.mkDef KX G ?hb ?a ?l ?c ?k; (case hb => exact fun _ _ _ _ _ _ us hl => match us, hl with | [_], _ => rfl); (case a => k_is); (case l => k_is); (case c => k_is); (case k => k_is))
    (case d19 => refine' HW.mkDef KX G ?hb ?a ?l ?c ?k; (case hb => exact fun _ _ _ _ _ _ us hl => match us, hl with | [_], _ => rfl); (case a => k_is); (case l => k_is); (case c => k_is); (case k => k_is))
    (case d20 => refine' HW.mkDef KX G ?hb ?a ?l ?c ?k; (case hb => exact fun _ _ _ _ _ _ us hl => match us, hl with | [_, _], _ => rfl); (case a => k_is); (case l => k_is); (case c => k_is); (case k => k_is))
    (case d21 => refine' HW.mkDef KX G ?hb ?a ?l ?c ?k; (case hb => exact fun _ _ _ _ _ _ us hl => match us, hl with | [_], _ => rfl); (case a => k_is); (case l => k_is); (case c => k_is); (case k => k_is))
    (case d22 => refine' HW.mkDef KX G ?hb ?a ?l ?c ?k; (case hb => exact fun _ _ _ _ _ _ us hl => match us, hl with | [_, _], _ => rfl); (case a => k_is); (case l => k_is); (case c => k_is); (case k => k_is))
    (case d23 => refine' HW.mkDef KX G ?hb ?a ?l ?c ?k; (case hb => exact fun _ _ _ _ _ _ us hl => match us, hl with | [_, _, _], _ => rfl); (case a => k_is); (case l => k_is); (case c => k_is); (case k => k_is))
    (case d24 => refine' HW.mkDef KX G ?hb ?a ?l ?c ?k; (case hb => exact fun _ _ _ _ _ _ us hl => match us, hl with | [_], _ => rfl); (case a => k_is); (case l => k_is); (case c => k_is); (case k => k_is))
    (case d25 => refine' HW.mkDef KX G ?hb ?a ?l ?c ?k; (case hb => exact fun _ _ _ _ _ _ us hl => match us, hl with | [_], _ => rfl); (case a => k_is); (case l => k_is); (case c => k_is); (case k => k_is))
    (case d26 => refine' HW.mkDef KX G ?hb ?a ?l ?c ?k; (case hb => exact fun _ _ _ _ _ _ us hl => match us, hl with | [_, _], _ => rfl); (case a => k_is); (case l => k_is); (case c => k_is); (case k => k_is))
    (case d27 => refine' HW.mkDef KX G ?hb ?a ?l ?c ?k; (case hb => exact fun _ _ _ _ _ _ us hl => match us, hl with | [_, _], _ => rfl); (case a => k_is); (case l => k_is); (case c => k_is); (case k => k_is))
    (case d28 => refine' HW.mkDef KX G ?hb ?a ?l ?c ?k; (case hb => exact fun _ _ _ _ _ _ us hl => match us, hl with | [_], _ => rfl); (case a => k_is); (case l => k_is); (case c => k_is); (case k => k_is))
    (case d29 => refine' HW.mkDef KX G ?hb ?a ?l ?c ?k; (case hb => exact fun _ _ _ _ _ _ us hl => match us, hl with | [], _ => rfl); (case a => k_is); (case l => k_is); (case c => k_is); (case k => k_is))
    (case d30 => refine' HW.mkDef KX G ?hb ?a ?l ?c ?k; (case hb => exact fun _ _ _ _ _ _ us hl => match us, hl with | [_], _ => rfl); (case a => k_is); (case l => k_is); (case c => k_is); (case k => k_is))
    (case d31 => refine' HW.mkDef KX G ?hb ?a ?l ?c ?k; (case hb => exact fun _ _ _ _ _ _ us hl => match us, hl with | [_], _ => rfl); (case a => k_is); (case l => k_is); (case c => k_is); (case k => k_is))
    (case d32 => refine' HW.mkDef KX G ?hb ?a ?l ?c ?k; (case hb => exact fun _ _ _ _ _ _ us hl => match us, hl with | [_], _ => rfl); (case a => k_is); (case l => k_is); (case c => k_is); (case k => k_is))
    (case d33 => refine' HW.mkDef KX G ?hb ?a ?l ?c ?k; (case hb => exact fun _ _ _ _ _ _ us hl => match us, hl with | [_], _ => rfl); (case a => k_is); (case l => k_is); (case c => k_is); (case k => k_is))
    (case d34 => refine' HW.mkDef KX G ?hb ?a ?l ?c ?k; (case hb => exact fun _ _ _ _ _ _ us hl => match us, hl with | [_], _ => rfl); (case a => k_is); (case l => k_is); (case c => k_is); (case k => k_is))
    (case d35 => refine' HW.mkDef KX G ?hb ?a ?l ?c ?k; (case hb => exact fun _ _ _ _ _ _ us hl => match us, hl with | [_, _], _ => rfl); (case a => k_is); (case l => k_is); (case c => k_is); (case k => k_is))
    (case d36 => refine' HW.mkDef KX G ?hb ?a ?l ?c ?k; (case hb => exact fun _ _ _ _ _ _ us hl => match us, hl with | [_, _], _ => rfl); (case a => k_is); (case l => k_is); (case c => k_is); (case k => k_is))
    (case d37 => refine' HW.mkDef KX G ?hb ?a ?l ?c ?k; (case hb => exact fun _ _ _ _ _ _ us hl => match us, hl with | [_], _ => rfl); (case a => k_is); (case l => k_is); (case c => k_is); (case k => k_is))
    (case d38 => refine' HW.mkDef KX G ?hb ?a ?l ?c ?k; (case hb => exact fun _ _ _ _ _ _ us hl => match us, hl with | [_, _], _ => rfl); (case a => k_is); (case l => k_is); (case c => k_is); (case k => k_is))
    (case d39 => refine' HW.mkDef KX G ?hb ?a ?l ?c ?k; (case hb => exact fun _ _ _ _ _ _ us hl => match us, hl with | [_], _ => rfl); (case a => k_is); (case l => k_is); (case c => k_is); (case k => k_is))
    (case d40 => refine' HW.mkDef KX G ?hb ?a ?l ?c ?k; (case hb => exact fun _ _ _ _ _ _ us hl => match us, hl with | [_], _ => rfl); (case a => k_is); (case l => k_is); (case c => k_is); (case k => k_is))
    (case d41 => refine' HW.mkDef KX G ?hb ?a ?l ?c ?k; (case hb => exact fun _ _ _ _ _ _ us hl => match us, hl with | [_, _], _ => rfl); (case a => k_is); (case l => k_is); (case c => k_is); (case k => k_is))
    (case d42 => refine' HW.mkDef KX G ?hb ?a ?l ?c ?k; (case hb => exact fun _ _ _ _ _ _ us hl => match us, hl with | [_], _ => rfl); (case a => k_is); (case l => k_is); (case c => k_is); (case k => k_is))
    (case law => refine' HW.mkLaw KX G ?hb ?a ?l ?c ?k; (case hb => exact fun _ _ _ _ _ _ _ => rfl); (case a => k_is); (case l => k_is); (case c => k_is); (case k => k_is))
